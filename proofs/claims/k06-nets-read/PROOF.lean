import PyProof.Rows.All
import HandS.List
import HandS.Call
import PyProof.Rows.All
import Wide.All
import OpenK.AllK
import Wide.FinOn
import HandS.Iter
import KE.GoesEnum
import HandS.TryOnly
import HandS.ExcValue
import PyProof.StrOps2
import PyProof.CollectIter
import PyProof.TupleIter
import KE.KUnpack
import PyProof.WalksMore
import HandS.Text
import HandS.ForMost
import HandS.ForExc
import HandS.Flow
import HandS.IsInst
import HandS.Deep
import HandS.Wide
import HandS.Style
import HandS.Defaults
import HandS.HeadHook4
import HandS.TupSets
import HandS.SetKeys
import HandS.Exc
import HandS.TupMul
import HandS.TupAny
import HandS.CallSlots
import HandS.SortInts
import HandS.ExcInit
import HandS.ExcField
import HandS.Zip
import HandS.RaiseOp
import HandS.Conv
import HandS.StrMore
import HandS.DictComp
import HandS.ExcOwn
import HandS.FStr
import KE.KCallOwn
import KE.KFmtOwn
import HandS.OwnEq
import HandS.ExcBuiltin
import HandS.HeadEnd
import HandS.Head0
import HandS.Head1
import HandS.Head2
import PyProof.P3Eq
import KE.KIntText
import PyProof.StrLawsAffix
import PySem.Challenge.RW_oweback_k06_nets_read
set_option Elab.async false
set_option linter.all false
set_option maxRecDepth 100000
set_option maxHeartbeats 0
namespace PySem
open Sem (wp)
theorem meets_enumerate_newT (l : Addr) (items : Array Value) :
    Meets (Builtin.«enumerate.__new__» ⟨[.type "enumerate", .ref l], []⟩) (fun _ R s => s.heap.IsTuple l items ∧
      R (.ok (.ret (.ref (s.heap.push { cls := .type "tuple_iterator", data := .fields #[.ref l, .int 0 0] }).objs.size)))
        { s with heap := (s.heap.push { cls := .type "tuple_iterator", data := .fields #[.ref l, .int 0 0] }).push { cls := .type "enumerate", data := .fields #[.none, .bool false, .ref s.heap.objs.size, rawInt 0, .none, .none] } }) :=
  .of_wp fun prog w A R s h => by
    obtain ⟨hp, g, d, tk, os⟩ := s; obtain ⟨hL, h⟩ := h
    have hsub := sub_enumerate
    have q1 : ∀ {A' : Around} {E : Value → Shared → Prop} {Q : Value → Shared → Prop}, Q (.ref hp.objs.size) ⟨hp.push { cls := .type "tuple_iterator", data := .fields #[.ref l, .int 0 0] }, g, d, tk, os⟩ → wpAny (model prog w) A' (pyIter (.ref l)) Q E ⟨hp, g, d, tk, os⟩ :=
      fun q => wpAny_pyIter_tuple (s := ⟨hp, g, d, tk, os⟩) hL q
    wp_walk using q1
    refine wpAny_stack_any fun st => wpAny_pure ?_
    split
    · rename_i c _ _ _ _ _
      cases (c == Value.type "enumerate")
      · wp_walk using q1
        exact ⟨_, rfl, h⟩
      · wp_walk using q1
        exact ⟨_, rfl, h⟩
    · wp_walk using q1
      exact ⟨_, rfl, h⟩
section
variable {prog : Program} {w : World} {A : Around} {E : Value → Shared → Prop} {s : Shared}
theorem call_enumerate_tup {l : Addr} {items : Array Value} {Q : Value → Shared → Prop} (hL : s.heap.IsTuple l items)
    (h : ∀ h', IsEnum h' (s.heap.objs.size + 1) s.heap.objs.size 0 .none → h'.IsTupleIter s.heap.objs.size l 0 → h'.objs.size = s.heap.objs.size + 2 →
      (∀ b o, s.heap.get? b = some o → h'.get? b = some o) → Q (.ref (s.heap.objs.size + 1)) { s with heap := h' }) :
    wpAny (model prog w) A (call (.type "enumerate") [.ref l]) Q E s := by
  refine callType_new F.called_enumerate (by decide) (F.typeCall_enumerate_1 _) (F.newCall_enumerate_1 _) (fun obj => F.args_object_init_2 obj _) F.entry_enumerate_new
    (meets_enumerate_newT l items) ⟨hL, ?_⟩
  have hz : (s.heap.push { cls := .type "tuple_iterator", data := .fields #[.ref l, .int 0 0] }).objs.size = s.heap.objs.size + 1 := Heap.size_push ..
  show _ ∧ _
  rw [hz]
  have he : IsEnum ((s.heap.push { cls := .type "tuple_iterator", data := .fields #[.ref l, .int 0 0] }).push
      { cls := .type "enumerate", data := .fields #[.none, .bool false, .ref s.heap.objs.size, rawInt 0, .none, .none] }) (s.heap.objs.size + 1) s.heap.objs.size 0 .none := by
    have := Heap.get?_push_size (s.heap.push { cls := .type "tuple_iterator", data := .fields #[.ref l, .int 0 0] })
      (o := { cls := .type "enumerate", data := .fields #[.none, .bool false, .ref s.heap.objs.size, rawInt 0, .none, .none] }) rfl
    rw [hz] at this; exact this
  exact ⟨⟨_, he, rfl⟩, h _ he ⟨_, Heap.get?_push_of_some _ (Heap.get?_push_size _ rfl), rfl, rfl⟩ (by rw [Heap.size_push, hz]) fun b o x => Heap.get?_push_of_some _ (Heap.get?_push_of_some _ x)⟩
theorem wpAny_pyNext_enum_endT {e it l : Addr} {i : Nat} {c : Int} {items : Array Value} {old : Value} {Q : Option Value → Shared → Prop} (hh : A.handled = none)
    (he : IsEnum s.heap e it c old) (hit : s.heap.IsTupleIter it l i) (hl : s.heap.IsTuple l items) (hx : items[i]? = none)
    (hQ : ∀ h', Heap.ExtBut it s.heap h' → Q none { s with heap := h' }) : wpAny (model prog w) A (pyNext (.ref e)) Q E s := by
  have hT : s.TypeIs (.ref e) "enumerate" := ⟨_, he, rfl⟩
  unfold pyNext
  refine wpAny_bind (wpAny_attempt (wpAny_callSpecial?_slot (name := Str.ofString "__next__") hT F.slot_enumerate_next
    (wpAny_call_entry F.slot_enumerate_next hT F.entry_enumerate_next ?_ (F.args_enumerate_next_1 _))))
  show wpAny _ _ (field (.ref e) 2 >>= _) _ _ _
  refine wpAny_bind (wpAny_field he rfl (x := .ref it) rfl ?_)
  refine wpAny_bind (wpAny_nextOf_tuple_end hh hit hl hx fun h' x he' hx' => ?_)
  obtain ⟨o, ho, hc⟩ := hx'
  refine wpAny_bind (wpAny_isInstance (T := "StopIteration") (b := true) ⟨o, ho, hc⟩ isSubtype_stop ?_)
  exact wpAny_pure (hQ _ he')
end
end PySem
namespace L2
open PySem PySem.Spec PyProof.Rows
/-- the tuple at a, each item in a new pair -/
def ItE (K : PySem.W.Frag) (a : Addr) : It :=
  ⟨fun i H => ∃ (xs : List V) (x : V), SqT K H a xs ∧ xs[i]? = some x, fun i H v H' => ∃ T x, v = .ref T ∧ H T = none ∧ H' = upd H T (.tup [.int (i : Nat), x]) ∧ ∀ xs, SqT K H a xs → xs[i]? = some x, fun i H => ∃ xs : List V, SqT K H a xs ∧ xs.length ≤ i⟩
theorem turn_enumT {P : Program} {w : World} {K : PySem.W.Frag} {elts : List Expr} {kk : Nat} {tpos : Pos} (a e it : Addr) (hat : a ≠ it) (hae : a ≠ e) :
    Turn P w K (.Tuple elts kk tpos) (ItE K a) [e, it] e (fun i h => (∃ old, IsEnum h e it ((i : Nat) : Int) old) ∧ h.IsTupleIter it a i ∧ e ≠ it) where
  mem := by simp
  obj := fun i h st b hb => by
    obtain ⟨⟨old, he⟩, ⟨o, ho, hc, hd⟩, _⟩ := st
    have e' : b = e ∨ b = it := by simpa using hb
    rcases e' with z | z
    · rw [z]; exact ⟨_, he, fun v q => nomatch q⟩
    · rw [z]; exact ⟨o, ho, fun v q => by rw [hd] at q; cases q⟩
  keep := fun i h h' st k => let ⟨⟨old, he⟩, hi, hne⟩ := st; ⟨⟨old, k e (by simp) _ he⟩, hi.at fun o q => k it (by simp) o q, hne⟩
  item := by
    intro X hP hw hK hc i pins s σ H E I hf st hg
    subst hP hw hK
    obtain ⟨⟨old, he⟩, hit, hne⟩ := st
    obtain ⟨xs, x, hq, hx⟩ := hg
    obtain ⟨its, rv, p, hz⟩ := I.tuple hq
    obtain ⟨u, hu, ru⟩ := rv.get hx
    have hel : e < s.heap.objs.size := Heap.lt_size he
    have hil : it < s.heap.objs.size := by obtain ⟨_, q, _⟩ := hit; exact Heap.lt_size q
    have hp : s.heap.IsTuple a its.toArray := p
    refine wpAny_pyNext_enum_itemD (Draws.tuple (A := X.A.in1) (I.ok.hd hc) it a hat its.toArray) he ⟨hit, hp⟩ (by
      have := (List.getElem?_eq_some_iff.mp hu).1
      simpa using this) hne (by simp; exact ⟨hne, fun z => hae z.symm⟩) fun x' h' tk hx' ho ⟨hit', _⟩ hT hsz hk => ?_
    have ex' : x' = u := by
      have : its.toArray[i]? = some x' := hx'
      rw [List.getElem?_toArray, hu] at this
      exact (Option.some.inj this).symm
    subst ex'
    refine ⟨_, rfl, wpAny_letOwnedTupleGo_enum (s := { s with heap := h', toks := tk + 1 }) ho fun h'' he' sb => ?_⟩
    have hT2 : h''.get? s.heap.objs.size = some { cls := .type "tuple", data := .seq #[.int i tk, x'] } := (sb.2 _ (Nat.ne_of_gt hel)).trans hT
    have new : ObjOk X.prog X.w (upd H s.heap.objs.size (.tup [.int (i : Nat), x])) h'' s.heap.objs.size (.tup [.int (i : Nat), x]) :=
      ⟨by show 2 ≤ sizeLine; decide, [.int i tk, x'], .cons ⟨_, rfl⟩ (.cons ru .nil), ⟨_, hT2, rfl, _, rfl⟩⟩
    have I1 : Inv X pins σ (upd H s.heap.objs.size (.tup [.int (i : Nat), x])) { s with heap := h'', toks := tk + 1 } :=
      I.turnedNew (ch := [e, it]) (fun b ob hb q => (sb.2 b (fun z => hb (by simp [z]))).trans (hk b ob (fun z => hb (by simp [z])) (fun z => hb (by simp [z])) q)) hf (Nat.le_refl _) new
    refine ⟨.ref s.heap.objs.size, _, I1, rfl, ⟨_, x, rfl, I.hok.fresh (Nat.le_refl _), rfl, fun ys hy => by rw [I.tuple_inj hy hq]; exact hx⟩, ⟨⟨x', ?_⟩, hit'.at fun o q => (sb.2 it (Ne.symm hne)).trans q, hne⟩, fun b hb => ?_⟩
    · have e1 : ((i + 1 : Nat) : Int) = (i : Int) + 1 := by omega
      rw [e1]; exact he'
    · have hb' : b < s.heap.objs.size := by
        have e' : b = e ∨ b = it := by simpa using hb
        rcases e' with z | z
        · rw [z]; exact hel
        · rw [z]; exact hil
      rw [upd_ne (Nat.ne_of_lt hb')]
      exact (hf b hb).1
  done := by
    intro X hP hw hK hc i pins s σ H E I hf st hg
    subst hP hw hK
    obtain ⟨⟨old, he⟩, hit, hne⟩ := st
    obtain ⟨xs, hq, hx⟩ := hg
    obtain ⟨its, rv, p, hz⟩ := I.tuple hq
    obtain ⟨f0, f1, f2, f3, f4, f5⟩ := hf it (by simp)
    have hl := rv.length
    have hp : s.heap.IsTuple a its.toArray := p
    exact wpAny_pyNext_enum_endT (A := X.A) (I.ok.hd hc) he hit hp (by simp; omega) fun h' eb => ⟨rfl, I.turned (t' := s.toks) (fun b o hb q => eb b o hb q) f0 f1 f3 f4 f5⟩
  self := fun A i s Q E st h => let ⟨⟨_, he⟩, _⟩ := st; wpAny_pyIter_enum he h
def iEnumT (K : PySem.W.Frag) (ta : TA) : TI := fun σ H R => ta σ H fun vs H1 => ∃ a xs, vs = [.ref a] ∧ SqT K H1 a xs ∧ R (ItE K a) H1
theorem pi_enumT {X : Cx} {e : Expr} {ta : TA} {p pos tpos : Pos} {elts : List Expr} {kk : Nat} (hg : Gl X "enumerate") (hm : X.mg "enumerate" = none) (ha : PA X [e] ta) (hs : starEach [e] X.env = [(false, eval e X.env)] := by rfl) :
    PI X (.Tuple elts kk tpos) (.Call (.Name "enumerate" p) [e] [] pos) (iEnumT X.K ta) := by
  refine ⟨fun pins s σ H R I h => ?_⟩
  refine Call_ (ld_blt I hg hm boot_enumerate (PyProof.Rows.callWith_type1 (thn (ha.run pos pins s σ H _ I h) fun us s1 ⟨vs, H1, I1, r1, q1⟩ => ?_) hs rfl))
  obtain ⟨a, xs, ex, hq, q⟩ := q1
  subst ex
  cases r1 with
  | cons r rr =>
    cases rr
    cases r
    obtain ⟨its, rv, p', hz⟩ := I1.tuple hq
    have hp : s1.heap.IsTuple a its.toArray := p'
    have hal : a < s1.heap.objs.size := by obtain ⟨o, e, _⟩ := hp; exact Heap.lt_size e
    refine call_enumerate_tup hp fun h' he hit hsz hk => wpAny_pyIter_enum he ?_
    have I2 : Inv X pins σ H1 { s1 with heap := h' } := I1.kept (t' := s1.toks) hk
    refine ⟨s1.heap.objs.size + 1, [s1.heap.objs.size + 1, s1.heap.objs.size], _, _, H1, rfl, I2, turn_enumT a (s1.heap.objs.size + 1) s1.heap.objs.size (Nat.ne_of_lt hal) (Nat.ne_of_lt (Nat.lt_succ_of_lt hal)), ⟨⟨.none, he⟩, hit, Nat.succ_ne_self _⟩, fun b hb => ?_, q⟩
    have e' : b = s1.heap.objs.size + 1 ∨ b = s1.heap.objs.size := by simpa using hb
    have hle : s1.heap.objs.size ≤ b := by
      rcases e' with z | z
      · rw [z]; exact Nat.le_add_right _ _
      · rw [z]; exact Nat.le_refl _
    exact I1.fpOk hle (I1.hok.fresh hle)
end L2
namespace PySem
open Sem (wp)
theorem Walks.shift {prog : Program} {w : World} {A : Around} {I : Addr} {fp wr : List Addr} {n k : Nat} {P : Nat → Value → Prop} {St : Nat → Heap → Prop} (W : Walks prog w A I fp wr n P St) (hk : k ≤ n) :
    Walks prog w A I fp wr (n - k) (fun i v => P (i + k) v) (fun i h => St (i + k) h) where
  sub := W.sub
  frame := fun i h h' st q => W.frame (i + k) h h' st q
  item := fun i s Q E hi st hQ => W.item (i + k) s Q E (by omega) st fun v h' tk p st' q => hQ v h' tk p (by rw [show i + 1 + k = i + k + 1 by omega]; exact st') q
  done := fun s Q E st hQ => W.done s Q E (by rw [show n - k + k = n by omega] at st; exact st) hQ
  self := fun i s Q E st hQ => W.self (i + k) s Q E st hQ
section
variable {prog : Program} {w : World} {A : Around} {E : Value → Shared → Prop} {s : Shared}
theorem Walks.tup (hh : A.handled = none) (I ax : Addr) (hne : ax ≠ I) (items : Array Value) :
    Walks prog w A I [I, ax] [I] items.size (fun i v => items[i]? = some v) (fun i h => h.IsTupleIter I ax i ∧ h.IsTuple ax items) where
  sub := fun b hb => by simp at hb; simp [hb]
  frame := fun _ _ _ st hk => ⟨st.1.at fun o e => hk I (by simp) o e, st.2.at fun o e => hk ax (by simp) o e⟩
  item := fun i s Q E hi st hQ => by
    refine wpAny_pyNext_tuple_item st.1 st.2 (x := items[i]) (by simp [hi]) fun h' hit' hs' => ?_
    exact hQ _ h' s.toks (by simp [hi]) ⟨hit', st.2.extBut hs'.extBut hne⟩ fun b o hb e => hs'.extBut b o (fun h => hb (by simp [h])) e
  done := fun s Q E st hQ => wpAny_pyNext_tuple_end hh st.1 st.2 (by simp) fun h' he' => hQ h' s.toks fun b o hb e => he' b o (fun h => hb (by simp [h])) e
  self := fun _ _ _ _ st hQ => wpAny_pyIter_tupleiter st.1 hQ
theorem itemsOf_list {acc items : Array Value} {k : Nat} (hk : k ≤ items.size) (h : ItemsOf (fun i v => items[i + k]? = some v) acc (items.size - k)) : acc.toList = items.toList.drop k := by
  obtain ⟨hs, hv⟩ := h
  refine List.ext_getElem? fun j => ?_
  rw [List.getElem?_drop]
  by_cases hj : j < acc.size
  · have e := hv j acc[j] (by simp [hj])
    have e2 : acc.toList[j]? = some acc[j] := by simp [hj]
    rw [e2, Nat.add_comm, Array.getElem?_toList]
    exact e.symm
  · rw [List.getElem?_eq_none (by simpa using hj), List.getElem?_eq_none (by simp; omega)]
end
end PySem
namespace PyProof.Rows
open PySem
section
variable {prog : Program} {w : World} {A : Around} {E : Value → Shared → Prop} {s : Shared}
theorem size_drop_le {items : Array Value} {k : Nat} (hz : items.size ≤ sizeLine) : (items.toList.drop k).toArray.size ≤ sizeLine := by
  rw [List.size_toArray, List.length_drop, Array.length_toList]; omega
/-- what stands behind the first ones, collected -/
theorem star_tail {it : Addr} {T : String} {items : Array Value} {k : Nat} {fp wr : List Addr} {St : Nat → Heap → Prop} {Q : List Value → Shared → Prop} (hTm : T = "list_iterator" ∨ T = "tuple_iterator")
    (W : Walks prog w A.in1 it fp wr items.size (fun i v => items[i]? = some v) St) (hT : ∀ i h, St i h → ∃ o, h.get? it = some o ∧ o.cls = .type T) (hst : St k s.heap) (hfp : ∀ b ∈ fp, b < s.heap.objs.size) (hI : it ∈ fp) (hz : items.size ≤ sizeLine) (hk : k ≤ items.size)
    (hQ : ∀ (h' : Heap) tk, (∀ b o, b ∉ wr → s.heap.get? b = some o → h'.get? b = some o) → Q (items.toList.drop k) { s with heap := h', toks := tk }) :
    wpAny (model prog w) A (collect (.ref it)) Q E s := by
  refine wpAny_collect_iter (T := T) (by rcases hTm with e | e <;> simp [e]) (W.shift hk).toS (fun i s' st => ?_) (show St (0 + k) s.heap by rw [Nat.zero_add]; exact hst) hfp hI (fun s' acc hm ha => ?_) (by omega)
  · obtain ⟨o, e, c⟩ := hT _ _ st
    exact ⟨o, e, c⟩
  · rw [itemsOf_list hk ha]
    obtain ⟨h', g', d', tk', os'⟩ := s'
    obtain ⟨m1, m2, m3, m4, m5⟩ := hm
    simp only at m1 m2 m3 m4 m5
    subst m2 m3 m4
    exact hQ h' tk' m1
/-- behind the iterator -/
theorem star_end {it t : Addr} {T : String} {items : Array Value} {k : Nat} {h₁ : Heap} {Q : List Value → Shared → Prop} {St : Nat → Heap → Prop} (hTm : T = "list_iterator" ∨ T = "tuple_iterator")
    (W : Walks prog w A.in1 it [it, t] [it] items.size (fun i v => items[i]? = some v) St) (hT : ∀ i h, St i h → ∃ o, h.get? it = some o ∧ o.cls = .type T) (hst : St k h₁) (hit : it < h₁.objs.size) (htl : t < h₁.objs.size) (hz : items.size ≤ sizeLine) (hk : k ≤ items.size)
    (hs : ∀ b o, s.heap.get? b = some o → b ≠ it ∧ h₁.get? b = some o)
    (hQ : ∀ (h' : Heap) tk, (∀ b o, s.heap.get? b = some o → h'.get? b = some o) →
      Q (items.toList.take k ++ [.ref h'.objs.size]) { s with heap := h'.push { cls := .type "list", data := .seq (items.toList.drop k).toArray }, toks := tk }) :
    wpAny (model prog w) A (do
      let first := items.toList.take k
      if first.length < k then
        rule "unpack.star.too-few-before"
        raiseError "ValueError" s!"not enough values to unpack (expected at least {k + 1 - 1}, got {first.length})"
      let rest ← holding first (collect (.ref it))
      let after := k + 1 - 1 - k
      if rest.length < after then
        rule "unpack.star.too-few"
        raiseError "ValueError" s!"not enough values to unpack (expected at least {k + 1 - 1}, got {k + rest.length})"
      let mid := rest.length - after
      return first ++ [← newList (rest.take mid)] ++ rest.drop mid) Q E { s with heap := h₁ } := by
  have hl : (items.toList.take k).length = k := by simp; omega
  rw [if_neg (by rw [hl]; omega)]
  refine wpAny_bind (wpAny_holding (star_tail (s := { s with heap := h₁ }) hTm W hT hst (fun b hb => ?_) (by simp) hz hk fun h' tk kk => ?_))
  · have e : b = it ∨ b = t := by simpa using hb
    rcases e with e | e
    · rw [e]; exact hit
    · rw [e]; exact htl
  have ha : k + 1 - 1 - k = 0 := by omega
  rw [ha, if_neg (by omega), Nat.sub_zero]
  show wpAny _ _ (do
      let l ← newList (List.take (items.toList.drop k).length (items.toList.drop k))
      pure (items.toList.take k ++ [l] ++ List.drop (items.toList.drop k).length (items.toList.drop k))) _ _ _
  rw [List.take_length, List.drop_length]
  refine wpAny_bind (wpAny_newList ?_ (by rw [List.length_drop, Array.length_toList]; omega))
  rw [List.append_nil]
  exact wpAny_pure (hQ h' tk fun b o e => kk b o (by simpa using (hs b o e).1) (hs b o e).2)
/-- a, b, *c = a tuple -/
theorem unpackItems_tupleS {t : Addr} {items : Array Value} {k : Nat} {Q : List Value → Shared → Prop} (hh : A.handled = none) (ht : s.heap.IsTuple t items) (hz : items.size ≤ sizeLine) (hk : k ≤ items.size)
    (hQ : ∀ (h' : Heap) tk, (∀ b o, s.heap.get? b = some o → h'.get? b = some o) →
      Q (items.toList.take k ++ [.ref h'.objs.size]) { s with heap := h'.push { cls := .type "list", data := .seq (items.toList.drop k).toArray }, toks := tk }) :
    wpAny (model prog w) A (unpackItems (.ref t) (k + 1) (some k)) Q E s := by
  have htl : t < s.heap.objs.size := by obtain ⟨o, ho, _⟩ := ht; exact Heap.lt_size ho
  have hlt : t ≠ s.heap.objs.size := Nat.ne_of_lt htl
  unfold unpackItems
  refine wpAny_bind ?_
  unfold notIterableAtAll
  refine wpAny_bind (wpAny_specialOf ht.typeIs PySem.F.slot_tuple_iter.lookup ?_)
  refine wpAny_pure ?_
  simp only [Bool.false_eq_true, if_false]
  refine wpAny_bind (wpAny_holding (wpAny_pyIter_tuple ht ?_))
  refine wpAny_bind (wpAny_holding (draw_tuple hlt k 0 _ _ ⟨_, Heap.get?_push_size _ rfl, rfl, rfl⟩ (ht.push _) (by omega) fun h₁ hit₁ hs₁ => ?_))
  rw [List.drop_zero]
  have h1 : h₁.objs.size = s.heap.objs.size + 1 := by rw [hs₁.1, Heap.size_push]
  have ht₁ : h₁.IsTuple t items := (ht.push _).extBut hs₁.extBut hlt
  rw [Nat.zero_add] at hit₁
  exact star_end (s := s) (t := t) (.inr rfl) (Walks.tup (A := A.in1) hh s.heap.objs.size t hlt items) (fun i h st => by obtain ⟨⟨o, e, c, _⟩, _⟩ := st; exact ⟨o, e, c⟩) ⟨hit₁, ht₁⟩ (by rw [h1]; exact Nat.lt_succ_self _) (by rw [h1]; exact Nat.lt_succ_of_lt htl) hz hk
    (fun b o e => ⟨Nat.ne_of_lt (Heap.lt_size e), hs₁.extBut b o (Nat.ne_of_lt (Heap.lt_size e)) (Heap.get?_push_of_some _ e)⟩) hQ
/-- a, b, *c = a list -/
theorem unpackItems_listS {t : Addr} {items : Array Value} {k : Nat} {Q : List Value → Shared → Prop} (hh : A.handled = none) (ht : s.heap.IsList t items) (hz : items.size ≤ sizeLine) (hk : k ≤ items.size)
    (hQ : ∀ (h' : Heap) tk, (∀ b o, s.heap.get? b = some o → h'.get? b = some o) →
      Q (items.toList.take k ++ [.ref h'.objs.size]) { s with heap := h'.push { cls := .type "list", data := .seq (items.toList.drop k).toArray }, toks := tk }) :
    wpAny (model prog w) A (unpackItems (.ref t) (k + 1) (some k)) Q E s := by
  have htl : t < s.heap.objs.size := by obtain ⟨o, ho, _⟩ := ht; exact Heap.lt_size ho
  have hlt : t ≠ s.heap.objs.size := Nat.ne_of_lt htl
  unfold unpackItems
  refine wpAny_bind ?_
  unfold notIterableAtAll
  refine wpAny_bind (wpAny_specialOf ht.typeIs PySem.slot_list_iter.lookup ?_)
  refine wpAny_pure ?_
  simp only [Bool.false_eq_true, if_false]
  refine wpAny_bind (wpAny_holding (wpAny_pyIter_list ht ?_))
  refine wpAny_bind (wpAny_holding (PySem.W.kun_draw hlt k 0 _ _ ⟨_, Heap.get?_push_size _ rfl, rfl, rfl⟩ (ht.push _) (by omega) fun h₁ hit₁ hs₁ => ?_))
  rw [List.drop_zero]
  have h1 : h₁.objs.size = s.heap.objs.size + 1 := by rw [hs₁.1, Heap.size_push]
  have ht₁ : h₁.IsList t items := (ht.push _).extBut hs₁.extBut hlt
  rw [Nat.zero_add] at hit₁
  exact star_end (s := s) (t := t) (.inl rfl) (Walks.list (A := A.in1) hh s.heap.objs.size t hlt items) (fun i h st => by obtain ⟨⟨o, e, c, _⟩, _⟩ := st; exact ⟨o, e, c⟩) ⟨hit₁, ht₁⟩ (by rw [h1]; exact Nat.lt_succ_self _) (by rw [h1]; exact Nat.lt_succ_of_lt htl) hz hk
    (fun b o e => ⟨Nat.ne_of_lt (Heap.lt_size e), hs₁.extBut b o (Nat.ne_of_lt (Heap.lt_size e)) (Heap.get?_push_of_some _ e)⟩) hQ
end
end PyProof.Rows

namespace L2
open PySem PySem.Spec PyProof.Rows
section
variable {X : Cx} {pos : Pos}
/-- (a, b, .., *c) = a tuple, a list -/
def gStar (K : PySem.W.Frag) (n : Nat) (t : TGs) : TG := fun v σ H Q => ∃ a xs, v = .ref a ∧ (SqT K H a xs ∨ SqL K H a xs) ∧ n ≤ xs.length ∧ ∀ p, H p = none → t (xs.take n ++ [.ref p]) σ (upd H p (.lst (xs.drop n))) Q
theorem vals_take {vs : List V} {us : List Value} (r : Vals vs us) (n : Nat) : Vals (vs.take n) (us.take n) := by
  induction r generalizing n with
  | nil => simp; exact .nil
  | cons a b ih => cases n with
    | zero => exact .nil
    | succ n => exact .cons a (ih n)
theorem vals_drop {vs : List V} {us : List Value} (r : Vals vs us) (n : Nat) : Vals (vs.drop n) (us.drop n) := by
  induction r generalizing n with
  | nil => simp; exact .nil
  | cons a b ih => cases n with
    | zero => exact .cons a b
    | succ n => exact ih n
theorem pg_star {es : List Expr} {k : Nat} {t : TGs} {n : Nat} (hc : X.calm = true) (h : PGs X es t)
    (hn : (assignEach es X.env).length = n + 1) (hst : (assignEach es X.env).findIdx? (·.1) = some n) : PG X (.Tuple es k pos) (gStar X.K n t) := by
  refine ⟨fun pins s σ H v u Q I r hw => ?_⟩
  obtain ⟨a, xs, e1, hq, hl, hw⟩ := hw
  subst e1
  cases r
  rw [PyProof.Rows.assign_Tuple]
  refine wpAny_bind (wpAny_standAt ?_)
  unfold unpack
  rw [hn, hst]
  have fin : ∀ {its : List Value}, Vals xs its → its.length ≤ sizeLine → ∀ (h' : Heap) tk, (∀ b o, s.heap.get? b = some o → h'.get? b = some o) →
      wpAny (model X.prog X.w) X.A (assignInOrder ((assignEach es X.env).map (·.2)) (its.take n ++ [.ref h'.objs.size])) (fun _ s' => ∃ σ' H', Inv X pins σ' H' s' ∧ Q σ' H') X.xe { s with heap := h'.push { cls := .type "list", data := .seq (its.drop n).toArray }, toks := tk } := fun {its} rv hz h' tk kk => by
    have hnone : s.heap.get? h'.objs.size = none := by
      cases z : s.heap.get? h'.objs.size with
      | none => rfl
      | some o => exact (Nat.lt_irrefl _ (Heap.lt_size (kk _ o z))).elim
    have hH : H h'.objs.size = none := I.hok.gone hnone
    have rd := vals_drop rv n
    have I1 : Inv X pins σ (upd H h'.objs.size (.lst (xs.drop n))) { s with heap := h'.push { cls := .type "list", data := .seq (its.drop n).toArray }, toks := tk } :=
      I.laidN (fun b u q => Heap.get?_push_of_some _ (kk b u q)) hnone hH ⟨by rw [rd.length, List.length_drop]; omega, its.drop n, 0, rd, Heap.get?_push_size _ rfl⟩
    exact h.run pins _ σ _ _ _ Q I1 ((vals_take rv n).append (.cons (show RelV (.ref h'.objs.size) (.ref h'.objs.size) from rfl) .nil)) (hw _ hH)
  rcases hq with hq | hq
  · obtain ⟨its, rv, p, hz⟩ := I.tuple hq
    have hp : s.heap.IsTuple a its.toArray := p
    refine wpAny_bind (wpAny_holding (unpackItems_tupleS (I.ok.hd hc) hp (by rw [List.size_toArray, ← rv.length]; exact hz) (by rw [List.size_toArray, ← rv.length]; exact hl) fun h' tk kk => ?_))
    exact fin rv (by rw [← rv.length]; exact hz) h' tk kk
  · obtain ⟨its, rv, p, hz⟩ := I.list hq
    refine wpAny_bind (wpAny_holding (unpackItems_listS (I.ok.hd hc) p.isList (by rw [List.size_toArray, ← rv.length]; exact hz) (by rw [List.size_toArray, ← rv.length]; exact hl) fun h' tk kk => ?_))
    exact fin rv (by rw [← rv.length]; exact hz) h' tk kk
/-- text * number -/
def repS (x : Str) (n : Int) : Str := ⟨(List.replicate n.toNat x.cps.toList).flatten.toArray⟩
theorem op_mulS : OpR X (binaryOp .Mult) (fun x y H Q => ∃ (z : Str) (n : Int), x = .str z ∧ y = .int n ∧ -(2 ^ 62) ≤ n ∧ n ≤ 1000000 ∧ z.length ≤ 16 ∧ Q (.str (repS z n)) H) := by
  rintro pins s σ H x y v u Q I rx ry ⟨z, n, rfl, rfl, h1, h2, h3, q⟩
  obtain ⟨t, rfl⟩ := rx
  obtain ⟨t', rfl⟩ := ry
  have fold : ∀ m : Nat, (List.replicate m z.cps).foldl (· ++ ·) #[] = (List.replicate m z.cps.toList).flatten.toArray := fun m => by
    have gen : ∀ (m : Nat) (acc : Array Nat), (List.replicate m z.cps).foldl (· ++ ·) acc = acc ++ (List.replicate m z.cps.toList).flatten.toArray := fun m => by
      induction m with
      | zero => intro acc; simp
      | succ m ih => intro acc; rw [List.replicate_succ, List.foldl_cons, ih, List.replicate_succ, List.flatten_cons, Array.append_assoc]; congr 1; apply Array.ext'; simp
    rw [gen]; simp
  have hz : z.length = z.cps.size := rfl
  refine PySem.P.mul_str (by rw [decide_eq_false (by omega), decide_eq_false (by omega)]; rfl) (fun c1 c2 => ?_) (fun c1 c2 => ?_) ?_
  · have hn : 0 < n := by omega
    have : (16 : Int) ≤ (2 ^ 63 - 1) / n := by
      rw [Int.le_ediv_iff_mul_le hn]
      omega
    omega
  · unfold Builtin.Str.tooLong
    have : z.length * n.toNat ≤ 16 * 1000000 := Nat.mul_le_mul h3 (by omega)
    have hs : sizeLine = 16777216 := sizeLine_eq
    exact decide_eq_false (by rw [hs]; omega)
  · have hs : sizeLine = 16777216 := sizeLine_eq
    split
    · rename_i c
      have e : repS z n = Str.empty := by unfold repS; rw [Int.toNat_of_nonpos (by omega)]; rfl
      rw [e] at q
      exact ⟨Nat.zero_le _, .str Str.empty, H, I.tok _, ⟨_, rfl⟩, q⟩
    · split
      · rename_i c1 c2
        have e : repS z n = z := by
          unfold repS
          rw [Bool.or_eq_true, beq_iff_eq, beq_iff_eq] at c2
          rcases c2 with c2 | c2
          · subst c2
            show (⟨(List.replicate 1 z.cps.toList).flatten.toArray⟩ : Str) = z
            simp
          · have : z.cps = #[] := Array.eq_empty_of_size_eq_zero (by rw [← hz]; exact c2)
            obtain ⟨zz⟩ := z
            simp only at this
            subst this
            simp
        rw [e] at q
        exact ⟨.str z, H, I, ⟨_, rfl⟩, q⟩
      · rw [fold]
        refine ⟨?_, .str (repS z n), H, I.tok _, ⟨_, rfl⟩, q⟩
        show (List.replicate n.toNat z.cps.toList).flatten.toArray.size ≤ sizeLine
        rw [List.size_toArray, PyProof.Rows.lm_len_rep_flat, hs, Array.length_toList]
        have : n.toNat * z.cps.size ≤ 1000000 * 16 := Nat.mul_le_mul (by omega) (by rw [← hz]; exact h3)
        omega
end
end L2
namespace VY
open PySem L2

/-- a value: immutable containers as trees; slst: a list that the top or the caller holds, read only; ref: a mutable object of the small heap -/
inductive T where
  | non | bl (b : Bool) | int (i : Int) | str (s : Str) | ty (n : String) | gl (x : Str) | ref (n : Nat)
  | tup (l : List T) | lst (l : List T) | slst (l : List T) | dct (l : List (Key × T)) | ins (c : Str) (fs : List (Str × T))
  | kst (l : List Key) | tst (l : List (List Key))
  deriving Inhabited
/-- a mutable object -/
inductive HOb where
  | lst (l : List T) | dct (l : List (Key × T)) | ins (c : Str) (fs : List (Str × T)) | set (l : List Key) | tst (l : List (List Key)) | dead
mutual
def T.beq : T → T → Bool
  | .non, .non => true
  | .bl a, .bl b => a == b
  | .int a, .int b => decide (a = b)
  | .str a, .str b => decide (a = b)
  | .ty a, .ty b => decide (a = b)
  | .gl a, .gl b => decide (a = b)
  | .ref a, .ref b => decide (a = b)
  | .tup a, .tup b => Ts.beq a b
  | .lst a, .lst b => Ts.beq a b
  | .slst a, .slst b => Ts.beq a b
  | .dct a, .dct b => Td.beq a b
  | .ins c a, .ins d b => decide (c = d) && Tf.beq a b
  | .kst a, .kst b => decide (a = b)
  | .tst a, .tst b => decide (a = b)
  | _, _ => false
def Ts.beq : List T → List T → Bool
  | [], [] => true
  | a :: l, b :: m => T.beq a b && Ts.beq l m
  | _, _ => false
def Td.beq : List (Key × T) → List (Key × T) → Bool
  | [], [] => true
  | (k, a) :: l, (k', b) :: m => decide (k = k') && T.beq a b && Td.beq l m
  | _, _ => false
def Tf.beq : List (Str × T) → List (Str × T) → Bool
  | [], [] => true
  | (k, a) :: l, (k', b) :: m => decide (k = k') && T.beq a b && Tf.beq l m
  | _, _ => false
end
def HOb.beq : HOb → HOb → Bool
  | .lst a, .lst b => Ts.beq a b
  | .dct a, .dct b => Td.beq a b
  | _, _ => false
mutual
theorem T.beq_eq : ∀ {a b : T}, T.beq a b = true → a = b
  | .non, b, e => by cases b <;> simp [T.beq] at e ⊢
  | .bl a, b, e => by cases b <;> simp [T.beq] at e ⊢; exact e
  | .int a, b, e => by cases b <;> simp [T.beq] at e ⊢; exact e
  | .str a, b, e => by cases b <;> simp [T.beq] at e ⊢; exact e
  | .ty a, b, e => by cases b <;> simp [T.beq] at e ⊢; exact e
  | .gl a, b, e => by cases b <;> simp [T.beq] at e ⊢; exact e
  | .ref a, b, e => by cases b <;> simp [T.beq] at e ⊢; exact e
  | .tup a, b, e => by cases b <;> simp [T.beq] at e ⊢; exact Ts.beq_eq e
  | .lst a, b, e => by cases b <;> simp [T.beq] at e ⊢; exact Ts.beq_eq e
  | .slst a, b, e => by cases b <;> simp [T.beq] at e ⊢; exact Ts.beq_eq e
  | .dct a, b, e => by cases b <;> simp [T.beq] at e ⊢; exact Td.beq_eq e
  | .ins c a, b, e => by cases b <;> simp [T.beq] at e ⊢; exact ⟨e.1, Tf.beq_eq e.2⟩
  | .kst a, b, e => by cases b <;> simp [T.beq] at e ⊢; exact e
  | .tst a, b, e => by cases b <;> simp [T.beq] at e ⊢; exact e
theorem Ts.beq_eq : ∀ {a b : List T}, Ts.beq a b = true → a = b
  | [], [], _ => rfl
  | a :: l, b :: m, e => by
    rw [Ts.beq, Bool.and_eq_true] at e
    rw [T.beq_eq e.1, Ts.beq_eq e.2]
  | [], _ :: _, e => by simp [Ts.beq] at e
  | _ :: _, [], e => by simp [Ts.beq] at e
theorem Td.beq_eq : ∀ {a b : List (Key × T)}, Td.beq a b = true → a = b
  | [], [], _ => rfl
  | (k, a) :: l, (k', b) :: m, e => by
    rw [Td.beq, Bool.and_eq_true, Bool.and_eq_true, decide_eq_true_eq] at e
    rw [e.1.1, T.beq_eq e.1.2, Td.beq_eq e.2]
  | [], _ :: _, e => by simp [Td.beq] at e
  | _ :: _, [], e => by simp [Td.beq] at e
theorem Tf.beq_eq : ∀ {a b : List (Str × T)}, Tf.beq a b = true → a = b
  | [], [], _ => rfl
  | (k, a) :: l, (k', b) :: m, e => by
    rw [Tf.beq, Bool.and_eq_true, Bool.and_eq_true, decide_eq_true_eq] at e
    rw [e.1.1, T.beq_eq e.1.2, Tf.beq_eq e.2]
  | [], _ :: _, e => by simp [Tf.beq] at e
  | _ :: _, [], e => by simp [Tf.beq] at e
end
mutual
theorem T.beq_rfl : ∀ a : T, T.beq a a = true
  | .non => by simp [T.beq]
  | .bl a => by simp [T.beq]
  | .int a => by simp [T.beq]
  | .str a => by simp [T.beq]
  | .ty a => by simp [T.beq]
  | .gl a => by simp [T.beq]
  | .ref a => by simp [T.beq]
  | .tup a => by simp [T.beq]; exact Ts.beq_rfl a
  | .lst a => by simp [T.beq]; exact Ts.beq_rfl a
  | .slst a => by simp [T.beq]; exact Ts.beq_rfl a
  | .dct a => by simp [T.beq]; exact Td.beq_rfl a
  | .ins c a => by simp [T.beq]; exact Tf.beq_rfl a
  | .kst a => by simp [T.beq]
  | .tst a => by simp [T.beq]
theorem Ts.beq_rfl : ∀ a : List T, Ts.beq a a = true
  | [] => by simp [Ts.beq]
  | a :: l => by rw [Ts.beq, T.beq_rfl a, Ts.beq_rfl l]; rfl
theorem Td.beq_rfl : ∀ a : List (Key × T), Td.beq a a = true
  | [] => by simp [Td.beq]
  | (k, a) :: l => by rw [Td.beq, T.beq_rfl a, Td.beq_rfl l, decide_eq_true rfl]; rfl
theorem Tf.beq_rfl : ∀ a : List (Str × T), Tf.beq a a = true
  | [] => by simp [Tf.beq]
  | (k, a) :: l => by rw [Tf.beq, T.beq_rfl a, Tf.beq_rfl l, decide_eq_true rfl]; rfl
end
theorem HOb.beq_eq {a b : HOb} (e : HOb.beq a b = true) : a = b := by
  cases a <;> cases b <;> simp [HOb.beq] at e
  · rw [Ts.beq_eq e]
  · rw [Td.beq_eq e]
/-- what an expression gives: a value, a fresh list that nobody else holds, the list that slot i owns -/
inductive R where
  | v (t : T) | al (l : List T) | bw (i : Nat)
/-- a slot: a value, or a list that it owns -/
inductive Sl where
  | v (t : T) | al (l : List T) | xn (c : Str) (fs : List (Str × T))
abbrev Slots := List (Option Sl)
abbrev Hs := List HOb
/-- an exception: a built-in class, an own class with its fields -/
inductive Xn where
  | blt (n : String) | own (c : Str) (fs : List (Str × T))
inductive Out (α : Type) where
  | ok (a : α) (h : Hs) | ex (x : Xn) (h : Hs) | bad
namespace Out
def bind {α β : Type} : Out α → (α → Hs → Out β) → Out β
  | .ok a h, f => f a h
  | .ex x h, _ => .ex x h
  | .bad, _ => .bad
@[simp] theorem bind_ok {α β : Type} (a : α) (h : Hs) (f : α → Hs → Out β) : (Out.ok a h).bind f = f a h := (rfl)
@[simp] theorem bind_ex {α β : Type} (x : Xn) (h : Hs) (f : α → Hs → Out β) : (Out.ex x h).bind f = .ex x h := (rfl)
@[simp] theorem bind_bad {α β : Type} (f : α → Hs → Out β) : (Out.bad : Out α).bind f = .bad := (rfl)
end Out
def lift {α : Type} : Option α → Hs → Out α
  | some a, h => .ok a h
  | none, _ => .bad
@[simp] theorem lift_some {α : Type} (a : α) (h : Hs) : lift (some a) h = .ok a h := (rfl)
@[simp] theorem lift_none {α : Type} (h : Hs) : lift (none : Option α) h = .bad := (rfl)

inductive CT where
  | non | bl (b : Bool) | int (i : Int) | str (s : Str)
def CT.t : CT → T
  | .non => .non | .bl b => .bl b | .int i => .int i | .str s => .str s
/-- the built-in functions -/
inductive Bf where
  | len | abs | int | str | isinstance | max | min | tuple | list | sum | any | all | sorted
  deriving DecidableEq
/-- operations of all sorts, by what is written -/
inductive Op where
  | rev | lns | fdv | set0 | tset0 | lrg | at (f : Str)
  deriving DecidableEq
/-- methods of built-in types -/
inductive Mt where
  | index | get | reverse | add | append | join | split | rmpre
  deriving DecidableEq
/-- a target -/
inductive Tg where
  | nm (i : Nat) | tp (l : List Tg)
mutual
inductive E where
  | c (k : CT) | var (i : Nat) | gl (x : Nat)
  | bin (op : Operator) (a b : E) | neg (a : E) | not (a : E) | bop (op : BoolOp) (es : List E)
  | cmp (op : CmpOp) (a b : E) | ch (op op' : CmpOp) (a b c : E) | ife (c : C) (a b : E)
  | tup (es : List E) | lst (es : List E) | ix (a b : E) | sl (a : E) (lo hi : O)
  | call (f : Nat) (es : List E) | blt (f : Bf) (es : List E) | callv (i : Nat) (es : List E) | op (o : Op) (es : List E)
  | mth (m : Mt) (o : E) (es : List E) | dsp (es : List E)
  | lc (elt : E) (tg : Tg) (it : It) (cond : C) | dc (k v : E) (tg : Tg) (it : It)
  | new (c : Str) (es : List E) | mcl (m : Str) (o : E) (es : List E) | pr (e : E) | xf (i : Nat) (f : Str)
  | so (e : E) | fs (es : List E) | eqI (a b : E) | neI (a b : E) | isC (c : Str) (a : E)
/-- a part of a slice -/
inductive O where
  | no | at (e : E)
/-- what is walked -/
inductive It where
  | e (x : E) | r1 (a : E) | r2 (a b : E) | en (x : E)
/-- a test; yes: none -/
inductive C where
  | yes | t (e : E) | not (c : C) | bop (op : BoolOp) (cs : List C)
end
inductive S where
  | asg (i : Nat) (e : E) | asgT (tg : Tg) (e : E) | setIx (o i e : E) | expr (e : E)
  | ret (e : E) | retS (i : Nat) | retN | ife (c : C) (a b : List S) | for (tg : Tg) (it : It) (body : List S)
  | whl (c : C) (body : List S) | brk | cnt | pass | app (i : Nat) (e : E) | fz (i : Nat) | pr (i : Nat)
  | aug (i : Nat) (op : Operator) (e : E)
  | try1 (x : String) (body suite : List S)
  | rse (c : Str) (es : List E) | setA (o : E) (f : Str) (e : E) | asgR (ts : List Nat) (i : Nat) (e : E) | lkf (i : Nat) (f : Str)
  | tryX (i : Nat) (c : Str) (body suite : List S) | tryN (c : Str) (body suite : List S)
  | stop | par2 (i j : Nat) (a b : E) | par3 (i j l : Nat) (a b c : E)

abbrev SL : Nat := 16777216
/-- an object of the heap, looked at as a tree -/
def seen (h : Hs) : T → T
  | .ref n => (match h[n]? with
    | some (.lst l) => .lst l
    | some (.dct l) => .dct l
    | some (.set l) => .kst l
    | some (.tst l) => .tst l
    | _ => .ref n)
  | t => t
def peek (σ : Slots) (h : Hs) : R → Option T
  | .v t => some (seen h t)
  | .al l => some (.lst l)
  | .bw i => match σ[i]? with
    | some (some (.al l)) => some (.lst l)
    | _ => none
def frz : R → Option T
  | .v t => some t
  | .al l => some (.lst l)
  | .bw _ => none
def keyT : T → Option Key
  | .int i => some (.inl i)
  | .str x => some (.inr x)
  | _ => none
def keysT : List T → Option (List Key)
  | [] => some []
  | t :: l => match keyT t, keysT l with
    | some k, some ks => some (k :: ks)
    | _, _ => none
def keyU : Key → T
  | .inl i => .int i
  | .inr x => .str x
def memK (k : Key) (l : List Key) : Bool := l.any fun j => decide (j = k)
def memKs (k : List Key) (l : List (List Key)) : Bool := l.any fun j => decide (j = k)
/-- a field put -/
def putA (f : Str) (t : T) : List (Str × T) → List (Str × T)
  | [] => [(f, t)]
  | (g, x) :: r => if g = f then (g, t) :: r else (g, x) :: putA f t r
/-- texts -/
def strsOf : List T → Option (List Str)
  | [] => some []
  | .str x :: l => (strsOf l).map (x :: ·)
  | _ :: _ => none
def lookT (l : List (Key × T)) (k : Key) : Option T := (l.find? fun kv => decide (kv.1 = k)).map (·.2)
/-- in its place, or at the end -/
def putT (l : List (Key × T)) (k : Key) (v : T) : List (Key × T) :=
  if (l.any fun kv => decide (kv.1 = k)) = true then l.map (fun kv => if kv.1 = k then (kv.1, v) else kv) else l ++ [(k, v)]
def mergeT (l more : List (Key × T)) : List (Key × T) := more.foldl (fun acc kv => putT acc kv.1 kv.2) l
/-- keys and values in turn -/
def pairsT : List T → Option (List (Key × T))
  | [] => some []
  | k :: v :: l => match keyT k, pairsT l with
    | some k, some r => some ((k, v) :: r)
    | _, _ => none
  | _ => none
def mulOk (i j : Int) : Bool := decide (-(2 ^ 64) < i ∧ i < 2 ^ 64) || decide (-(2 ^ 64) < j ∧ j < 2 ^ 64) || decide (i.natAbs.log2 + j.natAbs.log2 < 1000000)
def fdivT (i j : Int) : Option Int :=
  if 0 < j ∧ j.natAbs.log2 < 9000 then some (i / j) else if j ≠ 0 ∧ j.natAbs < 1073741824 then some (i.fdiv j) else none
def modT (i j : Int) : Option Int := if 0 < j then some (i % j) else if j ≠ 0 then some (i.fmod j) else none
def powT (i j : Int) : Option Int := if 0 ≤ j ∧ (Builtin.Int.intBits i : Int) * j ≤ 2 ^ 27 then some (i ^ j.toNat) else none
def opR : Operator → T → T → Option R
  | .Add, .int i, .int j => some (.v (.int (i + j)))
  | .Add, .str a, .str b => if a.length + b.length ≤ SL then some (.v (.str (a ++ b))) else none
  | .Add, .lst a, .lst b => if a.length + b.length ≤ SL then some (.al (a ++ b)) else none
  | .Sub, .int i, .int j => some (.v (.int (i - j)))
  | .Add, .tup a, .tup b => if a.length + b.length ≤ SL then some (.v (.tup (a ++ b))) else none
  | .Mult, .tup a, .int k => if a ≠ [] ∧ 2 ≤ k ∧ k ≤ 1000 ∧ a.length ≤ 1000 then some (.v (.tup (List.replicate k.toNat a).flatten)) else none
  | .Mult, .str z, .int k => if -(2 ^ 62) ≤ k ∧ k ≤ 1000000 ∧ z.length ≤ 16 then some (.v (.str (L2.repS z k))) else none
  | .Mult, .int i, .int j => if mulOk i j then some (.v (.int (i * j))) else none
  | .Mult, .lst a, .int k => if -(2 ^ 63) ≤ k ∧ k < 2 ^ 63 ∧ a.length * k.toNat ≤ SL then some (.al (List.replicate k.toNat a).flatten) else none
  | .FloorDiv, .int i, .int j => (fdivT i j).map fun r => .v (.int r)
  | .Mod, .int i, .int j => (modT i j).map fun r => .v (.int r)
  | .Pow, .int i, .int j => (powT i j).map fun r => .v (.int r)
  | _, _, _ => none
mutual
/-- data without objects -/
def toD : T → Option PyData
  | .non => some .none
  | .bl b => some (.bool b)
  | .int i => some (.int i)
  | .str s => some (.str s)
  | .tup l => (toDs l).map .tuple
  | .lst l => (toDs l).map .list
  | .slst l => (toDs l).map .list
  | _ => none
def toDs : List T → Option (List PyData)
  | [] => some []
  | t :: l => match toD t, toDs l with
    | some d, some ds => some (d :: ds)
    | _, _ => none
end
def eqT (t u : T) : Option Bool := match toD t, toD u with
  | some d, some e => if SeqAt.shaped d && SeqAt.shaped e then some (PyData.eqv d e) else none
  | _, _ => none
def inT (t : T) : T → Option Bool
  | .lst l => match toD t, toDs l with
    | some d, some ds => if SeqAt.shaped d && SeqAt.shaped (.list ds) then some (ds.any fun z => PyData.eqv z d) else none
    | _, _ => none
  | .slst l => match toD t, toDs l with
    | some d, some ds => if SeqAt.shaped d && SeqAt.shaped (.list ds) then some (ds.any fun z => PyData.eqv z d) else none
    | _, _ => none
  | .tup l => flatIn t l
  | .dct l => (keyT t).map fun k => (lookT l k).isSome
  | .kst l => (keyT t).map fun k => memK k l
  | .tst l => (match t with | .tup ts => keysT ts | _ => none).map fun k => memKs k l
  | .str z => (match t with
    | .str x => (match x.cps.toList with | [c] => some (decide (c ∈ z.cps.toList)) | _ => none)
    | _ => none)
  | _ => none
where
  flatOf : T → Option V
    | .non => some .non | .bl b => some (.bl b) | .int i => some (.int i) | .str s => some (.str s) | _ => none
  flatIn (t : T) (l : List T) : Option Bool := match flatOf t, l.mapM flatOf with
    | some v, some vs => if flatV v && vs.all flatV then some (inV v vs) else none
    | _, _ => none
def cmpR : CmpOp → T → T → Option Bool
  | .Eq, t, u => eqT t u
  | .NotEq, t, u => (eqT t u).map (!·)
  | .Lt, .int i, .int j => some (decide (i < j))
  | .LtE, .int i, .int j => some (decide (i ≤ j))
  | .Gt, .int i, .int j => some (decide (j < i))
  | .GtE, .int i, .int j => some (decide (j ≤ i))
  | .Is, t, .non => some (match t with | .non => true | _ => false)
  | .IsNot, t, .non => some (match t with | .non => false | _ => true)
  | .In, t, u => inT t u
  | .NotIn, _, .tst _ => none
  | .NotIn, t, u => (inT t u).map (!·)
  | _, _, _ => none
def truT : T → Option Bool
  | .non => some false
  | .bl b => some b
  | .int i => some (i != 0)
  | .str s => if s.length ≤ SL then some ((s.length : Int) != 0) else none
  | .tup l => some (!l.isEmpty)
  | .lst l => some (!l.isEmpty)
  | .slst l => some (!l.isEmpty)
  | _ => none
def ixR : T → T → Option T
  | .lst l, .int i => atI l i
  | .slst l, .int i => atI l i
  | .tup l, .int i => atI l i
  | .str s, .int i => if s.length ≤ SL then (atI s.cps.toList i).map fun c => .str ⟨#[c]⟩ else none
  | .dct l, t => (keyT t).bind (lookT l)
  | _, _ => none
def cutT {α : Type} (l : List α) (lo hi : Option Int) : List α := (l.drop (HT.sIx l.length 0 lo)).take (HT.sIx l.length l.length hi - HT.sIx l.length 0 lo)
def slR : T → Option Int → Option Int → Option R
  | .lst l, lo, hi => some (.al (cutT l lo hi))
  | .slst l, lo, hi => some (.al (cutT l lo hi))
  | .tup l, lo, hi => some (.v (.tup (cutT l lo hi)))
  | .str z, lo, hi => if z.length ≤ SL then some (.v (.str (L2.cutS z lo hi))) else none
  | _, _, _ => none
def tyN : T → Option String
  | .non => some "NoneType" | .bl _ => some "bool" | .int _ => some "int" | .str _ => some "str" | .tup _ => some "tuple" | .lst _ => some "list" | .slst _ => some "list" | _ => none
def isiS (a b : String) : Option Bool :=
  if ["NoneType", "bool", "int", "str", "tuple", "list", "dict"].contains a && ["bool", "int", "str", "tuple", "list", "dict"].contains b then
    some (a == b || (a == "bool" && b == "int")) else none
def lenT : T → Option Nat
  | .lst l => some l.length
  | .slst l => some l.length
  | .tup l => some l.length
  | .str s => if s.length ≤ SL then some s.length else none
  | _ => none
def intsOf : List T → Option (List Int)
  | [] => some []
  | .int i :: l => (intsOf l).map (i :: ·)
  | _ :: _ => none
def blsOf : List T → Option (List Bool)
  | [] => some []
  | .bl b :: l => (blsOf l).map (b :: ·)
  | _ :: _ => none
def maxI : List Int → Option Int
  | [] => none
  | [a] => some a
  | a :: l => (maxI l).map fun b => if a < b then b else a
def minI : List Int → Option Int
  | [] => none
  | [a] => some a
  | a :: l => (minI l).map fun b => if b < a then b else a
def sortI (l : List Int) : List Int := l.mergeSort fun a b => decide (a ≤ b)
def bltR : Bf → List T → Option R
  | .len, [t] => (lenT t).map fun n => .v (.int n)
  | .abs, [.int i] => some (.v (.int (if i < 0 then -i else i)))
  | .int, [.int i] => some (.v (.int i))
  | .int, [.bl b] => some (.v (.int (if b then 1 else 0)))
  | .int, [.str z] => if z.length ≤ 640 then (intText? z).map fun n => .v (.int n) else none
  | .str, [.int i] => if i.natAbs.log2 < 1920 then some (.v (.str (toString i))) else none
  | .isinstance, [t, .ty n] => match tyN t with
    | some a => (isiS a n).map fun b => .v (.bl b)
    | none => none
  | .max, [.int i, .int j] => some (.v (.int (if j > i then j else i)))
  | .min, [.int i, .int j] => some (.v (.int (if j < i then j else i)))
  | .tuple, [.lst l] => some (.v (.tup l))
  | .tuple, [.slst l] => some (.v (.tup l))
  | .tuple, [.tup l] => some (.v (.tup l))
  | .list, [.lst l] => some (.al l)
  | .list, [.slst l] => some (.al l)
  | .list, [.tup l] => some (.al l)
  | .sum, [.lst l] => (intsOf l).map fun ns => .v (.int ns.sum)
  | .max, [.lst l] => ((intsOf l).bind maxI).map fun n => .v (.int n)
  | .min, [.lst l] => ((intsOf l).bind minI).map fun n => .v (.int n)
  | .any, [.lst l] => (blsOf l).map fun bs => .v (.bl (bs.any id))
  | .all, [.lst l] => (blsOf l).map fun bs => .v (.bl (bs.all id))
  | .sorted, [.lst l] => (intsOf l).map fun ns => .al ((sortI ns).map .int)
  | _, _ => none
def itemsT : T → Option (List T)
  | .lst l => some l
  | .slst l => some l
  | .tup l => some l
  | .str z => some (z.cps.toList.map fun c => .str ⟨#[c]⟩)
  | .dct l => some (l.map fun kv => keyU kv.1)
  | _ => none
/-- each with its number -/
def numT (l : List T) : List T := l.zipIdx.map fun p => .tup [.int (p.2 : Nat), p.1]
def rngT (lo hi : Int) : Option (List T) :=
  if -(2 ^ 62) ≤ lo ∧ lo < 2 ^ 62 ∧ -(2 ^ 62) ≤ hi ∧ hi < 2 ^ 62 then some ((List.range (hi - lo).toNat).map fun (k : Nat) => .int (lo + (k : Int))) else none
mutual
/-- a value put to a target -/
def asgT : Tg → T → Slots → Option Slots
  | .nm i, t, σ => some (σ.set i (some (.v t)))
  | .tp l, .tup ts, σ => asgTs l ts σ
  | .tp l, .lst ts, σ => asgTs l ts σ
  | .tp _, _, _ => none
def asgTs : List Tg → List T → Slots → Option Slots
  | [], [], σ => some σ
  | g :: l, t :: ts, σ => match asgT g t σ with
    | some σ1 => asgTs l ts σ1
    | none => none
  | _, _, _ => none
end
mutual
def Tg.ixs : Tg → List Nat
  | .nm i => [i]
  | .tp l => ixss l
def ixss : List Tg → List Nat
  | [] => []
  | g :: l => g.ixs ++ ixss l
end
def wipeT (σ : Slots) : List Nat → Slots
  | [] => σ
  | v :: vs => (wipeT σ vs).set v none

/-- the classes: which fields may be stored, methods, __init__, exceptions' fields -/
structure Cs where
  at_ : Str → Str → Bool
  mt : Str → Str → Option Nat
  ini : Str → Option Nat
  xs : Str → Option (List Str)
structure Ctx where
  call : Nat → List T → Hs → Out R
  make : Nat → List T → Hs → Out R
  gv : Nat → Option T
  ix : Str → Option Nat
  wd : Str → Str → Option T
  cs : Cs
/-- no exception -/
def noex {α : Type} : Out α → Out α
  | .ok a h => .ok a h
  | _ => .bad
/-- operations on what expressions give -/
def opL (σ : Slots) (op : Operator) (x y : R) (h : Hs) : Out R := match peek σ h x, peek σ h y with
  | some t, some u => lift (opR op t u) h
  | _, _ => .bad
def truL (σ : Slots) (x : R) (h : Hs) : Out Bool := match peek σ h x with
  | some t => lift (truT t) h
  | none => .bad
def cmpL (σ : Slots) (op : CmpOp) (x y : R) (h : Hs) : Out Bool := match peek σ h x, peek σ h y with
  | some t, some u => lift (cmpR op t u) h
  | _, _ => .bad
def ixL (wd : Str → Str → Option T) (σ : Slots) (x y : R) (h : Hs) : Out R := match x, y with
  | .v (.gl g), .v (.str z) => lift ((wd g z).map .v) h
  | _, _ => match peek σ h x, y with
    | some t, .v u => lift ((ixR t u).map .v) h
    | _, _ => .bad
def peeks (σ : Slots) (h : Hs) : List R → Option (List T)
  | [] => some []
  | r :: rs => match peek σ h r, peeks σ h rs with
    | some t, some ts => some (t :: ts)
    | _, _ => none
/-- what is walked: its items; the object that must stay as it is meanwhile -/
structure Itm where
  ts : List T
  g : Option (Nat × HOb)
def gdB (g : Option (Nat × HOb)) (h : Hs) : Bool := match g with
  | none => true
  | some (n, o) => match h[n]? with
    | some o' => o'.beq o
    | none => false
/-- what a value is walked by -/
def walkT (h : Hs) : T → Option Itm
  | .ref n => (match h[n]? with
    | some (.lst l) => some ⟨l, some (n, .lst l)⟩
    | _ => none)
  | t => (itemsT t).map fun l => ⟨l, none⟩
def walkL (own : Bool) (σ : Slots) (h : Hs) : R → Option Itm
  | .v t => walkT h t
  | .al l => some ⟨l, none⟩
  | .bw i => if own then (match σ[i]? with
    | some (some (.al l)) => some ⟨l, none⟩
    | _ => none) else none
/-- what is walked with its numbers -/
def enumL (own : Bool) (σ : Slots) (h : Hs) (r : R) : Option Itm := match r with
  | .v (.str _) => none
  | .v (.dct _) => none
  | r => (walkL own σ h r).map fun p => ⟨numT p.ts, p.g⟩
/-- over the items of a comprehension -/
def lcL (f : T → Hs → Out (Option T)) (g : Option (Nat × HOb)) : List T → List T → Hs → Out (List T)
  | [], acc, h => if gdB g h then .ok acc h else .bad
  | x :: xs, acc, h => if gdB g h then (f x h).bind fun o h1 => match o with
    | some y => if acc.length < SL then lcL f g xs (acc ++ [y]) h1 else .bad
    | none => lcL f g xs acc h1 else .bad
/-- ints, each once -/
def nubI (l : List Int) : List Int := l.foldl (fun σ k => if σ.any (· == k) then σ else σ ++ [k]) []
/-- what an operation gives -/
def opX (C : Cs) (σ : Slots) : Op → List R → Hs → Out R
  | .rev, [r], h => (match peek σ h r with
    | some (.lst l) => .ok (.al l.reverse) h
    | some (.slst l) => .ok (.al l.reverse) h
    | _ => .bad)
  | .lns, [r], h => (match peek σ h r with
    | some (.lst l) => lift ((intsOf l).bind fun ns => if ns.length ≤ 4000 then some (.v (.int (nubI ns).length)) else none) h
    | _ => .bad)
  | .set0, [], h => .ok (.v (.ref h.length)) (h ++ [.set []])
  | .tset0, [], h => .ok (.v (.ref h.length)) (h ++ [.tst []])
  | .lrg, [.v (.int j)], h => if 0 ≤ j ∧ j ≤ 16777216 then lift ((rngT 0 j).map .al) h else .bad
  | .at f, [.v (.ref n)], h => (match h[n]? with
    | some (.ins c fs) => if C.at_ c f then lift ((fs.lookup f).map .v) h else .bad
    | _ => .bad)
  | .at f, [.v (.ins c fs)], h => if C.at_ c f then lift ((fs.lookup f).map .v) h else .bad
  | .fdv, [.v (.int i), .v (.int j)], h => if j = 0 then .ex (.blt "ZeroDivisionError") h else lift ((fdivT i j).map fun r => .v (.int r)) h
  | _, _, _ => .bad
/-- the place of a thing in a list -/
def idxT (t : T) (l : List T) : Option Nat := match toD t, toDs l with
  | some d, some ds => if SeqAt.shaped d && SeqAt.shaped (.list ds) then ds.findIdx? fun z => PyData.eqv z d else none
  | _, _ => none
/-- has it the method? -/
def mtOk (σ : Slots) (h : Hs) (m : Mt) (x : R) : Bool := match m with
  | .index => (match peek σ h x with
    | some (.lst _) => true
    | some (.slst _) => true
    | _ => false)
  | .get => (match peek σ h x with
    | some (.dct _) => true
    | _ => false)
  | .reverse => (match x with
    | .v (.ref _) => (match peek σ h x with
      | some (.lst _) => true
      | _ => false)
    | _ => false)
  | .append => (match x with
    | .v (.ref _) => (match peek σ h x with
      | some (.lst _) => true
      | _ => false)
    | _ => false)
  | .add => (match x with
    | .v (.ref _) => (match peek σ h x with
      | some (.kst _) => true
      | some (.tst _) => true
      | _ => false)
    | _ => false)
  | .join => (match x with
    | .v (.str _) => true
    | _ => false)
  | .split => (match x with
    | .v (.str _) => true
    | _ => false)
  | .rmpre => (match x with
    | .v (.str _) => true
    | _ => false)
/-- what a method gives -/
def mtX (σ : Slots) (x : R) : Mt → List R → Hs → Out R
  | .index, [y], h => (match peek σ h x, peek σ h y with
    | some (.lst l), some t => lift ((idxT t l).map fun (j : Nat) => .v (.int j)) h
    | some (.slst l), some t => lift ((idxT t l).map fun (j : Nat) => .v (.int j)) h
    | _, _ => .bad)
  | .get, [.v y, z], h => (match peek σ h x, keyT y with
    | some (.dct l), some k => (match lookT l k with
      | some t => .ok (.v t) h
      | none => .ok z h)
    | _, _ => .bad)
  | .reverse, [], h => (match x with
    | .v (.ref n) => (match h[n]? with
      | some (.lst l) => .ok (.v .non) (h.set n (.lst l.reverse))
      | _ => .bad)
    | _ => .bad)
  | .append, [.v t], h => (match x with
    | .v (.ref n) => (match h[n]? with
      | some (.lst l) => if l.length < SL then .ok (.v .non) (h.set n (.lst (l ++ [t]))) else .bad
      | _ => .bad)
    | _ => .bad)
  | .add, [.v y], h => (match x with
    | .v (.ref n) => (match h[n]? with
      | some (.set l) => (match keyT y with
        | some k => if l.length < 4000 then .ok (.v .non) (h.set n (.set (if memK k l then l else l ++ [k]))) else .bad
        | none => .bad)
      | some (.tst l) => (match (match y with | .tup ts => keysT ts | _ => none) with
        | some k => if l.length < 300 then .ok (.v .non) (h.set n (.tst (if memKs k l then l else l ++ [k]))) else .bad
        | none => .bad)
      | _ => .bad)
    | _ => .bad)
  | .split, [.v (.str b)], h => (match x with
    | .v (.str a) => if (b.length == 0) = false ∧ a.length + 2 ≤ SL then .ok (.al ((Txt.split a b).map .str)) h else .bad
    | _ => .bad)
  | .rmpre, [.v (.str b)], h => (match x with
    | .v (.str a) => if a.length ≤ SL then .ok (.v (.str (Txt.removeprefix a b))) h else .bad
    | _ => .bad)
  | .join, [z], h => (match x, peek σ h z with
    | .v (.str a), some (.tup l) => lift ((strsOf l).bind fun ys => if (ys.map (·.length)).sum + ys.length * a.length ≤ SL then some (.v (.str (Txt.join a ys))) else none) h
    | .v (.str a), some (.lst l) => lift ((strsOf l).bind fun ys => if (ys.map (·.length)).sum + ys.length * a.length ≤ SL then some (.v (.str (Txt.join a ys))) else none) h
    | _, _ => .bad)
  | _, _, _ => .bad
/-- over the items of a dict's comprehension -/
def dcL (f : T → Hs → Out (Key × T)) (g : Option (Nat × HOb)) : List T → List (Key × T) → Hs → Out (List (Key × T))
  | [], acc, h => if gdB g h then .ok acc h else .bad
  | x :: xs, acc, h => if gdB g h then (f x h).bind fun kv h1 => if acc.length < SL then dcL f g xs (putT acc kv.1 kv.2) h1 else .bad else .bad
def kvR : R → R → Option (Key × T)
  | .v k, r => match keyT k, frz r with
    | some k, some t => some (k, t)
    | _, _ => none
  | _, _ => none
/-- the text of a number, of an instance -/
def soR (Γ : Ctx) : R → Hs → Out Str
  | .v (.int i), h => if i.natAbs.log2 < 1920 then .ok (toString i) h else .bad
  | .v (.ref n), h => match h[n]? with
    | some (.ins c _) => (match Γ.cs.mt c "__str__" with
      | some f => (Γ.make f [.ref n] h).bind fun q h1 => (match q with
        | .v (.str y) => if y.length ≤ SL then .ok y h1 else .bad
        | _ => .bad)
      | none => .bad)
    | _ => .bad
  | _, _ => .bad
/-- within a text -/
def fmR (Γ : Ctx) : R → Hs → Out Str
  | .v (.str y), h => if y.length ≤ SL then .ok y h else .bad
  | r, h => soR Γ r h
/-- == of two instances of one class, by its own def -/
def eqO (Γ : Ctx) (m n : Nat) (h : Hs) : Out Bool := match h[m]?, h[n]? with
  | some (.ins c _), some (.ins d _) => if c = d then (match Γ.cs.mt c "__eq__" with
    | some f => (match Γ.make f [.ref m, .ref n] h with
      | .ok (.v (.bl b)) h1 => .ok b h1
      | _ => .bad)
    | none => .bad) else .bad
  | _, _ => .bad
/-- two lists of instances, item by item equal -/
def eqLs (Γ : Ctx) : List T → List T → Hs → Out Unit
  | [], [], h => .ok () h
  | .ref m :: l, .ref n :: l', h => if m = n then eqLs Γ l l' h else (eqO Γ m n h).bind fun b h1 => if b then eqLs Γ l l' h1 else .bad
  | _, _, _ => .bad
mutual
def evE (Γ : Ctx) : E → Slots → Hs → Out R
  | .c k, _, h => .ok (.v k.t) h
  | .var i, σ, h => match σ[i]? with
    | some (some (.v t)) => .ok (.v t) h
    | some (some (.al _)) => .ok (.bw i) h
    | _ => .bad
  | .gl x, _, h => lift ((Γ.gv x).map .v) h
  | .bin op a b, σ, h => (evE Γ a σ h).bind fun x h1 => (evE Γ b σ h1).bind fun y h2 => opL σ op x y h2
  | .neg a, σ, h => (evE Γ a σ h).bind fun x h1 => match x with
    | .v (.int i) => .ok (.v (.int (-i))) h1
    | _ => .bad
  | .not a, σ, h => (evE Γ a σ h).bind fun x h1 => (truL σ x h1).bind fun b h2 => .ok (.v (.bl (!b))) h2
  | .bop op es, σ, h => evB Γ op es σ h
  | .cmp op a b, σ, h => (evE Γ a σ h).bind fun x h1 => (evE Γ b σ h1).bind fun y h2 => (cmpL σ op x y h2).bind fun k h3 => .ok (.v (.bl k)) h3
  | .ch op op' a b c, σ, h => (evE Γ a σ h).bind fun x h1 => (evE Γ b σ h1).bind fun y h2 => (cmpL σ op x y h2).bind fun k h3 =>
      if k then (evE Γ c σ h3).bind fun z h4 => (cmpL σ op' y z h4).bind fun k' h5 => .ok (.v (.bl k')) h5 else .ok (.v (.bl false)) h3
  | .ife c a b, σ, h => (evC Γ c σ h).bind fun k h1 => if k then evE Γ a σ h1 else evE Γ b σ h1
  | .tup es, σ, h => (evEs Γ es σ h).bind fun ts h1 => if ts.length ≤ SL then .ok (.v (.tup ts)) h1 else .bad
  | .lst es, σ, h => (evEs Γ es σ h).bind fun ts h1 => if ts.length ≤ SL then .ok (.al ts) h1 else .bad
  | .ix a b, σ, h => (evE Γ a σ h).bind fun x h1 => (evE Γ b σ h1).bind fun y h2 => ixL Γ.wd σ x y h2
  | .sl a lo hi, σ, h => (evE Γ a σ h).bind fun x h1 => (evO Γ lo σ h1).bind fun l h2 => (evO Γ hi σ h2).bind fun u h3 => match peek σ h3 x with
    | some t => lift (slR t l u) h3
    | none => .bad
  | .call f es, σ, h => (evEs Γ es σ h).bind fun ts h1 => Γ.call f ts h1
  | .op o es, σ, h => (evRs Γ es σ h).bind fun rs h1 => opX Γ.cs σ o rs h1
  | .callv i es, σ, h => match σ[i]? with
    | some (some (.v (.gl x))) => (match Γ.ix x with
      | some f => (evEs Γ es σ h).bind fun ts h1 => Γ.call f ts h1
      | none => .bad)
    | _ => .bad
  | .mth m o es, σ, h => (evE Γ o σ h).bind fun x h1 => if mtOk σ h1 m x then (evRs Γ es σ h1).bind fun rs h2 => mtX σ x m rs h2 else .bad
  | .dsp es, σ, h => (evEs Γ es σ h).bind fun ts h1 => match pairsT ts with
    | some kvs => if kvs.length ≤ 15 ∧ 0 < kvs.length then .ok (.v (.ref h1.length)) (h1 ++ [.dct (mergeT [] kvs)]) else .bad
    | none => .bad
  | .blt f es, σ, h => (evRs Γ es σ h).bind fun rs h1 => lift ((peeks σ h1 rs).bind (bltR f)) h1
  | .lc elt tg it cond, σ, h => (evIt Γ true it σ h).bind fun p h1 =>
      (lcL (fun x h' => noex (match asgT tg x (wipeT σ tg.ixs) with
        | some σ2 => (evC Γ cond σ2 h').bind fun b h2 => if b then (evE Γ elt σ2 h2).bind fun r h3 => lift ((frz r).map some) h3 else .ok none h2
        | none => .bad)) p.g p.ts [] h1).bind fun l h2 => .ok (.al l) h2
  | .dc k v tg it, σ, h => (evIt Γ true it σ h).bind fun p h1 =>
      (dcL (fun x h' => noex (match asgT tg x (wipeT σ tg.ixs) with
        | some σ2 => (evE Γ k σ2 h').bind fun r h2 => (evE Γ v σ2 h2).bind fun q h3 => lift (kvR r q) h3
        | none => .bad)) p.g p.ts [] h1).bind fun l h2 => .ok (.v (.ref h2.length)) (h2 ++ [.dct l])
  | .new c es, σ, h => match Γ.cs.ini c with
    | some f => (evEs Γ es σ h).bind fun ts h1 => (Γ.make f (.ref h1.length :: ts) (h1 ++ [.ins c []])).bind fun r h2 => match r with
      | .v .non => .ok (.v (.ref h1.length)) h2
      | _ => .bad
    | none => .bad
  | .mcl m o es, σ, h => (evE Γ o σ h).bind fun x h1 => match x with
    | .v (.ref n) => (match h1[n]? with
      | some (.ins c fs) => if (fs.lookup m).isNone then (match Γ.cs.mt c m with
        | some f => (evEs Γ es σ h1).bind fun ts h2 => Γ.call f (.ref n :: ts) h2
        | none => .bad) else .bad
      | _ => .bad)
    | _ => .bad
  | .pr e, σ, h => (evE Γ e σ h).bind fun r h1 => match r with
    | .al l => .ok (.v (.ref h1.length)) (h1 ++ [.lst l])
    | _ => .bad
  | .xf i f, σ, h => match σ[i]? with
    | some (some (.xn c fs)) => (match Γ.cs.xs c with
      | some fns => if f ∈ fns then lift ((fs.lookup f).map .v) h else .bad
      | none => .bad)
    | _ => .bad
  | .isC c a, σ, h => (evE Γ a σ h).bind fun x h1 => match x with
    | .v (.ref n) => (match h1[n]? with
      | some (.ins d _) => if d = c then .ok (.v (.bl true)) h1 else .bad
      | _ => .bad)
    | _ => .bad
  | .eqI a b, σ, h => (evE Γ a σ h).bind fun x h1 => (evE Γ b σ h1).bind fun y h2 => match x, y with
    | .v (.ref m), .v (.ref n) => (eqO Γ m n h2).bind fun k h3 => .ok (.v (.bl k)) h3
    | _, _ => .bad
  | .neI a b, σ, h => (evE Γ a σ h).bind fun x h1 => (evE Γ b σ h1).bind fun y h2 => match x, y with
    | .v (.lst l), .al l' => (eqLs Γ l l' h2).bind fun _ h3 => .ok (.v (.bl false)) h3
    | _, _ => .bad
  | .so e, σ, h => (evE Γ e σ h).bind fun r h1 => (soR Γ r h1).bind fun y h2 => .ok (.v (.str y)) h2
  | .fs es, σ, h => (evJ Γ es Str.empty σ h).bind fun y h1 => .ok (.v (.str y)) h1
/-- parts of a text, one behind another -/
def evJ (Γ : Ctx) : List E → Str → Slots → Hs → Out Str
  | [], acc, _, h => .ok acc h
  | e :: es, acc, σ, h => (evE Γ e σ h).bind fun r h1 => (fmR Γ r h1).bind fun y h2 => if (acc ++ y).length ≤ SL then evJ Γ es (acc ++ y) σ h2 else .bad
/-- and, or as values -/
def evB (Γ : Ctx) (op : BoolOp) : List E → Slots → Hs → Out R
  | [], _, _ => .bad
  | e :: es, σ, h => if es.isEmpty then evE Γ e σ h else (evE Γ e σ h).bind fun x h1 => (truL σ x h1).bind fun k h2 =>
      if k == (op == .Or) then .ok x h2 else evB Γ op es σ h2
/-- a test -/
def evC (Γ : Ctx) : C → Slots → Hs → Out Bool
  | .yes, _, h => .ok true h
  | .t e, σ, h => (evE Γ e σ h).bind fun x h1 => truL σ x h1
  | .not c, σ, h => (evC Γ c σ h).bind fun b h1 => .ok (!b) h1
  | .bop op cs, σ, h => evCs Γ op cs σ h
def evCs (Γ : Ctx) (op : BoolOp) : List C → Slots → Hs → Out Bool
  | [], _, _ => .bad
  | c :: cs, σ, h => if cs.isEmpty then evC Γ c σ h else (evC Γ c σ h).bind fun k h1 =>
      if k == (op == .Or) then .ok k h1 else evCs Γ op cs σ h1
/-- items that are kept -/
def evEs (Γ : Ctx) : List E → Slots → Hs → Out (List T)
  | [], _, h => .ok [] h
  | e :: es, σ, h => (evE Γ e σ h).bind fun x h1 => match frz x with
    | some t => (evEs Γ es σ h1).bind fun ts h2 => .ok (t :: ts) h2
    | none => .bad
/-- what some expressions give -/
def evRs (Γ : Ctx) : List E → Slots → Hs → Out (List R)
  | [], _, h => .ok [] h
  | e :: es, σ, h => (evE Γ e σ h).bind fun x h1 => (evRs Γ es σ h1).bind fun xs h2 => .ok (x :: xs) h2
/-- a part of a slice -/
def evO (Γ : Ctx) : O → Slots → Hs → Out (Option Int)
  | .no, _, h => .ok none h
  | .at e, σ, h => (evE Γ e σ h).bind fun x h1 => match x with
    | .v (.int i) => .ok (some i) h1
    | _ => .bad
/-- what is walked -/
def evIt (Γ : Ctx) (own : Bool) : It → Slots → Hs → Out Itm
  | .e x, σ, h => (evE Γ x σ h).bind fun r h1 => lift (walkL own σ h1 r) h1
  | .r1 a, σ, h => (evE Γ a σ h).bind fun r h1 => match r with
    | .v (.int j) => lift ((rngT 0 j).map fun l => ⟨l, none⟩) h1
    | _ => .bad
  | .r2 a b, σ, h => (evE Γ a σ h).bind fun r h1 => (evE Γ b σ h1).bind fun s h2 => match r, s with
    | .v (.int i), .v (.int j) => lift ((rngT i j).map fun l => ⟨l, none⟩) h2
    | _, _ => .bad
  | .en x, σ, h => (evE Γ x σ h).bind fun r h1 => lift (enumL own σ h1 r) h1
end

inductive Fl where
  | nx | brk | ct | ret (r : R)
/-- how a statement ends -/
inductive SO where
  | ok (f : Fl) (σ : Slots) (h : Hs) | ex (x : Xn) (σ : Slots) (h : Hs) | bad
/-- behind an expression -/
def sb {α : Type} (σ : Slots) : Out α → (α → Hs → SO) → SO
  | .ok a h, k => k a h
  | .ex x h, _ => .ex x σ h
  | .bad, _ => .bad
@[simp] theorem sb_ok {α : Type} (σ : Slots) (a : α) (h : Hs) (k : α → Hs → SO) : sb σ (.ok a h) k = k a h := (rfl)
@[simp] theorem sb_ex {α : Type} (σ : Slots) (x : Xn) (h : Hs) (k : α → Hs → SO) : sb σ (.ex x h : Out α) k = .ex x σ h := (rfl)
@[simp] theorem sb_bad {α : Type} (σ : Slots) (k : α → Hs → SO) : sb σ (.bad : Out α) k = .bad := (rfl)
/-- behind a statement that goes on -/
def SO.seq : SO → (Slots → Hs → SO) → SO
  | .ok .nx σ h, k => k σ h
  | o, _ => o
@[simp] theorem SO.seq_nx (σ : Slots) (h : Hs) (k : Slots → Hs → SO) : (SO.ok .nx σ h).seq k = k σ h := (rfl)
@[simp] theorem SO.seq_ret (r : R) (σ : Slots) (h : Hs) (k : Slots → Hs → SO) : (SO.ok (.ret r) σ h).seq k = .ok (.ret r) σ h := (rfl)
@[simp] theorem SO.seq_brk (σ : Slots) (h : Hs) (k : Slots → Hs → SO) : (SO.ok .brk σ h).seq k = .ok .brk σ h := (rfl)
@[simp] theorem SO.seq_ct (σ : Slots) (h : Hs) (k : Slots → Hs → SO) : (SO.ok .ct σ h).seq k = .ok .ct σ h := (rfl)
@[simp] theorem SO.seq_ex (x : Xn) (σ : Slots) (h : Hs) (k : Slots → Hs → SO) : (SO.ex x σ h).seq k = .ex x σ h := (rfl)
@[simp] theorem SO.seq_bad (k : Slots → Hs → SO) : SO.bad.seq k = .bad := (rfl)
/-- behind a loop's turn -/
def SO.turn : SO → (Slots → Hs → SO) → SO
  | .ok .nx σ h, k => k σ h
  | .ok .ct σ h, k => k σ h
  | .ok .brk σ h, _ => .ok .nx σ h
  | o, _ => o
@[simp] theorem SO.turn_nx (σ : Slots) (h : Hs) (k : Slots → Hs → SO) : (SO.ok .nx σ h).turn k = k σ h := (rfl)
@[simp] theorem SO.turn_ret (r : R) (σ : Slots) (h : Hs) (k : Slots → Hs → SO) : (SO.ok (.ret r) σ h).turn k = .ok (.ret r) σ h := (rfl)
@[simp] theorem SO.turn_brk (σ : Slots) (h : Hs) (k : Slots → Hs → SO) : (SO.ok .brk σ h).turn k = .ok .nx σ h := (rfl)
@[simp] theorem SO.turn_ct (σ : Slots) (h : Hs) (k : Slots → Hs → SO) : (SO.ok .ct σ h).turn k = k σ h := (rfl)
@[simp] theorem SO.turn_ex (x : Xn) (σ : Slots) (h : Hs) (k : Slots → Hs → SO) : (SO.ex x σ h).turn k = .ex x σ h := (rfl)
@[simp] theorem SO.turn_bad (k : Slots → Hs → SO) : SO.bad.turn k = .bad := (rfl)
def forL (body : T → Slots → Hs → SO) (g : Option (Nat × HOb)) : List T → Slots → Hs → SO
  | [], σ, h => if gdB g h then .ok .nx σ h else .bad
  | x :: xs, σ, h => if gdB g h then (body x σ h).turn (forL body g xs) else .bad
def whlL (test : Slots → Hs → Out Bool) (body : Slots → Hs → SO) : Nat → Slots → Hs → SO
  | 0, _, _ => .bad
  | n + 1, σ, h => sb σ (test σ h) fun b h1 => if b then (body σ h1).turn (whlL test body n) else .ok .nx σ h1
abbrev whlMost : Nat := 1000000000
/-- what is taken apart is looked at -/
def tgSee (tg : Tg) (h : Hs) (t : T) : T := match tg with
  | .nm _ => t
  | .tp _ => seen h t
/-- no exception -/
def SO.noex : SO → SO
  | .ex _ _ _ => .bad
  | o => o
@[simp] theorem SO.noex_ok (f : Fl) (σ : Slots) (h : Hs) : (SO.ok f σ h).noex = .ok f σ h := (rfl)
/-- behind an except clause: nothing is raised there; the exception is let go -/
def wipeX (σ : Slots) : Slots := σ.map fun s => match s with
  | some (.xn _ _) => none
  | s => s
/-- an exception with fields, named -/
def xnS (c : Str) (fs : List (Str × T)) : Option Sl := if fs.isEmpty then none else some (.xn c fs)
def SO.fin (g : Slots → Slots) : SO → SO
  | .ok f σ h => .ok f (g σ) h
  | _ => .bad
@[simp] theorem SO.fin_ok (g : Slots → Slots) (f : Fl) (σ : Slots) (h : Hs) : (SO.ok f σ h).fin g = .ok f (g σ) h := (rfl)
/-- behind a try's body -/
def SO.catch (x : String) : SO → (Slots → Hs → SO) → SO
  | .ex (.blt n) σ h, k => if n = x then (k σ h).fin wipeX else .bad
  | .ex _ _ _, _ => .bad
  | o, _ => o
/-- .. an own class -/
def SO.catchX (c : Str) : SO → (List (Str × T) → Slots → Hs → SO) → SO
  | .ex (.own d fs) σ h, k => if d = c then k fs σ h else .bad
  | .ex _ _ _, _ => .bad
  | o, _ => o
@[simp] theorem SO.catchX_ok (c : Str) (f : Fl) (σ : Slots) (h : Hs) (k : List (Str × T) → Slots → Hs → SO) : (SO.ok f σ h).catchX c k = .ok f σ h := (rfl)
@[simp] theorem SO.catchX_bad (c : Str) (k : List (Str × T) → Slots → Hs → SO) : SO.bad.catchX c k = .bad := (rfl)
theorem SO.catchX_ex (c d : Str) (fs : List (Str × T)) (σ : Slots) (h : Hs) (k : List (Str × T) → Slots → Hs → SO) : (SO.ex (.own d fs) σ h).catchX c k = if d = c then k fs σ h else .bad := (rfl)
@[simp] theorem SO.catch_ok (x : String) (f : Fl) (σ : Slots) (h : Hs) (k : Slots → Hs → SO) : (SO.ok f σ h).catch x k = .ok f σ h := (rfl)
@[simp] theorem SO.catch_bad (x : String) (k : Slots → Hs → SO) : SO.bad.catch x k = .bad := (rfl)
theorem SO.catch_ex (x n : String) (σ : Slots) (h : Hs) (k : Slots → Hs → SO) : (SO.ex (.blt n) σ h).catch x k = if n = x then (k σ h).fin wipeX else .bad := (rfl)
def putR : R → Option Sl
  | .v t => some (.v t)
  | .al l => some (.al l)
  | .bw _ => none
/-- a store into a list object -/
def setL (r : R) (x y : R) (h : Hs) : Option Hs := match frz r, x, y with
  | some t, .v (.ref n), .v k => (match h[n]?, k with
    | some (.lst l), .int k => (ixN l.length k).map fun j => h.set n (.lst (l.set j t))
    | some (.dct l), k => (keyT k).bind fun k => if l.length < SL then some (h.set n (.dct (putT l k t))) else none
    | _, _ => none)
  | _, _, _ => none
def liftS (o : Option Slots) (h : Hs) : SO := match o with
  | some σ => .ok .nx σ h
  | none => .bad
@[simp] theorem liftS_some (σ : Slots) (h : Hs) : liftS (some σ) h = .ok .nx σ h := (rfl)
@[simp] theorem liftS_none (h : Hs) : liftS none h = .bad := (rfl)
def retS (σ : Slots) (r : R) (h : Hs) : SO := match r with
  | .bw _ => .bad
  | r => .ok (.ret r) σ h
def appS (σ : Slots) (i : Nat) (r : R) (h : Hs) : SO := match frz r, σ[i]? with
  | some t, some (some (.al l)) => if l.length < SL then .ok .nx (σ.set i (some (.al (l ++ [t])))) h else .bad
  | some t, some (some (.v (.ref n))) => (match h[n]? with
    | some (.lst l) => if l.length < SL then .ok .nx σ (h.set n (.lst (l ++ [t]))) else .bad
    | _ => .bad)
  | _, _ => .bad
/-- name op= value -/
def augT : Operator → T → T → Option T
  | .Add, .int i, .int j => some (.int (i + j))
  | .Sub, .int i, .int j => some (.int (i - j))
  | .Mult, .int i, .int j => if mulOk i j then some (.int (i * j)) else none
  | .Add, .str a, .str b => if a.length + b.length ≤ SL then some (.str (a ++ b)) else none
  | _, _, _ => none
def augS (σ : Slots) (i : Nat) (op : Operator) (t : T) (r : R) (h : Hs) : SO := match r with
  | .v u => liftS ((augT op t u).map fun z => σ.set i (some (.v z))) h
  | _ => .bad
def appOk (h : Hs) : Option (Option Sl) → Bool
  | some (some (.al _)) => true
  | some (some (.v (.ref n))) => (match h[n]? with
    | some (.lst _) => true
    | _ => false)
  | _ => false
/-- a field's store -/
def setF (C : Cs) (r : R) (x : R) (f : Str) (h : Hs) : Option Hs := match frz r, x with
  | some t, .v (.ref n) => (match h[n]? with
    | some (.ins c fs) => if C.at_ c f = true ∧ fs.length < 1000 then some (h.set n (.ins c (putA f t fs))) else none
    | _ => none)
  | _, _ => none
/-- a dict that a field holds stays as it is from now on -/
def lkfS (σ : Slots) (i : Nat) (f : Str) (h : Hs) : Option Hs := match σ[i]? with
  | some (some (.v (.ref n))) => (match h[n]? with
    | some (.ins c fs) => (match fs.lookup f with
      | some (.ref m) => (match h[m]? with
        | some (.dct l) => some ((h.set m .dead).set n (.ins c (putA f (.dct l) fs)))
        | _ => none)
      | _ => none)
    | _ => none)
  | _ => none
/-- slots, one after another -/
def setsV : List Nat → List T → Slots → Slots
  | i :: is, t :: ts, σ => setsV is ts (σ.set i (some (.v t)))
  | _, _, σ => σ
def starS (ts : List Nat) (i : Nat) (l : List T) (σ : Slots) : Option Slots := if ts.length ≤ l.length then some ((setsV ts l σ).set i (some (.al (l.drop ts.length)))) else none
def seqT : T → Option (List T)
  | .lst l => some l
  | .slst l => some l
  | .tup l => some l
  | _ => none
mutual
def evS (Γ : Ctx) : S → Slots → Hs → SO
  | .asg i e, σ, h => sb σ (evE Γ e σ h) fun r h1 => liftS ((putR r).map fun s => σ.set i (some s)) h1
  | .asgT tg e, σ, h => sb σ (evE Γ e σ h) fun r h1 => liftS ((frz r).bind fun t => asgT tg (tgSee tg h1 t) σ) h1
  | .setIx o i e, σ, h => sb σ (evE Γ e σ h) fun r h1 => sb σ (evE Γ o σ h1) fun x h2 => sb σ (evE Γ i σ h2) fun y h3 => match setL r x y h3 with
    | some h4 => .ok .nx σ h4
    | none => .bad
  | .expr e, σ, h => sb σ (evE Γ e σ h) fun _ h1 => .ok .nx σ h1
  | .ret e, σ, h => sb σ (evE Γ e σ h) fun r h1 => retS σ r h1
  | .retS i, σ, h => match σ[i]? with
    | some (some (.al l)) => .ok (.ret (.al l)) (σ.set i none) h
    | _ => .bad
  | .retN, σ, h => .ok (.ret (.v .non)) σ h
  | .ife c a b, σ, h => sb σ (evC Γ c σ h) fun k h1 => if k then evSs Γ a σ h1 else evSs Γ b σ h1
  | .for tg it body, σ, h => sb σ (evIt Γ false it σ h) fun p h1 => forL (fun x σ' h' => (liftS (asgT tg x σ') h').seq (evSs Γ body)) p.g p.ts σ h1
  | .whl c body, σ, h => whlL (evC Γ c) (evSs Γ body) whlMost σ h
  | .brk, σ, h => .ok .brk σ h
  | .cnt, σ, h => .ok .ct σ h
  | .pass, σ, h => .ok .nx σ h
  | .stop, _, _ => .bad
  | .app i e, σ, h => if appOk h σ[i]? then sb σ (evE Γ e σ h) fun r h1 => appS σ i r h1 else .bad
  | .par2 i j a b, σ, h => sb σ (evE Γ a σ h) fun r h1 => sb σ (evE Γ b σ h1) fun s h2 => liftS ((putR r).bind fun x => (putR s).map fun y => (σ.set i (some x)).set j (some y)) h2
  | .par3 i j l a b c, σ, h => sb σ (evE Γ a σ h) fun r h1 => sb σ (evE Γ b σ h1) fun s h2 => sb σ (evE Γ c σ h2) fun t h3 =>
      liftS ((putR r).bind fun x => (putR s).bind fun y => (putR t).map fun z => ((σ.set i (some x)).set j (some y)).set l (some z)) h3
  | .fz i, σ, h => match σ[i]? with
    | some (some (.al l)) => .ok .nx (σ.set i (some (.v (.lst l)))) h
    | _ => .bad
  | .pr i, σ, h => match σ[i]? with
    | some (some (.al l)) => .ok .nx (σ.set i (some (.v (.ref h.length)))) (h ++ [.lst l])
    | _ => .bad
  | .try1 x body suite, σ, h => (evSs Γ body σ h).catch x (evSs Γ suite)
  | .rse c es, σ, h => match Γ.cs.xs c with
    | some fs => sb σ (evEs Γ es σ h) fun ts h1 => if ts.length = fs.length ∧ ts ≠ [] ∧ ts.length ≤ 900 then .ex (.own c (fs.zip ts).reverse) σ h1 else .bad
    | none => .bad
  | .setA o f e, σ, h => sb σ (evE Γ e σ h) fun r h1 => sb σ (evE Γ o σ h1) fun x h2 => match setF Γ.cs r x f h2 with
    | some h3 => .ok .nx σ h3
    | none => .bad
  | .asgR ts i e, σ, h => sb σ (evE Γ e σ h) fun r h1 => liftS (((peek σ h1 r).bind seqT).bind fun l => starS ts i l σ) h1
  | .lkf i f, σ, h => match lkfS σ i f h with
    | some h1 => .ok .nx σ h1
    | none => .bad
  | .tryX i c body suite, σ, h => if (Γ.cs.xs c).isSome = false then .bad else (evSs Γ body σ h).catchX c fun fs σ1 h1 => (evSs Γ suite (σ1.set i (xnS c fs)) h1).fin fun σ2 => (wipeX σ2).set i none
  | .tryN c body suite, σ, h => if (Γ.cs.xs c).isSome = false then .bad else (evSs Γ body σ h).catchX c fun _ σ1 h1 => (evSs Γ suite σ1 h1).fin wipeX
  | .aug i op e, σ, h => match σ[i]? with
    | some (some (.v t)) => sb σ (evE Γ e σ h) fun r h1 => augS σ i op t r h1
    | _ => .bad
def evSs (Γ : Ctx) : List S → Slots → Hs → SO
  | [], σ, h => .ok .nx σ h
  | s :: ss, σ, h => (evS Γ s σ h).seq (evSs Γ ss)
end
/-- a def: how many parameters, how many names, its body -/
structure FD where
  ps : Nat
  n : Nat
  body : List S
def startT (n : Nat) (ts : List T) : Slots := ts.map (fun t => some (.v t)) ++ List.replicate (n - ts.length) none
def SO.out : SO → Out R
  | .ok (.ret r) _ h => .ok r h
  | .ok .nx _ h => .ok (.v .non) h
  | .ex x _ h => .ex x h
  | _ => .bad
def runD (Γ : Ctx) (d : FD) (ts : List T) (h : Hs) : Out R :=
  if ts.length = d.ps then (evSs Γ d.body (startT d.n ts) h).out else .bad
/-- a module's text: its defs, its values, its defs by name -/
structure Pg where
  ds : List FD
  gv : Nat → Option T
  ix : Str → Option Nat
  wd : Str → Str → Option T
  cs : Cs
/-- the calls, by levels -/
def callK (P : Pg) : Nat → Nat → List T → Hs → Out R
  | 0, _, _, _ => .bad
  | 1, _, _, _ => .bad
  | 2, _, _, _ => .bad
  | k + 3, f, ts, h => match P.ds[f]? with
    | some d => runD ⟨callK P (k + 2), callK P (k + 1), P.gv, P.ix, P.wd, P.cs⟩ d ts h
    | none => .bad
end VY
namespace VY
open PySem PySem.Spec
open PyProof.Rows hiding St
open L2
/-- the masks met here -/
def MkOk (m : Nat) : Prop := MaskOk m ∨ m = 511
theorem MkOk.odd {m : Nat} (g : MkOk m) : m % 2 = 1 := by
  rcases g with g | rfl
  · exact mask_odd g
  · rfl
theorem lcgI_add (m i a : Nat) : ∀ n, lcgI m (lcgI m i a) n = lcgI m i (a + n)
  | 0 => rfl
  | n + 1 => congrArg (fun z => (z * 5 + 1) % (m + 1)) (lcgI_add m i a n)
/-- the slots in the order in which they are met from x on -/
def orbit : Nat → Nat → List Nat
  | 0, _ => []
  | n + 1, x => x :: orbit n ((x * 5 + 1) % 512)
theorem lcgI_front (x : Nat) : ∀ n, lcgI 511 ((x * 5 + 1) % 512) n = lcgI 511 x (n + 1)
  | 0 => rfl
  | n + 1 => congrArg (fun z => (z * 5 + 1) % 512) (lcgI_front x n)
theorem orbit_mem : ∀ (n x y : Nat), y ∈ orbit n x → ∃ k, k < n ∧ lcgI 511 x k = y
  | 0, x, y, z => (List.not_mem_nil z).elim
  | n + 1, x, y, z => by
    rcases List.mem_cons.mp z with rfl | z
    · exact ⟨0, Nat.succ_pos _, rfl⟩
    · obtain ⟨k, lt, e⟩ := orbit_mem n _ y z
      exact ⟨k + 1, Nat.succ_lt_succ lt, by rw [← lcgI_front]; exact e⟩
theorem orbit_all : ∀ y, y < 512 → y ∈ orbit 512 0 := by
  have z : ((List.range 512).all fun y => (orbit 512 0).contains y) = true := by decide +kernel
  intro y l
  have := List.all_eq_true.mp z y (List.mem_range.mpr l)
  simpa using this
theorem orbit_back : lcgI 511 0 512 = 0 := by decide +kernel
/-- from any slot to any other -/
theorem lcg_meets {x y : Nat} (lx : x < 512) (ly : y < 512) : ∃ k, k ≤ 511 ∧ lcgI 511 x k = y := by
  obtain ⟨a, la, rfl⟩ := orbit_mem _ _ _ (orbit_all x lx)
  obtain ⟨b, lb, rfl⟩ := orbit_mem _ _ _ (orbit_all y ly)
  by_cases c : a ≤ b
  · refine ⟨b - a, by omega, ?_⟩
    rw [lcgI_add, Nat.add_sub_cancel' c]
  · refine ⟨512 - a + b, by omega, ?_⟩
    rw [lcgI_add, show a + (512 - a + b) = 512 + b by omega, ← lcgI_add, orbit_back]
theorem runs_meet {m : Nat} (g : MkOk m) (h : Int) {y : Nat} (l : y ≤ m) : ∃ r, r ≤ m + 12 ∧ runI m (SetTable.bits h) r = y := by
  rcases g with g | rfl
  · exact run_meets g h l
  · obtain ⟨k, lk, e⟩ := lcg_meets (x := runI 511 (SetTable.bits h) 12) (y := y) (Nat.lt_succ_of_le (runI_le _ _ _)) (Nat.lt_succ_of_le l)
    exact ⟨12 + k, by omega, (runI_tail (bits_lt h) k).trans e⟩
theorem way_in {m : Nat} {h : Int} {k : Nat} : way m h k ≤ m := by
  have l : SetTable.bits h % (m + 1) ≤ m := Nat.lt_succ_iff.mp (Nat.mod_lt _ (Nat.succ_pos m))
  have q := nth_in (m := m) k (runAt m (SetTable.bits h % (m + 1)) (SetTable.bits h)) (by have := runEnd_bd l; simp only [runAt]; omega)
  exact Nat.le_trans (Nat.le_add_right _ _) q
theorem ways_meet {m : Nat} (g : MkOk m) (h : Int) {y : Nat} (l : y ≤ m) : ∃ k, k < 10 * SetTable.turns m ∧ way m h k = y := by
  obtain ⟨r, lr, e⟩ := runs_meet g h l
  obtain ⟨k, lk, e2⟩ := run_nth m (SetTable.bits h) r
  exact ⟨k, by simp only [SetTable.turns]; omega, (congrArg SetTable.Probe.j e2).trans e⟩
/-- a table without gaps: each hash's slot is found on its way -/
structure TabW (t : SetTable) (hs : List Int) : Prop where
  up : Ris t.place.toList
  no : t.dummies = #[]
  len : hs.length = t.place.size
  ok : MkOk t.mask
  low : ∀ y, y ∈ t.place.toList → y ≤ t.mask
  on : ∀ q ∈ hs.zip t.place.toList, ∃ k, way t.mask q.1 k = q.2 ∧ ∀ i, i < k → way t.mask q.1 i ∈ t.place.toList
section
variable {t : SetTable} {hs : List Int}
theorem TabW.reach (T : TabW t hs) {i : Nat} {h : Int} {y : Nat} (e1 : hs[i]? = some h) (e2 : t.place.toList[i]? = some y) : ∃ k, way t.mask h k = y ∧ ∀ i, i < k → way t.mask h i ∈ t.place.toList :=
  T.on (h, y) (List.mem_of_getElem? (i := i) (by rw [List.getElem?_zip_eq_some]; exact ⟨e1, e2⟩))
theorem TabW.first (T : TabW t hs) (l : hs.length ≤ t.mask) (h : Int) : ∃ n, n < 10 * SetTable.turns t.mask ∧ way t.mask h n ∉ t.place.toList ∧ ∀ i, i < n → way t.mask h i ∈ t.place.toList := by
  obtain ⟨y, ly, ny⟩ := st_missing t.place.toList (t.mask + 1) (by rw [Array.length_toList, ← T.len]; omega)
  obtain ⟨k, lk, e⟩ := ways_meet T.ok h (Nat.lt_succ_iff.mp ly)
  obtain ⟨n, a, b, c⟩ := st_least (p := fun i => way t.mask h i ∉ t.place.toList) k (by simp only [e]; exact ny)
  exact ⟨n, Nat.lt_of_le_of_lt a lk, b, fun i li => Classical.not_not.mp (c i li)⟩
theorem TabW.before (T : TabW t hs) {h : Int} {n i y : Nat} (free : way t.mask h n ∉ t.place.toList) (e1 : hs[i]? = some h) (e2 : t.place.toList[i]? = some y) : ∃ k, k < n ∧ way t.mask h k = y := by
  obtain ⟨k, e, b⟩ := T.reach e1 e2
  refine ⟨k, ?_, e⟩
  by_cases c : n < k
  · exact (free (b n c)).elim
  · by_cases d : k = n
    · subst d
      exact (free (by rw [e]; exact List.mem_of_getElem? e2)).elim
    · omega
/-- one hash more, put to the first empty slot of its way -/
theorem TabW.put (T : TabW t hs) {h : Int} {n : Nat} (free : way t.mask h n ∉ t.place.toList) (b : ∀ i, i < n → way t.mask h i ∈ t.place.toList) {p : Nat} (ep : SetTable.below t.place (way t.mask h n) = p) :
    (t.put (way t.mask h n)).2 = p ∧ p ≤ hs.length ∧ TabW (t.put (way t.mask h n)).1 (hs.take p ++ h :: hs.drop p) ∧ (t.put (way t.mask h n)).1.mask = t.mask ∧ (t.put (way t.mask h n)).1.led = t.led ∧ (t.put (way t.mask h n)).1.fill = hs.length + 1 := by
  have lp : p ≤ t.place.size := ep ▸ (below_cut T.up (way t.mask h n)).1
  have ll : t.place.toList.length = t.place.size := Array.length_toList
  have pl := put_place t (way t.mask h n)
  rw [ep] at pl
  have dm := put_dm T.no (way t.mask h n)
  have sz : (t.put (way t.mask h n)).1.place.size = hs.length + 1 := by
    rw [← Array.length_toList, pl, len_ins _ (by omega), ll, T.len]
  refine ⟨ep, by rw [T.len]; exact lp, ⟨?_, dm, by rw [sz, len_ins _ (by rw [T.len]; exact lp)], T.ok, fun y m => ?_, fun q m => ?_⟩, rfl, rfl, ?_⟩
  · exact ris_insert T.up fun e => free (List.mem_of_getElem? (by rw [Array.getElem?_toList]; exact e))
  · rw [pl] at m
    rcases mem_ins.mp m with rfl | m
    · exact way_in
    · exact T.low y m
  · have grows : ∀ {y : Nat}, y ∈ t.place.toList → y ∈ (t.put (way t.mask h n)).1.place.toList := fun m => by rw [pl]; exact mem_ins.mpr (.inr m)
    rw [pl, List.zip_append (by rw [List.length_take, List.length_take, ll, T.len]), List.zip_cons_cons] at m
    have cut : q = (h, way t.mask h n) ∨ q ∈ hs.zip t.place.toList := by
      rcases List.mem_append.mp m with m | m
      · rw [show (hs.take p).zip (t.place.toList.take p) = (hs.zip t.place.toList).take p from (by simp [List.zip, List.take_zipWith])] at m
        exact .inr (List.mem_of_mem_take m)
      · rcases List.mem_cons.mp m with m | m
        · exact .inl m
        · rw [show (hs.drop p).zip (t.place.toList.drop p) = (hs.zip t.place.toList).drop p from (by simp [List.zip, List.drop_zipWith])] at m
          exact .inr (List.mem_of_mem_drop m)
    rcases cut with rfl | m
    · exact ⟨n, rfl, fun i li => grows (b i li)⟩
    · obtain ⟨k, e, z⟩ := T.on q m
      exact ⟨k, e, fun i li => grows (z i li)⟩
  · show (t.put (way t.mask h n)).1.place.size + (t.put (way t.mask h n)).1.dummies.size = _
    rw [sz, dm]; rfl
end
theorem free_at {m : Nat} (g : MkOk m) (owner : Array (Option Nat)) (h : Int) {y : Nat} (l : y ≤ m) (e : oAt owner y = none) :
    ∃ n, SetTable.layClean.free m owner (SetTable.turns m) (SetTable.bits h % (m + 1)) (SetTable.bits h) = some (way m h n) ∧ oAt owner (way m h n) = none ∧ ∀ i, i < n → oAt owner (way m h i) ≠ none := by
  obtain ⟨r, lr, er⟩ := runs_meet g h l
  have at_ : way m h (off m (SetTable.bits h % (m + 1)) (SetTable.bits h) r) = y := by
    unfold way
    rw [nth_off, itL_run]
    exact er
  obtain ⟨n, a, b, c⟩ := st_least (p := fun i => oAt owner (way m h i) = none) _ (by show oAt owner (way m h _) = none; rw [at_]; exact e)
  refine ⟨n, ?_, b, c⟩
  have some_ : ∀ i, i < n → (oAt owner (way m h i)).isNone = false := fun i li => by
    have := c i li
    cases z : oAt owner (way m h i) with
    | none => exact (this z).elim
    | some _ => rfl
  exact free_spec m owner (SetTable.turns m) r _ _ n (by simp only [SetTable.turns]; omega) a some_ (by simp only [b, Option.isNone])
theorem own_more {m : Nat} (g : MkOk m) {done : List Int} {owner : Array (Option Nat)} (W : Own m done owner) (l : done.length ≤ m) (h : Int) :
    ∃ y, SetTable.layClean.free m owner (SetTable.turns m) (SetTable.bits h % (m + 1)) (SetTable.bits h) = some y ∧ Own m (done ++ [h]) (owner.setIfInBounds y (some done.length)) := by
  obtain ⟨ps, lps, inps⟩ := W.ps
  obtain ⟨z, lz, nz⟩ := st_missing ps (m + 1) (by omega)
  have ez : oAt owner z = none := Classical.byContradiction fun c => nz (inps z (Nat.lt_succ_iff.mp lz) c)
  obtain ⟨n, e, en, before⟩ := free_at g owner h (Nat.lt_succ_iff.mp lz) ez
  have ly : way m h n ≤ m := way_in
  generalize hy : way m h n = y at *
  have self : oAt (owner.setIfInBounds y (some done.length)) y = some done.length := oAt_set_self _ (by rw [W.sz]; omega)
  have other : ∀ x, x ≠ y → oAt (owner.setIfInBounds y (some done.length)) x = oAt owner x := fun x c => oAt_set_ne _ c
  have keep : ∀ x, oAt owner x ≠ none → oAt (owner.setIfInBounds y (some done.length)) x ≠ none := fun x c => by
    by_cases d : x = y
    · rw [d, self]; exact Option.some_ne_none _
    · rw [other x d]; exact c
  refine ⟨y, e, ⟨by simp [W.sz], ?_, ?_, y :: ps, by simp [lps], fun x lx c => ?_⟩⟩
  · intro x k lx ex
    by_cases d : x = y
    · subst d
      rw [self] at ex
      cases ex
      exact ⟨h, n, by simp, hy, fun i li => keep _ (before i li)⟩
    · rw [other x d] at ex
      obtain ⟨h2, n2, a, b, c⟩ := W.at_ x k lx ex
      exact ⟨h2, n2, by rw [List.getElem?_append_left (List.getElem?_eq_some_iff.mp a).1]; exact a, b, fun i li => keep _ (c i li)⟩
  · intro k lk
    by_cases d : k = done.length
    · subst d; exact ⟨y, ly, self⟩
    · obtain ⟨x, lx, ex⟩ := W.all k (by simp at lk; omega)
      exact ⟨x, lx, by rw [other x (fun c => by rw [c, en] at ex; cases ex)]; exact ex⟩
  · by_cases d : x = y
    · subst d; simp
    · rw [other x d] at c
      exact List.mem_cons_of_mem _ (inps x lx c)
theorem owns {m : Nat} (g : MkOk m) : ∀ (more done : List Int) (owner : Array (Option Nat)), Own m done owner → (done ++ more).length ≤ m →
    ∃ o2, more.foldl (stepF m) (some (owner, done.length)) = some (o2, (done ++ more).length) ∧ Own m (done ++ more) o2
  | [], done, owner, W, _ => ⟨owner, by simp, by simpa using W⟩
  | h :: more, done, owner, W, l => by
    simp only [List.length_append, List.length_cons] at l
    obtain ⟨y, e, W2⟩ := own_more g W (by omega) h
    have z := owns g more (done ++ [h]) _ W2 (by simp; omega)
    simp only [List.append_assoc, List.singleton_append, List.length_append, List.length_cons, List.length_nil, Nat.zero_add] at z
    obtain ⟨o2, f, W3⟩ := z
    exact ⟨o2, by rw [List.foldl_cons, stepF_some e, f]; simp, W3⟩
theorem relaid_w (t : SetTable) {hs : Array Int} {wanted m : Nat} (ew : SetTable.sizeAbove wanted - 1 = m) (g : MkOk m) (l : hs.size ≤ m) :
    ∃ t2 order, t.relaid hs wanted = some (t2, order) ∧ order.toList.Perm (List.range hs.size) ∧ TabW t2 (order.toList.map fun i => hs.getD i 0) ∧ t2.mask = m ∧ t2.led = t.led := by
  obtain ⟨owner, f, W⟩ := owns g hs.toList [] _ (Own.init m) (by simpa using l)
  rw [List.nil_append] at W f
  have lay : SetTable.layClean m hs = some owner := by
    rw [layClean_eq, show (0 : Nat) = ([] : List Int).length from rfl, f]; rfl
  have both := ris_live (fun y => owner.getD y none) (List.range (m + 1)) (by unfold Ris; exact List.pairwise_lt_range)
  have ris : Ris ((liveOf m owner).map (·.1)) := both.1
  have low : ∀ y ∈ (liveOf m owner).map (·.1), y ∈ List.range (m + 1) := both.2
  have cnt : (liveOf m owner).length = hs.size := by
    obtain ⟨ps, lps, inps⟩ := W.ps
    have n1 := nat_nodup_len ((liveOf m owner).map (·.1)) ps (show ((liveOf m owner).map (·.1)).Nodup from ris.imp fun z => Nat.ne_of_lt z) (fun y my => by
      obtain ⟨⟨y2, k⟩, mq, rfl⟩ := List.mem_map.mp my
      obtain ⟨a, b⟩ := (mem_live W.sz).mp mq
      exact inps _ a (by simp [b]))
    have n2 := nat_nodup_len (List.range hs.size) ((liveOf m owner).map (·.2)) List.nodup_range (fun k mk => by
      obtain ⟨y, a, b⟩ := W.all k (by simpa using List.mem_range.mp mk)
      exact List.mem_map.mpr ⟨(y, k), (mem_live W.sz).mpr ⟨a, b⟩, rfl⟩)
    simp at n1 n2 lps
    omega
  refine ⟨tabOf t m owner, ((liveOf m owner).map (·.2)).toArray, by rw [relaid_eq, ew, lay]; rfl, ?_, ⟨ris, rfl, ?_, g, fun y my => ?_, fun q mq => ?_⟩, rfl, rfl⟩
  · refine perm_range hs.size _ (by simpa using cnt) fun k lk => ?_
    obtain ⟨y, a, b⟩ := W.all k (by simpa using lk)
    exact List.mem_map.mpr ⟨(y, k), (mem_live W.sz).mpr ⟨a, b⟩, rfl⟩
  · show _ = ((liveOf m owner).map (·.1)).toArray.size
    simp
  · exact Nat.lt_succ_iff.mp (List.mem_range.mp (low y my))
  · have mq2 : q ∈ (((liveOf m owner).map (·.2)).map fun i => hs.getD i 0).zip ((liveOf m owner).map (·.1)) := mq
    rw [List.map_map, List.zip_map', List.mem_map] at mq2
    obtain ⟨⟨y, k⟩, mk, rfl⟩ := mq2
    obtain ⟨a, b⟩ := (mem_live W.sz).mp mk
    obtain ⟨h, n, e1, e2, e3⟩ := W.at_ y k a b
    have eh : hs.getD k 0 = h := by
      rw [Array.getD_eq_getD_getElem?, ← Array.getElem?_toList, e1]; rfl
    refine ⟨n, by simp only [Function.comp_def, eh]; exact e2, fun i li => ?_⟩
    simp only [Function.comp_def, eh]
    cases z : oAt owner (way m h i) with
    | none => exact (e3 i li z).elim
    | some k2 => exact List.mem_map.mpr ⟨(way m h i, k2), (mem_live W.sz).mpr ⟨way_in, z⟩, rfl⟩
theorem size_308 : SetTable.sizeAbove (SetTable.grown 77) = 512 := by decide +kernel
end VY
namespace VY
open PySem PySem.Spec
open PyProof.Rows hiding St
open L2
/-- the tuple at b has these keys -/
abbrev IsU (P : Program) (w : World) (h : Heap) (k : List Key) (b : Addr) : Prop := IsTupleKey (mixKind P w) h k b
abbrev uh (P : Program) (w : World) (k : List Key) : Int := tupleKeyHash (mixKind P w) k
theorem flat_key {v : Value} {k : Key} {P : Program} {w : World} (h : (mixKind P w).is k v = true) : (∃ i t, v = .int i t) ∨ ∃ x t, v = .str x t := by
  rcases keyIs_shape h with ⟨i, t, _, e⟩ | ⟨x, t, _, e⟩
  · exact .inl ⟨i, t, e⟩
  · exact .inr ⟨x, t, e⟩
theorem flats {P : Program} {w : World} {k : List Key} {vs : List Value} (h : ItemsAre (mixKind P w) k vs) : ∀ v ∈ vs, (∃ i t, v = Value.int i t) ∨ ∃ x t, v = Value.str x t := by
  induction h with
  | nil => exact fun v z => nomatch z
  | cons a _ ih => exact fun v z => (List.mem_cons.mp z).elim (fun e => e ▸ flat_key a) (ih v)
section
variable {P : Program} {w : World} {A : Around} {E : Value → Shared → Prop} {s : Shared} {k : List Key} {b : Addr}
/-- no class of a statement is within -/
theorem plain_u {Q : Bool → Shared → Prop} (hk : IsU P w s.heap k b) (q : Q false s) : wpAny (model P w) A (ofAClassStatement 8 (.ref b)) Q E s := by
  have ty := hk.typeIs
  obtain ⟨ob, its, n, at_, _, dt, ik⟩ := hk
  unfold ofAClassStatement
  refine wpAny_bind (wpAny_typeOf ty ?_)
  dsimp only
  simp only [show (("tuple" : String) == "tuple") = true by decide, if_true, Bool.not_true, Bool.false_eq_true, if_false]
  try refine wpAny_bind (wpAny_pure ?_)
  try simp only [Bool.not_true, Bool.false_eq_true, if_false]
  refine wpAny_bind (m := seqItems? (.ref b)) (wpAny_seqItems at_ dt ?_)
  dsimp only
  refine wpAny_bind (m := forIn its _ _) ?_
  rw [← Array.forIn_toList]
  refine wpAny_forIn_list _ (fun l r z => r.1 = none ∧ z = s ∧ ∀ v ∈ l, (∃ i t, v = Value.int i t) ∨ ∃ x t, v = Value.str x t) _ ?_ ?_ _ _ ⟨rfl, rfl, flats ik⟩
  · rintro v l r z ⟨_, rfl, all⟩
    have e : ofAClassStatement 7 v = pure false := by rcases all v List.mem_cons_self with ⟨i, t, rfl⟩ | ⟨x, t, rfl⟩ <;> rfl
    rw [e]
    refine wpAny_bind (wpAny_pure ?_)
    simp only [Bool.false_eq_true, if_false]
    exact wpAny_pure ⟨rfl, rfl, fun u hu => all u (List.mem_cons_of_mem _ hu)⟩
  · rintro ⟨r1, r2⟩ z ⟨h1, rfl, _⟩
    cases (show r1 = none from h1)
    exact wpAny_pure q
/-- whether its hash hangs on no text -/
theorem byv_u {Q : Bool → Shared → Prop} (hk : IsU P w s.heap k b) (q : ∀ y, Q y s) : wpAny (model P w) A (hashByValue 8 (.ref b)) Q E s := by
  have ty := hk.typeIs
  obtain ⟨ob, its, n, at_, _, dt, ik⟩ := hk
  unfold hashByValue
  refine wpAny_bind (wpAny_specialOf ty F.slot_tuple_hash.lookup ?_)
  refine wpAny_bind (m := seqItems? (.ref b)) (wpAny_seqItems at_ dt ?_)
  refine wpAny_bind (m := forIn its _ _) ?_
  rw [← Array.forIn_toList]
  refine wpAny_forIn_list _ (fun l r z => z = s ∧ ∀ v ∈ l, (∃ i t, v = Value.int i t) ∨ ∃ x t, v = Value.str x t) _ ?_ ?_ _ _ ⟨rfl, flats ik⟩
  · rintro v l r z ⟨rfl, all⟩
    rcases all v List.mem_cons_self with ⟨i, t, rfl⟩ | ⟨x, t, rfl⟩
    · rw [show hashByValue 7 (.int i t) = pure true from rfl]
      refine wpAny_bind (wpAny_pure ?_)
      simp only [Bool.not_true, Bool.false_eq_true, if_false]
      exact wpAny_pure ⟨rfl, fun u hu => all u (List.mem_cons_of_mem _ hu)⟩
    · rw [show hashByValue 7 (.str x t) = pure false from rfl]
      refine wpAny_bind (wpAny_pure ?_)
      simp only [Bool.not_false, if_true]
      exact wpAny_pure (wpAny_pure (q false))
  · rintro ⟨r1, r2⟩ z ⟨rfl, _⟩
    cases r1 with
    | none => exact wpAny_pure (q true)
    | some y => exact wpAny_pure (q y)
/-- looking for it shows nothing of the table -/
theorem quiet_u {Q : Bool → Shared → Prop} (hk : IsU P w s.heap k b) {ys : List Value} (hy : ∀ y ∈ ys, ∃ k' c, y = Value.ref c ∧ IsU P w s.heap k' c) (q : Q false s) : wpAny (model P w) A (searchCouldBeSeen (.ref b) ys) Q E s := by
  unfold searchCouldBeSeen
  refine wpAny_bind ?_
  refine wpAny_forIn_list _ (fun l r z => r.1 = none ∧ z = s ∧ ∀ y ∈ l, ∃ k' c, y = Value.ref c ∧ IsU P w s.heap k' c) _ ?_ ?_ _ _ ⟨rfl, rfl, hy⟩
  · rintro y l r z ⟨_, rfl, all⟩
    obtain ⟨k', c, rfl, hc⟩ := all y List.mem_cons_self
    have more : ∀ y ∈ l, ∃ k' c, y = Value.ref c ∧ IsU P w z.heap k' c := fun u hu => all u (List.mem_cons_of_mem _ hu)
    dsimp only
    by_cases same : (b == c || (carriedByValue (.ref b) && carriedByValue (.ref c))) = true
    · exact wp_if_pos same (wpAny_pure ⟨rfl, rfl, more⟩)
    · refine wp_if_neg same (wpAny_bind (wpAny_eqIsQuiet_tuple hk ?_))
      simp only [Bool.not_true, Bool.false_eq_true, if_false]
      refine wpAny_bind (wpAny_eqIsQuiet_tuple hc ?_)
      simp only [Bool.not_true, Bool.false_eq_true, if_false]
      refine wpAny_bind (plain_u hk ?_)
      simp only [Bool.false_eq_true, if_false]
      refine wpAny_bind (plain_u hc ?_)
      simp only [Bool.false_eq_true, if_false]
      exact wpAny_pure ⟨rfl, rfl, more⟩
  · rintro ⟨r1, r2⟩ z ⟨h1, rfl, _⟩
    cases (show r1 = none from h1)
    exact wpAny_pure q
abbrev Els := List (Addr × List Key)
/-- the set's rows -/
def rowU (P : Program) (w : World) (L : Els) : List (Int × Value) := L.map fun p => (uh P w p.2, Value.ref p.1)
abbrev hsU (P : Program) (w : World) (L : Els) : List Int := L.map fun p => uh P w p.2
abbrev ksU (L : Els) : List (List Key) := L.map (·.2)
def memU (k : List Key) (l : List (List Key)) : Bool := l.any fun j => decide (j = k)
theorem memU_of {k : List Key} {l : List (List Key)} : memU k l = true ↔ k ∈ l := by simp [memU]
theorem memU_no {k : List Key} {l : List (List Key)} (h : k ∉ l) : memU k l = false := by
  cases z : memU k l with
  | false => rfl
  | true => exact (h (memU_of.mp z)).elim
structure TSu (P : Program) (w : World) (h : Heap) (a : Addr) (L : Els) (es : Array (Int × Value)) (ep : Nat) (t : SetTable) : Prop where
  obj : ∃ o, h.get? a = some o ∧ o.ExactSet ∧ o.data = .set es ep t
  rows : es.toList = rowU P w L
  tab : TabW t (hsU P w L)
  once : (ksU L).Nodup
  led : w.params.followText "set-order" = true ∨ t.led = true
  free : L.length * 5 < t.mask * 3
variable {a : Addr} {L : Els} {es : Array (Int × Value)} {ep : Nat} {t : SetTable}
theorem rows_len (e : es.toList = rowU P w L) : es.size = L.length := by
  have z := congrArg List.length e
  rwa [Array.length_toList, rowU, List.length_map] at z
theorem rows_at (e : es.toList = rowU P w L) {i : Nat} {p : Addr × List Key} (h : L[i]? = some p) : es[i]? = some (uh P w p.2, Value.ref p.1) := by
  rw [← Array.getElem?_toList, e, rowU, List.getElem?_map, h]
  rfl
theorem TSu.psz (R : TSu P w s.heap a L es ep t) : t.place.size = L.length := R.tab.len.symm.trans (List.length_map ..)
theorem TSu.fits (R : TSu P w s.heap a L es ep t) : t.fits es.size = true := by
  have h1 := R.psz
  have h2 := rows_len R.rows
  have h3 := R.free
  unfold SetTable.fits SetTable.fill
  rw [R.tab.no, Bool.and_eq_true, beq_iff_eq, decide_eq_true_eq]
  refine ⟨by omega, ?_⟩
  show t.place.size + 0 ≤ t.mask
  omega
theorem TSu.odd (R : TSu P w s.heap a L es ep t) : ¬ t.gaveWay = true := by
  unfold SetTable.gaveWay
  rw [R.tab.ok.odd]
  decide
/-- no dummy on the way -/
theorem nth_clean (m : Nat) : ∀ (n : Nat) (p : SetTable.Probe), p.dummy = none → (nth m p n).dummy = none
  | 0, _, e => e
  | n + 1, p, e => nth_clean m n (adv m p) (by unfold adv; split <;> exact e)
abbrev startU (t : SetTable) (h : Int) : SetTable.Probe := runAt t.mask (SetTable.bits h % (t.mask + 1)) (SetTable.bits h)
/-- a search: from the c-th place on the way to the first empty one -/
theorem seek (R : TSu P w s.heap a L es ep t) (tu : ∀ p ∈ L, IsU P w s.heap p.2 p.1) {x : Addr} (hx : IsU P w s.heap k x) (hu : A.units < cLine) (ad : Bool) {N : Nat} (nf : N < 10 * SetTable.turns t.mask)
    (ne : way t.mask (uh P w k) N ∉ t.place.toList) (nb : ∀ c, c < N → way t.mask (uh P w k) c ∈ t.place.toList) {Q : SetFound → Shared → Prop}
    (yes : k ∈ ksU L → ∀ r, (ad = false → r.isSome = true) → Q (.there r) s) (no : k ∉ ksU L → Q (.free (way t.mask (uh P w k) N) false) s) :
    ∀ (f c : Nat) (st : Option SetTable.Probe), st.getD (t.probeStart (uh P w k)) = nth t.mask (startU t (uh P w k)) c → c ≤ N → N - c < f →
      (∀ (i : Nat) p, L[i]? = some p → p.2 = k → ∃ d, c ≤ d ∧ d < N ∧ t.place.toList[i]? = some (way t.mask (uh P w k) d)) →
      wpAny (model P w) A (setSearchFrom a (.ref x) (uh P w k) ad f st) Q E s
  | 0, c, st, _, _, hf, _ => (Nat.not_lt_zero _ hf).elim
  | f + 1, c, st, hst, hc, hf, left => by
    obtain ⟨o, ho, hex, hd⟩ := R.obj
    generalize hH : uh P w k = H at *
    rw [setSearchFrom_succ]
    refine wpAny_bind (wpAny_setState_of ho hd R.fits ?_)
    dsimp only
    refine wp_if_neg R.odd ?_
    try refine wpAny_bind (wpAny_pure ?_)
    have sh : ∀ q, nth t.mask (nth t.mask (startU t H) c) q = nth t.mask (startU t H) (c + q) := fun q => (nth_add t.mask c _ q).symm
    have wj : ∀ q, (nth t.mask (nth t.mask (startU t H) c) q).j = way t.mask H (c + q) := fun q => congrArg SetTable.Probe.j (sh q)
    have hashAt : ∀ (i : Nat) p, L[i]? = some p → (es[i]?.map (·.1)).getD 0 = uh P w p.2 := fun i p hp => by rw [rows_at R.rows hp]; rfl
    have spec := go_spec t R.tab.up R.tab.no (fun i => (es[i]?.map (·.1)).getD 0) H (10 * SetTable.turns t.mask) (N - c) (nth t.mask (startU t H) c) (nth_clean t.mask c _ rfl) (by omega)
      (fun q hq => by rw [wj]; exact nb (c + q) (by omega)) (by rw [wj, Nat.add_sub_cancel' hc]; exact ne)
    rcases spec with ⟨q, i, hq, hi, hh, hno, hpr⟩ | ⟨hno, hpr⟩
    · have met : t.probe (fun i => (es[i]?.map (·.1)).getD 0) H (st.getD (t.probeStart H)) = some (.candidate (way t.mask H (c + q)) i (nth t.mask (startU t H) (c + (q + 1)))) := by
        rw [hst, ← wj, ← sh]
        exact hpr
      rw [met]
      dsimp only
      rw [wj] at hi
      have il : i < L.length := by
        have z := (List.getElem?_eq_some_iff.mp hi).1
        rw [Array.length_toList, R.psz] at z
        exact z
      obtain ⟨p, hp⟩ : ∃ p, L[i]? = some p := ⟨_, List.getElem?_eq_getElem il⟩
      have pm : p ∈ L := List.mem_of_getElem? hp
      have go : wpAny (model P w) A (searchRest a (.ref x) H ad f es t (way t.mask H (c + q)) i (nth t.mask (startU t H) (c + (q + 1)))) Q E s := by
        unfold searchRest
        rw [rows_at R.rows hp]
        dsimp only
        refine wpAny_bind (wpAny_holding (wpAny_eqBool_tuple hu (tu p pm) hx ?_))
        refine wpAny_bind (wpAny_setState_of ho hd R.fits ?_)
        dsimp only
        have live : t.slot (way t.mask H (c + q)) = .live i := slot_live R.tab.up hi
        by_cases eq : p.2 = k
        · have mem : k ∈ ksU L := List.mem_map.mpr ⟨p, pm, eq⟩
          cases ad with
          | true => exact wp_if_pos (by simp [eq]) (wpAny_pure (yes mem none (fun z => nomatch z)))
          | false =>
            refine wp_if_neg (by simp) ?_
            try refine wpAny_bind (wpAny_pure ?_)
            rw [sameMem]
            dsimp only
            simp only [if_true, live, rows_at R.rows hp]
            refine wpAny_bind (wpAny_isSame_ref_self (wpAny_bind (wpAny_pure ?_)))
            simp only [if_true]
            exact wp_if_pos (by simp [eq]) (wpAny_pure (yes mem (some i) (fun _ => rfl)))
        · refine wp_if_neg (by simp [eq]) ?_
          try refine wpAny_bind (wpAny_pure ?_)
          rw [sameMem]
          dsimp only
          simp only [if_true, live, rows_at R.rows hp]
          refine wpAny_bind (wpAny_isSame_ref_self (wpAny_bind (wpAny_pure ?_)))
          simp only [if_true]
          refine wp_if_neg (by simp [eq]) ?_
          subst hH
          refine seek R tu hx hu ad nf ne nb yes no f (c + (q + 1)) _ rfl (by omega) (by omega) fun j p' hp' ek => ?_
          obtain ⟨d, d1, d2, d3⟩ := left j p' hp' ek
          have hj := (hashAt j p' hp').trans (congrArg (uh P w) ek)
          refine ⟨d, ?_, d2, d3⟩
          rcases Nat.lt_trichotomy d (c + q) with z | z | z
          · exact (hno (d - c) j (by omega) (by rw [wj, Nat.add_sub_cancel' d1]; exact d3) hj).elim
          · subst z
            have z := slot_live R.tab.up d3
            rw [live] at z
            injection z with z
            subst z
            rw [hp] at hp'
            cases hp'
            exact (eq ek).elim
          · omega
      by_cases hl : t.led = true
      · refine wp_if_neg (by simp [hl]) ?_
        try refine wpAny_bind (wpAny_pure ?_)
        exact go
      · refine wp_if_pos (by simp [hl]) ?_
        refine wpAny_bind (quiet_u hx (fun y hy => ?_) ?_)
        · obtain ⟨e, he, rfl⟩ := List.mem_map.mp hy
          have m1 : e ∈ es.toList := by
            have z : e ∈ es ∧ e.1 = H := by simpa using he
            simpa using z.1
          rw [R.rows] at m1
          obtain ⟨p', hp', rfl⟩ := List.mem_map.mp m1
          exact ⟨p'.2, p'.1, rfl, tu p' hp'⟩
        · refine wp_if_neg (by decide) ?_
          try refine wpAny_bind (wpAny_pure ?_)
          exact go
    · have met : t.probe (fun i => (es[i]?.map (·.1)).getD 0) H (st.getD (t.probeStart H)) = some (.empty (way t.mask H N) none) := by
        have z : way t.mask H N = (nth t.mask (nth t.mask (startU t H) c) (N - c)).j := by rw [wj, Nat.add_sub_cancel' hc]
        rw [hst, z]
        exact hpr
      rw [met]
      dsimp only
      refine wpAny_pure (no fun hm => ?_)
      obtain ⟨p', hp', ek⟩ := List.mem_map.mp hm
      obtain ⟨j, hj⟩ := List.mem_iff_getElem?.mp hp'
      obtain ⟨d, d1, d2, d3⟩ := left j p' hj ek
      exact hno (d - c) j (by omega) (by rw [wj, Nat.add_sub_cancel' d1]; exact d3) (by rw [← hH, ← ek]; exact hashAt j p' hj)
/-- .. from its start -/
theorem seek0 (R : TSu P w s.heap a L es ep t) (tu : ∀ p ∈ L, IsU P w s.heap p.2 p.1) {x : Addr} (hx : IsU P w s.heap k x) (hu : A.units < cLine) (ad : Bool) {Q : SetFound → Shared → Prop}
    (yes : k ∈ ksU L → ∀ r, (ad = false → r.isSome = true) → Q (.there r) s)
    (no : ∀ N, k ∉ ksU L → way t.mask (uh P w k) N ∉ t.place.toList → (∀ c, c < N → way t.mask (uh P w k) c ∈ t.place.toList) → Q (.free (way t.mask (uh P w k) N) false) s) :
    wpAny (model P w) A (setSearch a (.ref x) (uh P w k) ad) Q E s := by
  have hf := R.free
  obtain ⟨N, n1, n2, n3⟩ := R.tab.first (by rw [List.length_map]; omega) (uh P w k)
  have big : N < 100000 := by
    have : 10 * SetTable.turns t.mask ≤ 5260 := by
      unfold SetTable.turns
      rcases R.tab.ok with (e | e | e) | e <;> omega
    omega
  refine seek R tu hx hu ad n1 n2 n3 yes (fun z => no N z n2 n3) 100000 0 none rfl (Nat.zero_le _) (by omega) fun i p hp ek => ?_
  have hi : (hsU P w L)[i]? = some (uh P w k) := by rw [List.getElem?_map, hp, ← ek]; rfl
  have il : i < t.place.toList.length := by
    rw [Array.length_toList, R.psz]
    exact (List.getElem?_eq_some_iff.mp hp).1
  obtain ⟨d, d1, d2⟩ := R.tab.before n2 hi (List.getElem?_eq_getElem il)
  exact ⟨d, Nat.zero_le _, d1, by rw [List.getElem?_eq_getElem il, d2]⟩
theorem TSu.tok (R : TSu P w s.heap a L es ep t) (n : Nat) : TSu P w ({ s with toks := n } : Shared).heap a L es ep t := R
theorem TSu.ty (R : TSu P w s.heap a L es ep t) : s.TypeIs (.ref a) "set" := by
  obtain ⟨o, ho, hc, _⟩ := R.obj
  exact ⟨o, ho, hc.1⟩
theorem TSu.nodict (R : TSu P w s.heap a L es ep t) : ∀ b, Value.ref a = .ref b → ∃ ob, s.heap.get? b = some ob ∧ ob.dict = none := fun b e => by
  cases e
  obtain ⟨o, ho, hc, _⟩ := R.obj
  exact ⟨o, ho, hc.2.1⟩
/-- is it among them? -/
theorem find_u (R : TSu P w s.heap a L es ep t) (tu : ∀ p ∈ L, IsU P w s.heap p.2 p.1) {x : Addr} (hx : IsU P w s.heap k x) (hu : A.units < cLine) {Q : Option Nat → Shared → Prop}
    (q : ∀ r : Option Nat, r.isSome = memU k (ksU L) → Q r s) : wpAny (model P w) A (setFind a (.ref x) (uh P w k)) Q E s := by
  obtain ⟨o, ho, hex, hd⟩ := R.obj
  show wpAny (model P w) A (setFindIn a (.ref x) (uh P w k) (99999 + 1)) Q E s
  unfold setFindIn
  refine wpAny_bind (wpAny_setState_of ho hd R.fits ?_)
  dsimp only
  refine wp_if_neg (by simp [byScan, Value.scannable]) ?_
  try refine wpAny_bind (wpAny_pure ?_)
  refine wpAny_bind (seek0 R tu hx hu false (fun m r hr => ?_) fun N m _ _ => ?_)
  · exact wpAny_pure (q r (by rw [hr rfl, memU_of.mpr m]))
  · exact wpAny_pure (q none (by rw [memU_no m]; rfl))
theorem in_u (R : TSu P w s.heap a L es ep t) (tu : ∀ p ∈ L, IsU P w s.heap p.2 p.1) {x : Addr} (hx : IsU P w s.heap k x) (hu : A.units + 1 < cLine) {Q : Value → Shared → Prop}
    (q : ∀ n, Q (.bool (memU k (ksU L))) { s with toks := n }) : wpAny (model P w) A (compareOp .In (.ref x) (.ref a)) Q E s := by
  show wpAny _ _ (do return .bool (← contains (.ref a) (.ref x))) Q E s
  refine wpAny_bind ?_
  unfold contains
  try with_reducible refine wpAny_holding ?_
  refine wpAny_bind (wpAny_specialOf R.ty F.slot_set_contains.lookup ?_)
  refine wp_if_neg (by rw [beq_builtin_none]; exact Bool.false_ne_true) ?_
  refine wpAny_bind (wpAny_callSpecialUnlessNone?_slot (name := Str.ofString "__contains__") R.ty F.slot_set_contains
    (wpAny_call_entry F.slot_set_contains R.ty entry_set_contains ?_ (F.args_set_contains_2 _ _)))
  unfold Builtin.«frozenset.__contains__» Builtin.Frozenset.oneOther
  simp only [List.isEmpty_nil, bind_assoc]
  unfold Builtin.Frozenset.addrOf Builtin.Frozenset.withSetAsKey setContains
  refine wpAny_bind (wpAny_pure ?_)
  try dsimp only
  refine wpAny_bind (wpAny_pure ?_)
  try dsimp only
  refine wpAny_bind (wpAny_tryCatch (wpAny_holding (wpAny_bind (wpAny_pyHash_tuple hu hx ?_))))
  refine wpAny_bind (find_u (A := A.in1) (s := { s with toks := s.toks + (k.length + 1) }) R tu hx hu fun r hr => ?_)
  refine wpAny_pure ?_
  show wpAny _ _ (ret (Value.bool r.isSome)) _ _ _
  rw [hr]
  exact wpAny_pure ⟨_, rfl, wpAny_truthy_bool (wpAny_pure (q _))⟩
/-- the rows in another order -/
theorem rows_perm {L : Els} {es : Array (Int × Value)} {order : Array Nat} (e : es.toList = rowU P w L) (hp : order.toList.Perm (List.range L.length)) :
    ∃ M : Els, (order.filterMap (es[·]?)).toList = rowU P w M ∧ M.Perm L ∧ hsU P w M = order.toList.map fun i => (es.map (·.1)).getD i 0 := by
  have one : ∀ l : List Nat, (∀ i ∈ l, i < L.length) → l.filterMap (es[·]?) = rowU P w (l.filterMap (L[·]?)) ∧ hsU P w (l.filterMap (L[·]?)) = l.map fun i => (es.map (·.1)).getD i 0 := fun l => by
    induction l with
    | nil => exact fun _ => ⟨rfl, rfl⟩
    | cons i l ih =>
      intro h
      obtain ⟨i1, i2⟩ := ih fun j hj => h j (List.mem_cons_of_mem _ hj)
      have hi : L[i]? = some (L[i]'(h i List.mem_cons_self)) := List.getElem?_eq_getElem _
      generalize L[i]'(h i List.mem_cons_self) = p at hi
      have he := rows_at e hi
      rw [List.filterMap_cons_some he, List.filterMap_cons_some hi, i1]
      refine ⟨rfl, ?_⟩
      show uh P w p.2 :: hsU P w _ = _ :: _
      rw [i2]
      congr 1
      show uh P w p.2 = (es.map (·.1)).getD i 0
      rw [Array.getD_eq_getD_getElem?, Array.getElem?_map, he]
      rfl
  have all : (List.range L.length).filterMap (L[·]?) = L := by
    have part : ∀ n, n ≤ L.length → (List.range n).filterMap (L[·]?) = L.take n := fun n => by
      induction n with
      | zero => exact fun _ => rfl
      | succ n ih =>
        intro hn
        rw [List.range_succ, List.filterMap_append, ih (by omega), List.take_succ]
        cases z : L[n]? with
        | none => exact absurd (List.getElem?_eq_none_iff.mp z) (by omega)
        | some p => simp [z]
    rw [part _ (Nat.le_refl _), List.take_length]
  obtain ⟨h1, h2⟩ := one order.toList fun i hi => List.mem_range.mp (hp.mem_iff.mp hi)
  have pm := hp.filterMap (L[·]?)
  rw [all] at pm
  exact ⟨_, by simpa using h1, pm, h2⟩
theorem isU_other {h h' : Heap} {x : Addr} {o : Obj} (hb : IsU P w h k x) (ho : h.get? a = some o) (hd : o.data = .set es ep t) (sb : Heap.SameBut a h h') : IsU P w h' k x := by
  obtain ⟨ob, its, n, e, c, d, i⟩ := hb
  have ne : x ≠ a := fun z => by
    subst z
    rw [ho] at e
    cases e
    rw [hd] at d
    cases d
  exact ⟨ob, its, n, (sb.2 x ne).trans e, c, d, i⟩
/-- the table laid anew -/
theorem relay_u {o : Obj} (ho : s.heap.get? a = some o) (hex : o.ExactSet) (hd : o.data = .set es ep t) (rows : es.toList = rowU P w L) (tab : TabW t (hsU P w L)) (fl : L.length ≤ t.mask) (once : (ksU L).Nodup)
    (led : w.params.followText "set-order" = true ∨ t.led = true) {wanted M : Nat} (hw : SetTable.sizeAbove wanted - 1 = M) (hM : MkOk M) (hw2 : SetTable.sizeAbove wanted ≤ 512) (hn : L.length * 5 < M * 3) {Q : Unit → Shared → Prop}
    (q : ∀ h' L' es' ep' t', Heap.SameBut a s.heap h' → TSu P w h' a L' es' ep' t' → L'.Perm L → Q () { s with heap := h' }) : wpAny (model P w) A (setRelay a wanted) Q E s := by
  have sz := rows_len rows
  have ps : t.place.size = L.length := tab.len.symm.trans (List.length_map ..)
  have hM2 : M ≤ 511 := by rcases hM with (e | e | e) | e <;> omega
  have fits : t.fits es.size = true := by
    unfold SetTable.fits SetTable.fill
    rw [tab.no, Bool.and_eq_true, beq_iff_eq, decide_eq_true_eq]
    refine ⟨by omega, ?_⟩
    show t.place.size + 0 ≤ t.mask
    omega
  obtain ⟨t', order, e, hp, T, em, el⟩ := relaid_w t (hs := es.map (·.1)) hw hM (by rw [Array.size_map]; omega)
  rw [Array.size_map, sz] at hp
  obtain ⟨M', r1, r2, r3⟩ := rows_perm rows hp
  rw [← r3] at T
  have sz2 : (order.filterMap (es[·]?)).size = es.size := by rw [rows_len r1, r2.length_eq, sz]
  rw [setRelay_eq]
  refine wpAny_bind (wpAny_setState_of ho hd fits ?_)
  dsimp only
  refine wp_if_neg (by rw [sizeLine_eq]; omega) ?_
  try refine wpAny_bind (wpAny_pure ?_)
  rw [e]
  dsimp only
  refine wpAny_bind (wp_if_neg (by rw [sz2]; simp) ?_)
  try refine wpAny_bind (wpAny_pure ?_)
  refine wpAny_pure ?_
  dsimp only
  refine wpAny_storeSet_of ho hd ?_ (by rw [sz2, sz, sizeLine_eq]; omega)
  refine q _ M' _ (ep + 1) t' (Heap.SameBut.update ..) ⟨⟨_, store_at ho hd, ⟨hex.1, hex.2.1, hex.2.2⟩, rfl⟩, r1, T, (r2.map (·.2)).nodup_iff.mpr once, by rw [el]; exact led, by rw [r2.length_eq, em]; exact hn⟩ r2
theorem ins_perm {α : Type} (l : List α) (n : Nat) (x : α) : (l.take n ++ x :: l.drop n).Perm (x :: l) := by
  have z : (l.take n ++ x :: l.drop n).Perm (x :: (l.take n ++ l.drop n)) := List.perm_middle
  rwa [List.take_append_drop] at z
/-- one more -/
theorem add_u (R : TSu P w s.heap a L es ep t) (tu : ∀ p ∈ L, IsU P w s.heap p.2 p.1) {x : Addr} (hx : IsU P w s.heap k x) (hu : A.units < cLine) (few : L.length < 306) {Q : Bool → Shared → Prop}
    (q : ∀ b h' L' es' ep' t', Heap.SameBut a s.heap h' → TSu P w h' a L' es' ep' t' → (k ∈ ksU L → L' = L) → (k ∉ ksU L → L'.Perm ((x, k) :: L)) → Q b { s with heap := h' }) :
    wpAny (model P w) A (setAddHashed a (.ref x) (uh P w k)) Q E s := by
  obtain ⟨o, ho, hex, hd⟩ := R.obj
  have sz := rows_len R.rows
  have fr := R.free
  unfold setAddHashed
  refine wpAny_holding ?_
  rw [show (100000 : Nat) = 99999 + 1 from rfl, setAddHashedIn_succ]
  refine wpAny_bind (wpAny_setState_of ho hd R.fits ?_)
  dsimp only
  refine wp_if_neg (by simp [byScan, Value.scannable]) ?_
  try refine wpAny_bind (wpAny_pure ?_)
  refine wpAny_bind (seek0 R tu hx hu true (fun m r _ => ?_) fun N m n1 n2 => ?_)
  · dsimp only
    exact wpAny_pure (q false s.heap L es ep t (Heap.SameBut.refl a s.heap) R (fun _ => rfl) fun z => (z m).elim)
  · dsimp only
    refine wpAny_bind (wpAny_setState_of ho hd R.fits ?_)
    dsimp only
    obtain ⟨q1, q2, q3, q4, q5, q9⟩ := R.tab.put n1 n2 rfl
    rw [List.length_map] at q2 q9
    generalize hj : way t.mask (uh P w k) N = j at *
    generalize hpt : t.put j = pt at q1 q3 q4 q5 q9 ⊢
    obtain ⟨t1, p⟩ := pt
    dsimp only at q1 q3 q4 q5 q9 ⊢
    subst q1
    generalize hpp : SetTable.below t.place j = p at *
    have pm := ins_perm L p (x, k)
    have len1 : (L.take p ++ (x, k) :: L.drop p).length = L.length + 1 := pm.length_eq
    have hs1 : hsU P w (L.take p ++ (x, k) :: L.drop p) = (hsU P w L).take p ++ uh P w k :: (hsU P w L).drop p := by simp [hsU]
    rw [← hs1] at q3
    have rw1 : (SetTable.insertAt es p (uh P w k, Value.ref x)).toList = rowU P w (L.take p ++ (x, k) :: L.drop p) := by
      rw [SetTable.toList_insertAt, R.rows]
      simp [rowU]
    have once1 : (ksU (L.take p ++ (x, k) :: L.drop p)).Nodup := by
      refine (pm.map (·.2)).nodup_iff.mpr ?_
      rw [List.map_cons]
      exact List.nodup_cons.mpr ⟨m, R.once⟩
    have es1 : (SetTable.insertAt es p (uh P w k, Value.ref x)).size = L.length + 1 := by rw [rows_len rw1, len1]
    generalize SetTable.insertAt es p (uh P w k, Value.ref x) = ES at rw1 es1 ⊢
    generalize L.take p ++ (x, k) :: L.drop p = L1 at pm len1 q3 rw1 once1
    -- the table, whatever it is marked with
    have fin : ∀ y : Bool, wpAny (model P w) A (do
        let t := if y then t1 else { t1 with plain := false }
        storeSet a ES t
        if !false && t.tooFull then setRelay a (SetTable.grown (es.size + 1))
        return true) Q E s := by
      intro y
      obtain ⟨t2, e2⟩ : ∃ t2 : SetTable, t2 = if y then t1 else { t1 with plain := false } := ⟨_, rfl⟩
      have s1 : t2.mask = t1.mask ∧ t2.place = t1.place ∧ t2.dummies = t1.dummies ∧ t2.led = t1.led := by subst e2; cases y <;> exact ⟨rfl, rfl, rfl, rfl⟩
      have T2 : TabW t2 (hsU P w L1) := by
        obtain ⟨a1, a2, a3, a4⟩ := s1
        exact ⟨by rw [a2]; exact q3.up, by rw [a3]; exact q3.no, by rw [a2]; exact q3.len, by rw [a1]; exact q3.ok, by rw [a1, a2]; exact q3.low, by rw [a1, a2]; exact q3.on⟩
      have f2 : t2.fill = L.length + 1 := by
        unfold SetTable.fill at q9 ⊢
        rw [s1.2.1, s1.2.2.1]; exact q9
      have m2 : t2.mask = t.mask := s1.1.trans q4
      have l2 : w.params.followText "set-order" = true ∨ t2.led = true := by rw [s1.2.2.2, q5]; exact R.led
      show wpAny _ _ (storeSet a ES (if y then t1 else { t1 with plain := false }) >>= _) _ _ _
      rw [← e2]
      clear e2
      refine wpAny_bind (wpAny_storeSet_of ho hd ?_ (by rw [es1, sizeLine_eq]; omega))
      have sb : Heap.SameBut a s.heap (s.heap.update a (Obj.putSet ES t2)) := Heap.SameBut.update ..
      have ho1 := store_at (es' := ES) (t' := t2) ho hd
      generalize s.heap.update a (Obj.putSet ES t2) = h1 at sb ho1 ⊢
      by_cases full : t2.tooFull = true
      · have ge : (L.length + 1) * 5 ≥ t.mask * 3 := by
          have z := full
          unfold SetTable.tooFull at z
          rw [decide_eq_true_eq, f2, m2] at z
          exact z
        have two : (t.mask = 7 ∧ L.length = 4) ∨ (t.mask = 31 ∧ L.length = 18) ∨ (t.mask = 127 ∧ L.length = 76) := by
          rcases R.tab.ok with (e | e | e) | e
          · exact .inl ⟨e, by rw [e] at fr ge; omega⟩
          · exact .inr (.inl ⟨e, by rw [e] at fr ge; omega⟩)
          · exact .inr (.inr ⟨e, by rw [e] at fr ge; omega⟩)
          · rw [e] at ge; omega
        have go : ∀ M, SetTable.sizeAbove (SetTable.grown (L.length + 1)) - 1 = M → MkOk M → SetTable.sizeAbove (SetTable.grown (L.length + 1)) ≤ 512 → (L.length + 1) * 5 < M * 3 →
            wpAny (model P w) A (setRelay a (SetTable.grown (L.length + 1))) (fun _ s' => wpAny (model P w) A (pure true) Q E s') E { s with heap := h1 } := fun M g1 g2 g3 g4 => by
          refine relay_u (s := { s with heap := h1 }) ho1 ⟨hex.1, hex.2.1, hex.2.2⟩ rfl rw1 T2 (by rw [len1, m2]; rcases two with ⟨e, e'⟩ | ⟨e, e'⟩ | ⟨e, e'⟩ <;> omega) once1 l2 g1 g2 g3 (by rw [len1]; exact g4) ?_
          intro h2 L2 es2 ep2 t3 sb2 R2 pm2
          exact wpAny_pure (q true h2 L2 es2 ep2 t3 (sb.trans sb2) R2 (fun z => (m z).elim) fun _ => pm2.trans pm)
        rw [sz]
        refine wp_if_pos (by simp [full]) ?_
        refine wpAny_bind ?_
        rcases two with ⟨_, e⟩ | ⟨_, e⟩ | ⟨_, e⟩
        · exact go 31 (by rw [e, size_20]) (.inl (.inr (.inl rfl))) (by rw [e, size_20]; decide) (by omega)
        · exact go 127 (by rw [e, size_76]) (.inl (.inr (.inr rfl))) (by rw [e, size_76]; decide) (by omega)
        · exact go 511 (by rw [e, size_308]) (.inr rfl) (by rw [e, size_308]; decide) (by omega)
      · refine wp_if_neg (by simp [full]) ?_
        try refine wpAny_bind (wpAny_pure ?_)
        refine wpAny_pure (q true h1 L1 ES (ep + 1) t2 sb ⟨⟨_, ho1, ⟨hex.1, hex.2.1, hex.2.2⟩, rfl⟩, rw1, T2, once1, l2, ?_⟩ (fun z => (m z).elim) fun _ => pm)
        have z := full
        unfold SetTable.tooFull at z
        rw [decide_eq_true_eq, f2, m2] at z
        rw [len1, m2]
        omega
    by_cases pl : t1.plain = true
    · first
        | exact wpAny_bind (wp_if_pos pl (byv_u hx fun y => fin y))
        | exact wp_if_pos pl (wpAny_bind (byv_u hx fun y => fin y))
    · first
        | exact wpAny_bind (wp_if_neg pl (wpAny_pure (fin true)))
        | exact wp_if_neg pl (wpAny_bind (wpAny_pure (fin true)))
        | exact wp_if_neg pl (fin true)
/-- a.add(x) -/
theorem call_add_u (R : TSu P w s.heap a L es ep t) (tu : ∀ p ∈ L, IsU P w s.heap p.2 p.1) {x : Addr} (hx : IsU P w s.heap k x) (hu : A.units + 1 < cLine) (few : L.length < 306) {Q : Value → Shared → Prop}
    (q : ∀ n h' L' es' ep' t', Heap.SameBut a s.heap h' → TSu P w h' a L' es' ep' t' → (k ∈ ksU L → L' = L) → (k ∉ ksU L → L'.Perm ((x, k) :: L)) → Q .none { s with heap := h', toks := n }) :
    wpAny (model P w) A (call (.builtin "set.add") [.ref a, .ref x]) Q E s := by
  refine wpAny_call_entry F.slot_set_add R.ty F.entry_set_add ?_ (F.args_set_add_2 _ _)
  unfold Builtin.«set.add» Builtin.Frozenset.oneOther
  simp only [List.isEmpty_nil, bind_assoc]
  unfold Builtin.Frozenset.addrOf setAdd
  refine wpAny_bind (wpAny_pure ?_)
  try dsimp only
  refine wpAny_bind (wpAny_pure ?_)
  try dsimp only
  refine wpAny_bind (wpAny_holding (wpAny_bind (wpAny_pyHash_tuple hu hx ?_)))
  refine add_u (A := A.in1) (s := { s with toks := s.toks + (k.length + 1) }) R tu hx hu few fun b h' L' es' ep' t' sb R' y n => ?_
  show wpAny _ _ (ret Value.none) _ _ _
  exact wpAny_pure ⟨_, rfl, q _ h' L' es' ep' t' sb R' y n⟩
/-- a set of tuples at a: what its object tells -/
def SetU (P : Program) (w : World) (a : Addr) (L : Els) : HO := .ext fun h => ∃ es ep t, TSu P w h a L es ep t
theorem setU_new {P : Program} {w : World} {H : Hp} {h : Heap} {a : Addr} {L : Els} {es : Array (Int × Value)} {ep : Nat} {t : SetTable} (R : TSu P w h a L es ep t) : ObjOk P w H h a (SetU P w a L) := by
  have ⟨o, ho, _⟩ := R.obj
  refine ⟨⟨es, ep, t, R⟩, ⟨o, ho⟩, fun h1 h2 ⟨es', ep', t', r⟩ kk => ⟨es', ep', t', ?_⟩⟩
  obtain ⟨o', ho', z⟩ := r.obj
  exact ⟨⟨o', kk o' ho', z⟩, r.rows, r.tab, r.once, r.led, r.free⟩
theorem ts_new {h : Heap} (ho : h.get? a = some { cls := .type "set", dict := none, data := .set #[] 0 (.fresh 0 0 (!w.params.followText "set-order")) }) : TSu P w h a [] #[] 0 (.fresh 0 0 (!w.params.followText "set-order")) := by
  refine ⟨⟨_, ho, ⟨rfl, rfl, rfl⟩, rfl⟩, rfl, ⟨List.Pairwise.nil, rfl, rfl, .inl (.inl rfl), fun x hx => (nomatch hx), fun i hi => (nomatch hi)⟩, List.nodup_nil, ?_, show 0 * 5 < 7 * 3 by decide⟩
  show _ ∨ (!w.params.followText "set-order") = true
  cases w.params.followText "set-order" <;> simp
end
section
variable {X : Cx}
theorem items_u {P : Program} {w : World} : ∀ {k : List Key} {us : List Value}, Vals (k.map kV) us → ItemsAre (mixKind P w) k us
  | [], _, .nil => .nil
  | _ :: _, _, .cons r t => .cons (kV_is r) (items_u t)
theorem isU_of {pins : List (Addr × Obj)} {σ : L2.St} {H : Hp} {s : Shared} {b : Addr} {k : List Key} (I : Inv X pins σ H s) (h : SqT X.K H b (k.map kV)) : IsU X.prog X.w s.heap k b := by
  obtain ⟨its, r, ⟨o, ho, hc, n, hd⟩, _⟩ := I.tuple h
  exact ⟨o, its.toArray, n, ho, hc, hd, by simpa using items_u r⟩
/-- set(), to be one of tuples -/
theorem cr_set0U : CallR X (.type "set") (fun xs H Q => xs = [] ∧ ∀ p, H p = none → Q (.ref p) (upd H p (SetU X.prog X.w p []))) := by
  rintro pins s σ H xs us Q I r ⟨rfl, q⟩
  cases r
  refine setR_new fun _ => ?_
  exact ⟨.ref _, _, I.laid (t' := s.toks) (fun b u e => Heap.get?_push_of_some _ e) (Nat.le_refl _) (setU_new (ts_new (Heap.get?_push_size _ rfl))), rfl, q _ (I.hok.fresh (Nat.le_refl _))⟩
def inSetU (K : PySem.W.Frag) (P : Program) (w : World) (neg : Bool) : V → V → Hp → VK → Prop := fun x y H Q => ∃ (b a : Addr) (k : List Key) (L : Els), x = .ref b ∧ y = .ref a ∧ SqT K H b (k.map kV) ∧ H a = some (SetU P w a L) ∧ (∀ p ∈ L, SqT K H p.1 (p.2.map kV)) ∧ Q (.bl (if neg then !memU k (ksU L) else memU k (ksU L))) H
theorem setU_get {pins : List (Addr × Obj)} {σ : L2.St} {H : Hp} {s : Shared} {a : Addr} {L : Els} (I : Inv X pins σ H s) (ha : H a = some (SetU X.prog X.w a L)) : ∃ es ep t, TSu X.prog X.w s.heap a L es ep t := (I.hok a _ ha).1
theorem or_inU (hu : X.A.units + 1 < cLine) : OpR X (compareOp .In) (inSetU X.K X.prog X.w false) := by
  rintro pins s σ H x y v u Q I rx ry ⟨b, a, k, L, rfl, rfl, hb, ha, hL, q⟩
  cases rx
  cases ry
  obtain ⟨es, ep, t, R⟩ := setU_get I ha
  exact in_u R (fun p hp => isU_of I (hL p hp)) (isU_of I hb) hu fun n => ⟨.bl (memU k (ksU L)), H, I.tok _, rfl, q⟩
def addU (K : PySem.W.Frag) (P : Program) (w : World) : V → List V → Hp → VK → Prop := fun x xs H Q => ∃ (a b : Addr) (k : List Key) (L : Els), x = V.ref a ∧ xs = [.ref b] ∧ SqT K H b (k.map kV) ∧ H a = some (SetU P w a L) ∧ (∀ p ∈ L, SqT K H p.1 (p.2.map kV)) ∧ L.length < 306 ∧
  ∀ L' : Els, (k ∈ ksU L → L' = L) → (k ∉ ksU L → L'.Perm ((b, k) :: L)) → Q .non (upd H a (SetU P w a L'))
theorem mt_addU (hu : X.A.units + 1 < cLine) : MtR X "set.add" (addU X.K X.prog X.w) := by
  rintro pins s σ H x xs v us Q I rx rxs ⟨a, b, k, L, rfl, rfl, hb, ha, hL, few, q⟩
  cases rx
  cases rxs with
  | cons ry rt =>
    cases rt
    cases ry
    obtain ⟨es, ep, t, R⟩ := setU_get I ha
    refine call_add_u R (fun p hp => isU_of I (hL p hp)) (isU_of I hb) hu few fun n h' L' es' ep' t' sb R' y z => ?_
    have he : ∃ u, h'.get? a = some u := let ⟨o, ho, _⟩ := R'.obj; ⟨o, ho⟩
    exact ⟨.non, _, I.write (e := a) (t' := n) (by rw [ha]; trivial) (.inl rfl) (fun b u hb hu => (sb.2 b hb).trans hu) he (setU_new R'), rfl, q L' y z⟩
end
end VY
namespace VY
open PySem PySem.Spec
open PyProof.Rows hiding St
open L2

/-- what the module's names stand for, with the program and its world -/
structure Mg where
  f : Str → Option Value
  P : Program
  w : World
  /-- the exception that an except clause holds -/
  xe : Option (Addr × Obj)
def xeOf (c : Bool) (pn : List (Addr × Obj)) : Option (Addr × Obj) := match c with
  | true => none
  | false => pn.head?
instance : CoeFun Mg fun _ => Str → Option Value := ⟨Mg.f⟩
def StL (K : PySem.W.Frag) (a : Addr) (xs : List V) : Prop :=
  ∃ (o : Obj) (its : Array Value) (n : Nat), K.lookup a = some o ∧ o.cls = .type "list" ∧ o.dict = none ∧ o.data = .seq its n ∧ its.size ≤ sizeLine ∧ Vals xs its.toList
def StT (K : PySem.W.Frag) (a : Addr) (xs : List V) : Prop :=
  ∃ (o : Obj) (its : Array Value) (n : Nat), K.lookup a = some o ∧ o.cls = .type "tuple" ∧ o.data = .seq its n ∧ its.size ≤ sizeLine ∧ Vals xs its.toList
@[reducible] def _root_.L2.Cx.M (X : L2.Cx) : Mg := ⟨X.mg, X.prog, X.w, xeOf X.calm X.pn⟩
/-- the address of the heap's n-th object is live -/
def Live (ρ : List Addr) (h : Hs) (a : Addr) : Prop := ∃ (n : Nat) (o : HOb), ρ[n]? = some a ∧ h[n]? = some o ∧ o ≠ HOb.dead
section
variable (K : PySem.W.Frag) (mg : Mg)
mutual
/-- v stands for t: ρ the objects' addresses, I the addresses that never change -/
def Rep (ρ : List Addr) (I : Addr → Prop) (H : Hp) : V → T → Prop
  | v, .non => v = .non
  | v, .bl b => v = .bl b
  | v, .int i => v = .int i
  | v, .str s => v = .str s
  | v, .ty n => v = .ty n
  | v, .gl x => ∃ a, v = .ref a ∧ mg x = some (.ref a)
  | v, .ref n => ∃ a, v = .ref a ∧ ρ[n]? = some a
  | v, .tup l => ∃ a vs, v = .ref a ∧ ((I a ∧ Rd H a (.tup vs)) ∨ StT K a vs) ∧ Reps ρ I H vs l
  | v, .lst l => ∃ a vs, v = .ref a ∧ I a ∧ H a = some (.lst vs) ∧ Reps ρ I H vs l
  | v, .slst l => ∃ a vs, v = .ref a ∧ ((I a ∧ Rd H a (.lst vs)) ∨ StL K a vs) ∧ Reps ρ I H vs l
  | v, .dct l => ∃ a o vs, v = .ref a ∧ I a ∧ H a = some (.frz o (.dK vs)) ∧ RepD ρ I H vs l
  | v, .ins c l => ∃ a C dx vs, v = .ref a ∧ I a ∧ mg c = some (.ref C) ∧ H a = some (.ins C dx vs) ∧ RepF ρ I H vs l
  | _, .kst _ => False
  | _, .tst _ => False
def Reps (ρ : List Addr) (I : Addr → Prop) (H : Hp) : List V → List T → Prop
  | [], [] => True
  | v :: vs, t :: l => Rep ρ I H v t ∧ Reps ρ I H vs l
  | _, _ => False
def RepD (ρ : List Addr) (I : Addr → Prop) (H : Hp) : List (Key × V) → List (Key × T) → Prop
  | [], [] => True
  | v :: vs, (k, t) :: l => v.1 = k ∧ Rep ρ I H v.2 t ∧ RepD ρ I H vs l
  | _, _ => False
def RepF (ρ : List Addr) (I : Addr → Prop) (H : Hp) : List (Str × V) → List (Str × T) → Prop
  | [], [] => True
  | v :: vs, (k, t) :: l => v.1 = k ∧ Rep ρ I H v.2 t ∧ RepF ρ I H vs l
  | _, _ => False
end
def RepO (ρ : List Addr) (I : Addr → Prop) (H : Hp) (a : Addr) : HOb → Prop
  | .lst l => ∃ vs, H a = some (.lst vs) ∧ Reps K mg ρ I H vs l
  | .dct l => ∃ vs, H a = some (.dK vs) ∧ RepD K mg ρ I H vs l
  | .ins c l => ∃ C dx vs, mg c = some (.ref C) ∧ H a = some (.ins C dx vs) ∧ RepF K mg ρ I H vs l
  | .set l => l.Nodup ∧ H a = some (SetK mg.P mg.w a (fun k => l.any fun k2 => decide (k2 = k)) l.length)
  | .tst l => ∃ L : Els, (∀ k, k ∈ l ↔ k ∈ ksU L) ∧ L.length = l.length ∧ H a = some (SetU mg.P mg.w a L) ∧ ∀ p ∈ L, (I p.1 ∧ Rd H p.1 (.tup (p.2.map kV))) ∨ StT K p.1 (p.2.map kV)
  | .dead => True
/-- the small heap in the hand layer's -/
structure HR (ρ : List Addr) (I : Addr → Prop) (h : Hs) (H : Hp) : Prop where
  len : ρ.length = h.length
  inj : ∀ (n m : Nat) (a : Addr) (o o' : HOb), ρ[n]? = some a → ρ[m]? = some a → h[n]? = some o → h[m]? = some o' → o ≠ .dead → o' ≠ .dead → n = m
  dis : ∀ a, Live ρ h a → ¬ I a
  idom : ∀ a, I a → (H a).isSome
  obj : ∀ (n : Nat) (o : HOb) (a : Addr), h[n]? = some o → ρ[n]? = some a → RepO K mg ρ I H a o
end
/-- what an expression may do to the heap -/
structure Ext (ρ : List Addr) (I : Addr → Prop) (h : Hs) (H : Hp) (ρ' : List Addr) (I' : Addr → Prop) (h' : Hs) (H' : Hp) : Prop where
  pre : ∀ (n : Nat) (a : Addr), ρ[n]? = some a → ρ'[n]? = some a
  sub : ∀ a, I a → I' a
  keep : ∀ a, (H a).isSome → ¬ Live ρ h a → H' a = H a
  dom : ∀ a, (H a).isSome → (H' a).isSome
  inew : ∀ a, I' a → I a ∨ H a = none ∨ Live ρ h a
  lnew : ∀ a, Live ρ' h' a → Live ρ h a ∨ H a = none
theorem isSome_of {α : Type} {o : Option α} {x : α} (h : o = some x) : o.isSome := by rw [h]; rfl
theorem not_none {α : Type} {o : Option α} (h : o.isSome) (e : o = none) : False := by rw [e] at h; cases h
section
variable {K : PySem.W.Frag} {mg : Mg} {ρ ρ' ρ'' : List Addr} {I I' I'' : Addr → Prop} {h h' h'' : Hs} {H H' H'' : Hp}
theorem Ext.refl : Ext ρ I h H ρ I h H := ⟨fun _ _ e => e, fun _ e => e, fun _ _ _ => rfl, fun _ e => e, fun _ e => .inl e, fun _ e => .inl e⟩
theorem Ext.trans (a : Ext ρ I h H ρ' I' h' H') (b : Ext ρ' I' h' H' ρ'' I'' h'' H'') : Ext ρ I h H ρ'' I'' h'' H'' where
  pre := fun n x e => b.pre n x (a.pre n x e)
  sub := fun x e => b.sub x (a.sub x e)
  keep := fun x d l => by
    have l' : ¬ Live ρ' h' x := fun z => (a.lnew x z).elim l (not_none d)
    rw [b.keep x (a.dom x d) l', a.keep x d l]
  dom := fun x d => b.dom x (a.dom x d)
  inew := fun x i => by
    rcases b.inew x i with z | z | z
    · exact a.inew x z
    · by_cases d : (H x).isSome
      · exact (not_none (a.dom x d) z).elim
      · exact .inr (.inl (by cases e : H x with | none => rfl | some _ => rw [e] at d; exact (d rfl).elim))
    · rcases a.lnew x z with q | q
      · exact .inr (.inr q)
      · exact .inr (.inl q)
  lnew := fun x l => by
    rcases b.lnew x l with z | z
    · exact a.lnew x z
    · by_cases d : (H x).isSome
      · exact (not_none (a.dom x d) z).elim
      · exact .inr (by cases e : H x with | none => rfl | some _ => rw [e] at d; exact (d rfl).elim)
theorem Ext.ikeep (x : Ext ρ I h H ρ' I' h' H') (r : HR K mg ρ I h H) {a : Addr} (i : I a) : H' a = H a := x.keep a (r.idom a i) fun l => r.dis a l i
/-- what never changes is kept -/
structure Kp (ρ : List Addr) (I : Addr → Prop) (H : Hp) (ρ' : List Addr) (I' : Addr → Prop) (H' : Hp) : Prop where
  pre : ∀ (n : Nat) (a : Addr), ρ[n]? = some a → ρ'[n]? = some a
  sub : ∀ a, I a → I' a
  keep : ∀ a, I a → H' a = H a
theorem Ext.kp (x : Ext ρ I h H ρ' I' h' H') (r : HR K mg ρ I h H) : Kp ρ I H ρ' I' H' := ⟨x.pre, x.sub, fun _ i => x.ikeep r i⟩
theorem Rd.keep {a : Addr} {u : HO} (e : H' a = H a) (r : Rd H a u) : Rd H' a u := by
  rcases r with r | ⟨o, r⟩
  · exact .inl (e.trans r)
  · exact .inr ⟨o, e.trans r⟩
mutual
theorem Rep.mono (k : Kp ρ I H ρ' I' H') : ∀ {v : V} {t : T}, Rep K mg ρ I H v t → Rep K mg ρ' I' H' v t
  | _, .non, e => e
  | _, .bl _, e => e
  | _, .int _, e => e
  | _, .str _, e => e
  | _, .ty _, e => e
  | _, .gl _, e => e
  | _, .ref _, ⟨a, e, r⟩ => ⟨a, e, k.pre _ _ r⟩
  | _, .tup l, ⟨a, vs, e, r, q⟩ => ⟨a, vs, e, r.imp (fun z => ⟨k.sub a z.1, Rd.keep (k.keep a z.1) z.2⟩) id, Reps.mono k q⟩
  | _, .lst l, ⟨a, vs, e, i, r, q⟩ => ⟨a, vs, e, k.sub a i, (k.keep a i).trans r, Reps.mono k q⟩
  | _, .slst l, ⟨a, vs, e, r, q⟩ => ⟨a, vs, e, r.imp (fun z => ⟨k.sub a z.1, Rd.keep (k.keep a z.1) z.2⟩) id, Reps.mono k q⟩
  | _, .dct l, ⟨a, o, vs, e, i, r, q⟩ => ⟨a, o, vs, e, k.sub a i, (k.keep a i).trans r, RepD.mono k q⟩
  | _, .ins c l, ⟨a, C, dx, vs, e, i, m, r, q⟩ => ⟨a, C, dx, vs, e, k.sub a i, m, (k.keep a i).trans r, RepF.mono k q⟩
  | _, .kst _, e => e.elim
  | _, .tst _, e => e.elim
theorem Reps.mono (k : Kp ρ I H ρ' I' H') : ∀ {vs : List V} {l : List T}, Reps K mg ρ I H vs l → Reps K mg ρ' I' H' vs l
  | [], [], _ => trivial
  | _ :: _, _ :: _, ⟨a, b⟩ => ⟨Rep.mono k a, Reps.mono k b⟩
theorem RepD.mono (k : Kp ρ I H ρ' I' H') : ∀ {vs : List (Key × V)} {l : List (Key × T)}, RepD K mg ρ I H vs l → RepD K mg ρ' I' H' vs l
  | [], [], _ => trivial
  | _ :: _, (_, _) :: _, ⟨e, a, b⟩ => ⟨e, Rep.mono k a, RepD.mono k b⟩
theorem RepF.mono (k : Kp ρ I H ρ' I' H') : ∀ {vs : List (Str × V)} {l : List (Str × T)}, RepF K mg ρ I H vs l → RepF K mg ρ' I' H' vs l
  | [], [], _ => trivial
  | _ :: _, (_, _) :: _, ⟨e, a, b⟩ => ⟨e, Rep.mono k a, RepF.mono k b⟩
end
theorem elt_mono (k : Kp ρ I H ρ' I' H') {b : Addr} {vs : List V} (x : (I b ∧ Rd H b (.tup vs)) ∨ StT K b vs) : (I' b ∧ Rd H' b (.tup vs)) ∨ StT K b vs := x.imp (fun z => ⟨k.sub b z.1, Rd.keep (k.keep b z.1) z.2⟩) id
theorem Reps.length : ∀ {vs : List V} {l : List T}, Reps K mg ρ I H vs l → vs.length = l.length
  | [], [], _ => rfl
  | _ :: _, _ :: _, ⟨_, b⟩ => congrArg (· + 1) (Reps.length b)
theorem Reps.append : ∀ {vs ws : List V} {l m : List T}, Reps K mg ρ I H vs l → Reps K mg ρ I H ws m → Reps K mg ρ I H (vs ++ ws) (l ++ m)
  | [], _, [], _, _, b => b
  | _ :: _, _, _ :: _, _, ⟨x, a⟩, b => ⟨x, Reps.append a b⟩
theorem Reps.get : ∀ {vs : List V} {l : List T} {i : Nat} {t : T}, Reps K mg ρ I H vs l → l[i]? = some t → ∃ v, vs[i]? = some v ∧ Rep K mg ρ I H v t
  | [], [], _, _, _, e => by simp at e
  | v :: _, _ :: _, 0, _, ⟨x, _⟩, e => by simp at e; subst e; exact ⟨v, rfl, x⟩
  | _ :: _, _ :: _, i + 1, t, ⟨_, b⟩, e => by
    obtain ⟨v, q, r⟩ := Reps.get (i := i) (t := t) b (by simpa using e)
    exact ⟨v, by simpa using q, r⟩
theorem Reps.getV : ∀ {vs : List V} {l : List T} {i : Nat} {v : V}, Reps K mg ρ I H vs l → vs[i]? = some v → ∃ t, l[i]? = some t ∧ Rep K mg ρ I H v t
  | [], [], _, _, _, e => by simp at e
  | _ :: _, t :: _, 0, _, ⟨x, _⟩, e => by simp at e; subst e; exact ⟨t, rfl, x⟩
  | _ :: _, _ :: _, i + 1, v, ⟨_, b⟩, e => by
    obtain ⟨t, q, r⟩ := Reps.getV (i := i) (v := v) b (by simpa using e)
    exact ⟨t, by simpa using q, r⟩
theorem Reps.set {v : V} {t : T} (x : Rep K mg ρ I H v t) : ∀ {vs : List V} {l : List T} (i : Nat), Reps K mg ρ I H vs l → Reps K mg ρ I H (vs.set i v) (l.set i t)
  | [], [], _, _ => trivial
  | _ :: _, _ :: _, 0, ⟨_, b⟩ => ⟨x, b⟩
  | _ :: _, _ :: _, i + 1, ⟨y, b⟩ => ⟨y, Reps.set x i b⟩
theorem Reps.take : ∀ {vs : List V} {l : List T} (n : Nat), Reps K mg ρ I H vs l → Reps K mg ρ I H (vs.take n) (l.take n)
  | _, _, 0, _ => by simp only [List.take_zero]; exact trivial
  | [], [], _ + 1, _ => trivial
  | _ :: _, _ :: _, n + 1, ⟨x, b⟩ => ⟨x, Reps.take n b⟩
theorem Reps.drop : ∀ {vs : List V} {l : List T} (n : Nat), Reps K mg ρ I H vs l → Reps K mg ρ I H (vs.drop n) (l.drop n)
  | _, _, 0, q => q
  | [], [], _ + 1, _ => trivial
  | _ :: _, _ :: _, n + 1, ⟨_, b⟩ => Reps.drop n b
theorem Reps.cut {vs : List V} {l : List T} (q : Reps K mg ρ I H vs l) (lo hi : Option Int) : Reps K mg ρ I H (cutV vs lo hi) (cutT l lo hi) := by
  unfold cutV cutT
  rw [q.length]
  exact Reps.take _ (Reps.drop _ q)
theorem Reps.rep {vs : List V} {l : List T} (q : Reps K mg ρ I H vs l) : ∀ k : Nat, Reps K mg ρ I H (List.replicate k vs).flatten (List.replicate k l).flatten
  | 0 => trivial
  | k + 1 => by
    rw [List.replicate_succ, List.replicate_succ, List.flatten_cons, List.flatten_cons]
    exact Reps.append q (Reps.rep q k)
theorem Reps.at {vs : List V} {l : List T} {i : Int} {t : T} (q : Reps K mg ρ I H vs l) (e : atI l i = some t) : ∃ v, atI vs i = some v ∧ Rep K mg ρ I H v t := by
  unfold atI at e ⊢
  rw [q.length]
  cases z : ixN l.length i with
  | none => rw [z] at e; cases e
  | some j => rw [z] at e; exact Reps.get q e

section
variable {f : Str → Option Value} {P : Program} {w : World} {x y : Option (Addr × Obj)}
mutual
theorem Rep.xe : ∀ {v : V} {t : T}, Rep K ⟨f, P, w, x⟩ ρ I H v t → Rep K ⟨f, P, w, y⟩ ρ I H v t
  | _, .non, e => e
  | _, .bl _, e => e
  | _, .int _, e => e
  | _, .str _, e => e
  | _, .ty _, e => e
  | _, .gl _, e => e
  | _, .ref _, e => e
  | _, .tup l, ⟨a, vs, e, r, q⟩ => ⟨a, vs, e, r, Reps.xe q⟩
  | _, .lst l, ⟨a, vs, e, i, r, q⟩ => ⟨a, vs, e, i, r, Reps.xe q⟩
  | _, .slst l, ⟨a, vs, e, r, q⟩ => ⟨a, vs, e, r, Reps.xe q⟩
  | _, .dct l, ⟨a, o, vs, e, i, r, q⟩ => ⟨a, o, vs, e, i, r, RepD.xe q⟩
  | _, .ins c l, ⟨a, C, dx, vs, e, i, m, r, q⟩ => ⟨a, C, dx, vs, e, i, m, r, RepF.xe q⟩
  | _, .kst _, e => e.elim
  | _, .tst _, e => e.elim
theorem Reps.xe : ∀ {vs : List V} {l : List T}, Reps K ⟨f, P, w, x⟩ ρ I H vs l → Reps K ⟨f, P, w, y⟩ ρ I H vs l
  | [], [], _ => trivial
  | _ :: _, _ :: _, ⟨a, b⟩ => ⟨Rep.xe a, Reps.xe b⟩
theorem RepD.xe : ∀ {vs : List (Key × V)} {l : List (Key × T)}, RepD K ⟨f, P, w, x⟩ ρ I H vs l → RepD K ⟨f, P, w, y⟩ ρ I H vs l
  | [], [], _ => trivial
  | _ :: _, (_, _) :: _, ⟨e, a, b⟩ => ⟨e, Rep.xe a, RepD.xe b⟩
theorem RepF.xe : ∀ {vs : List (Str × V)} {l : List (Str × T)}, RepF K ⟨f, P, w, x⟩ ρ I H vs l → RepF K ⟨f, P, w, y⟩ ρ I H vs l
  | [], [], _ => trivial
  | _ :: _, (_, _) :: _, ⟨e, a, b⟩ => ⟨e, Rep.xe a, RepF.xe b⟩
end
theorem RepO.xe {a : Addr} : ∀ {o : HOb}, RepO K ⟨f, P, w, x⟩ ρ I H a o → RepO K ⟨f, P, w, y⟩ ρ I H a o
  | .lst l, ⟨vs, p, q⟩ => ⟨vs, p, Reps.xe q⟩
  | .dct l, ⟨vs, p, q⟩ => ⟨vs, p, RepD.xe q⟩
  | .ins c l, ⟨C, dx, vs, m, p, q⟩ => ⟨C, dx, vs, m, p, RepF.xe q⟩
  | .set l, q => q
  | .tst l, q => q
  | .dead, _ => trivial
theorem HR.xe {h : Hs} (r : HR K ⟨f, P, w, x⟩ ρ I h H) : HR K ⟨f, P, w, y⟩ ρ I h H := ⟨r.len, r.inj, r.dis, r.idom, fun n o a e1 e2 => (r.obj n o a e1 e2).xe⟩
end
/-- the exception that a slot holds -/
def XnR (K : PySem.W.Frag) (mg : Mg) (ρ : List Addr) (I : Addr → Prop) (H : Hp) (σ : St) (i : Nat) (c : Str) (fs : List (Str × T)) : Prop :=
  ∃ (a : Addr) (oe : Obj) (C : Addr), mg.xe = some (a, oe) ∧ σ[i]? = some (some (.ref a)) ∧ mg c = some (.ref C) ∧ oe.cls = .ref C ∧ ∃ (dd : Addr) (vs : List (Str × V)), oe.dict = some dd ∧ I dd ∧ H dd = some (.xd vs) ∧ RepF K mg ρ I H vs fs
/-- the slots -/
structure SR (K : PySem.W.Frag) (mg : Mg) (ρ : List Addr) (I : Addr → Prop) (h : Hs) (H : Hp) (σT : Slots) (σ : St) : Prop where
  len : σT.length = σ.length
  vs : ∀ (i : Nat) (t : T), σT[i]? = some (some (.v t)) → ∃ v, σ[i]? = some (some v) ∧ Rep K mg ρ I H v t
  als : ∀ (i : Nat) (l : List T), σT[i]? = some (some (.al l)) → ∃ a vs, σ[i]? = some (some (.ref a)) ∧ H a = some (.lst vs) ∧ ¬ I a ∧ ¬ Live ρ h a ∧ Reps K mg ρ I H vs l
  adj : ∀ (i j : Nat) (l m : List T) (a : Addr), σT[i]? = some (some (.al l)) → σT[j]? = some (some (.al m)) → σ[i]? = some (some (.ref a)) → σ[j]? = some (some (.ref a)) → i = j
  xns : ∀ (i : Nat) (c : Str) (fs : List (Str × T)), σT[i]? = some (some (.xn c fs)) → XnR K mg ρ I H σ i c fs
theorem XnR.mono {K : PySem.W.Frag} {mg : Mg} {ρ ρ' : List Addr} {I I' : Addr → Prop} {H H' : Hp} {σ σ' : St} {i : Nat} {c : Str} {fs : List (Str × T)} (x : XnR K mg ρ I H σ i c fs) (k : Kp ρ I H ρ' I' H') (e : ∀ a, σ[i]? = some (some (.ref a)) → σ'[i]? = some (some (.ref a))) : XnR K mg ρ' I' H' σ' i c fs := by
  obtain ⟨a, oe, C, h1, h2, h3, h4, dd, vs, h5, h6, h7, h8⟩ := x
  exact ⟨a, oe, C, h1, e a h2, h3, h4, dd, vs, h5, k.sub dd h6, (k.keep dd h6).trans h7, h8.mono k⟩
variable {σT : Slots} {σ : St}
theorem live_dec (ρ : List Addr) (h : Hs) (a : Addr) : Live ρ h a ∨ ¬ Live ρ h a := Classical.em _
/-- the slots behind an expression -/
theorem SR.ext (s : SR K mg ρ I h H σT σ) (r : HR K mg ρ I h H) (x : Ext ρ I h H ρ' I' h' H') : SR K mg ρ' I' h' H' σT σ where
  len := s.len
  vs := fun i t e => let ⟨v, q, p⟩ := s.vs i t e; ⟨v, q, p.mono (x.kp r)⟩
  als := fun i l e => by
    obtain ⟨a, vs, q, p, ni, nl, w⟩ := s.als i l e
    refine ⟨a, vs, q, (x.keep a (isSome_of p) nl).trans p, fun z => ?_, fun z => ?_, w.mono (x.kp r)⟩
    · rcases x.inew a z with u | u | u
      · exact ni u
      · rw [u] at p; cases p
      · exact nl u
    · rcases x.lnew a z with u | u
      · exact nl u
      · rw [u] at p; cases p
  adj := s.adj
  xns := fun i c fs e => (s.xns i c fs e).mono (x.kp r) fun _ z => z
/-- what an expression gives: H0 the heap at its start -/
def RO (K : PySem.W.Frag) (mg : Mg) (ρ : List Addr) (I : Addr → Prop) (h : Hs) (H : Hp) (H0 : Hp) (σT : Slots) (σ : St) (v : V) : R → Prop
  | .v t => Rep K mg ρ I H v t
  | .al l => ∃ a vs, v = .ref a ∧ H0 a = none ∧ H a = some (.lst vs) ∧ ¬ I a ∧ ¬ Live ρ h a ∧ Reps K mg ρ I H vs l
  | .bw i => σ[i]? = some (some v) ∧ ∃ l, σT[i]? = some (some (.al l))
theorem RO.ext {H0 : Hp} {v : V} {r : R} (o : RO K mg ρ I h H H0 σT σ v r) (hr : HR K mg ρ I h H) (x : Ext ρ I h H ρ' I' h' H') : RO K mg ρ' I' h' H' H0 σT σ v r := by
  cases r with
  | v t => exact Rep.mono (x.kp hr) o
  | al l =>
    obtain ⟨a, vs, e, n, p, ni, nl, w⟩ := o
    refine ⟨a, vs, e, n, (x.keep a (isSome_of p) nl).trans p, fun z => ?_, fun z => ?_, w.mono (x.kp hr)⟩
    · rcases x.inew a z with u | u | u
      · exact ni u
      · rw [u] at p; cases p
      · exact nl u
    · rcases x.lnew a z with u | u
      · exact nl u
      · rw [u] at p; cases p
  | bw i => exact o
/-- started earlier -/
theorem RO.back {H0 H1 : Hp} {v : V} {r : R} (o : RO K mg ρ I h H H1 σT σ v r) (d : ∀ a, (H0 a).isSome → (H1 a).isSome) : RO K mg ρ I h H H0 σT σ v r := by
  cases r with
  | v t => exact o
  | al l =>
    obtain ⟨a, vs, e, n, q⟩ := o
    refine ⟨a, vs, e, ?_, q⟩
    cases z : H0 a with
    | none => rfl
    | some _ => exact (not_none (d a (isSome_of z)) n).elim
  | bw i => exact o
/-- looked at -/
def Pk (K : PySem.W.Frag) (mg : Mg) (ρ : List Addr) (I : Addr → Prop) (H : Hp) (v : V) : T → Prop
  | .lst l => ∃ a vs, v = .ref a ∧ H a = some (.lst vs) ∧ Reps K mg ρ I H vs l
  | .dct l => ∃ a vs, v = .ref a ∧ Rd H a (.dK vs) ∧ RepD K mg ρ I H vs l
  | .kst l => ∃ a, v = .ref a ∧ l.Nodup ∧ H a = some (SetK mg.P mg.w a (fun k => l.any fun k2 => decide (k2 = k)) l.length)
  | .tst l => ∃ (a : Addr) (L : Els), v = .ref a ∧ (∀ k, k ∈ l ↔ k ∈ ksU L) ∧ L.length = l.length ∧ H a = some (SetU mg.P mg.w a L) ∧ ∀ p ∈ L, (I p.1 ∧ Rd H p.1 (.tup (p.2.map kV))) ∨ StT K p.1 (p.2.map kV)
  | t => Rep K mg ρ I H v t
theorem Pk.of {v : V} : ∀ {t : T}, Rep K mg ρ I H v t → Pk K mg ρ I H v t
  | .lst _, ⟨a, vs, e, _, r, q⟩ => ⟨a, vs, e, r, q⟩
  | .dct _, ⟨a, o, vs, e, _, r, q⟩ => ⟨a, vs, e, .inr ⟨o, r⟩, q⟩
  | .non, e => e
  | .bl _, e => e
  | .int _, e => e
  | .str _, e => e
  | .ty _, e => e
  | .gl _, e => e
  | .ref _, e => e
  | .tup _, e => e
  | .slst _, e => e
  | .ins _ _, e => e
  | .kst _, e => e.elim
  | .tst _, e => e.elim
theorem Pk.seen {v : V} {t : T} (hr : HR K mg ρ I h H) (q : Rep K mg ρ I H v t) : Pk K mg ρ I H v (VY.seen h t) := by
  unfold VY.seen
  split
  · rename_i n
    obtain ⟨a, rfl, ea⟩ := (show ∃ a, v = .ref a ∧ ρ[n]? = some a from q)
    split
    · rename_i l e
      obtain ⟨vs, p, w⟩ := hr.obj n _ a e ea
      exact ⟨a, vs, rfl, p, w⟩
    · rename_i l e
      obtain ⟨vs, p, w⟩ := hr.obj n _ a e ea
      exact ⟨a, vs, rfl, .inl p, w⟩
    · rename_i l e
      obtain ⟨nd, p⟩ := hr.obj n _ a e ea
      exact ⟨a, rfl, nd, p⟩
    · rename_i l e
      obtain ⟨L, q⟩ := hr.obj n _ a e ea
      exact ⟨a, L, rfl, q⟩
    · exact ⟨a, rfl, ea⟩
  · exact Pk.of q
theorem RO.pk {H0 : Hp} {v : V} {r : R} {t : T} (o : RO K mg ρ I h H H0 σT σ v r) (s : SR K mg ρ I h H σT σ) (hr : HR K mg ρ I h H) (e : peek σT h r = some t) : Pk K mg ρ I H v t := by
  cases r with
  | v u => cases e; exact Pk.seen hr o
  | al l => cases e; obtain ⟨a, vs, e, _, p, _, _, w⟩ := o; exact ⟨a, vs, e, p, w⟩
  | bw i =>
    obtain ⟨q, l, z⟩ := o
    simp only [peek, z] at e
    cases e
    obtain ⟨a, vs, q', p, _, _, w⟩ := s.als i l z
    rw [q] at q'
    cases q'
    exact ⟨a, vs, rfl, p, w⟩
end
end VY
namespace VY
open PySem PySem.Spec
open PyProof.Rows hiding St
open L2

/-- an exception's class and own dict -/
def XR (K : PySem.W.Frag) (mg : Mg) (ρ : List Addr) (I : Addr → Prop) (H : Hp) (cls : Value) (d : Option Addr) : Xn → Prop
  | .blt n => cls = .type n
  | .own c fs => ∃ C, mg c = some (.ref C) ∧ cls = .ref C ∧ (fs ≠ [] → ∃ dd vs, d = some dd ∧ I dd ∧ H dd = some (.xd vs) ∧ RepF K mg ρ I H vs fs)
/-- behind a part: its end, or its exception -/
def Nx (K : PySem.W.Frag) (mg : Mg) (W : WX) (σ : St) (ρ : List Addr) (I : Addr → Prop) (h : Hs) (H : Hp) {α : Type} (o : Out α) (k : α → Hs → List Addr → (Addr → Prop) → Hp → Prop) : Prop :=
  match o with
  | .ok a h' => ∀ ρ' I' H', Ext ρ I h H ρ' I' h' H' → HR K mg ρ' I' h' H' → k a h' ρ' I' H'
  | .ex x h' => ∀ cls d ρ' I' H', Ext ρ I h H ρ' I' h' H' → HR K mg ρ' I' h' H' → XR K mg ρ' I' H' cls d x → W cls d σ H'
  | .bad => False
section
variable {K : PySem.W.Frag} {mg : Mg} {W : WX} {σ : St} {σT : Slots} {ρ ρ' : List Addr} {I I' : Addr → Prop} {h h' : Hs} {H H' : Hp} {α β : Type}
theorem Nx.bind {o : Out α} {g : α → Hs → Out β} {k : β → Hs → List Addr → (Addr → Prop) → Hp → Prop} (n : Nx K mg W σ ρ I h H (o.bind g) k) :
    Nx K mg W σ ρ I h H o fun a h' ρ' I' H' => Nx K mg W σ ρ' I' h' H' (g a h') k := by
  cases o with
  | ok a h1 =>
    intro ρ1 I1 H1 x1 r1
    have n' : Nx K mg W σ ρ I h H (g a h1) k := n
    cases e : g a h1 with
    | ok b h2 => rw [e] at n'; exact fun ρ2 I2 H2 x2 r2 => n' ρ2 I2 H2 (x1.trans x2) r2
    | ex x h2 => rw [e] at n'; exact fun cls d ρ2 I2 H2 x2 r2 => n' cls d ρ2 I2 H2 (x1.trans x2) r2
    | bad => rw [e] at n'; exact n'
  | ex x h1 => exact n
  | bad => exact n
theorem Nx.imp {o : Out α} {k k' : α → Hs → List Addr → (Addr → Prop) → Hp → Prop} (n : Nx K mg W σ ρ I h H o k)
    (f : ∀ a h' ρ' I' H', Ext ρ I h H ρ' I' h' H' → HR K mg ρ' I' h' H' → k a h' ρ' I' H' → k' a h' ρ' I' H') : Nx K mg W σ ρ I h H o k' := by
  cases o with
  | ok a h1 => exact fun ρ1 I1 H1 x1 r1 => f a h1 ρ1 I1 H1 x1 r1 (n ρ1 I1 H1 x1 r1)
  | ex x h1 => exact n
  | bad => exact n
/-- .. where the end may be taken at another state, too -/
theorem Nx.imp' {o : Out α} {k k' : α → Hs → List Addr → (Addr → Prop) → Hp → Prop} (n : Nx K mg W σ ρ I h H o k)
    (f : ∀ a h' ρ' I' H', Ext ρ I h H ρ' I' h' H' → HR K mg ρ' I' h' H' → (∀ ρ'' I'' H'', Ext ρ I h H ρ'' I'' h' H'' → HR K mg ρ'' I'' h' H'' → k a h' ρ'' I'' H'') → k' a h' ρ' I' H') : Nx K mg W σ ρ I h H o k' := by
  cases o with
  | ok a h1 => exact fun ρ1 I1 H1 x1 r1 => f a h1 ρ1 I1 H1 x1 r1 fun ρ2 I2 H2 x2 r2 => n ρ2 I2 H2 x2 r2
  | ex x h1 => exact n
  | bad => exact n
/-- from another start with the same small heap -/
theorem Nx.from {o : Out α} {k : α → Hs → List Addr → (Addr → Prop) → Hp → Prop} (n : Nx K mg W σ ρ I h H o k) (x : Ext ρ I h H ρ' I' h' H') : Nx K mg W σ ρ' I' h' H' o k := by
  cases o with
  | ok a h1 => exact fun ρ1 I1 H1 x1 r1 => n ρ1 I1 H1 (x.trans x1) r1
  | ex y h1 => exact fun cls d ρ1 I1 H1 x1 r1 => n cls d ρ1 I1 H1 (x.trans x1) r1
  | bad => exact n
theorem Nx.lift {o : Option α} {k : α → Hs → List Addr → (Addr → Prop) → Hp → Prop} (n : Nx K mg W σ ρ I h H (lift o h) k) : ∃ a, o = some a ∧ ∀ ρ' I' H', Ext ρ I h H ρ' I' h H' → HR K mg ρ' I' h H' → k a h ρ' I' H' := by
  cases o with
  | some a => exact ⟨a, rfl, n⟩
  | none => exact n.elim
theorem Nx.ok {a : α} {k : α → Hs → List Addr → (Addr → Prop) → Hp → Prop} (n : Nx K mg W σ ρ I h H (.ok a h') k) : ∀ ρ' I' H', Ext ρ I h H ρ' I' h' H' → HR K mg ρ' I' h' H' → k a h' ρ' I' H' := n

/-- an expression -/
def tD (K : PySem.W.Frag) (mg : Mg) (W : WX) (f : Slots → Hs → Out R) : TE := fun σ H Q => ∃ ρ I σT h, HR K mg ρ I h H ∧ SR K mg ρ I h H σT σ ∧
  Nx K mg W σ ρ I h H (f σT h) fun r h' ρ' I' H' => ∀ v, RO K mg ρ' I' h' H' H σT σ v r → Q v H'
/-- a test -/
def tB (K : PySem.W.Frag) (mg : Mg) (W : WX) (f : Slots → Hs → Out Bool) : TT := fun σ H Q => ∃ ρ I σT h, HR K mg ρ I h H ∧ SR K mg ρ I h H σT σ ∧
  Nx K mg W σ ρ I h H (f σT h) fun b h' ρ' I' H' => Q b H'
/-- items that are kept, items that are looked at -/
def tEs (K : PySem.W.Frag) (mg : Mg) (W : WX) (f : Slots → Hs → Out (List T)) : TA := fun σ H Q => ∃ ρ I σT h, HR K mg ρ I h H ∧ SR K mg ρ I h H σT σ ∧
  Nx K mg W σ ρ I h H (f σT h) fun ts h' ρ' I' H' => ∀ vs, Reps K mg ρ' I' H' vs ts → Q vs H'
def Pks (K : PySem.W.Frag) (mg : Mg) (ρ : List Addr) (I : Addr → Prop) (H : Hp) : List V → List T → Prop
  | [], [] => True
  | v :: vs, t :: ts => Pk K mg ρ I H v t ∧ Pks K mg ρ I H vs ts
  | _, _ => False
/-- what some expressions give -/
def ROs (K : PySem.W.Frag) (mg : Mg) (ρ : List Addr) (I : Addr → Prop) (h : Hs) (H : Hp) (H0 : Hp) (σT : Slots) (σ : St) : List V → List R → Prop
  | [], [] => True
  | v :: vs, r :: rs => RO K mg ρ I h H H0 σT σ v r ∧ ROs K mg ρ I h H H0 σT σ vs rs
  | _, _ => False
def tRs (K : PySem.W.Frag) (mg : Mg) (W : WX) (f : Slots → Hs → Out (List R)) : TA := fun σ H Q => ∃ ρ I σT h, HR K mg ρ I h H ∧ SR K mg ρ I h H σT σ ∧
  Nx K mg W σ ρ I h H (f σT h) fun rs h' ρ' I' H' => ∀ vs, ROs K mg ρ' I' h' H' H σT σ vs rs → Q vs H'
theorem ROs.pks (s : SR K mg ρ I h H σT σ) (hr : HR K mg ρ I h H) {H0 : Hp} : ∀ {vs : List V} {rs : List R} {ts : List T}, ROs K mg ρ I h H H0 σT σ vs rs → peeks σT h rs = some ts → Pks K mg ρ I H vs ts
  | [], [], ts, _, e => by cases e; exact trivial
  | v :: vs, r :: rs, ts, ⟨a, b⟩, e => by
    rw [peeks] at e
    cases y : peek σT h r with
    | none => rw [y] at e; cases e
    | some t =>
      cases y' : peeks σT h rs with
      | none => rw [y, y'] at e; cases e
      | some ts' => rw [y, y'] at e; cases e; exact ⟨a.pk s hr y, ROs.pks s hr b y'⟩
theorem ROs.back {H0 H1 : Hp} (d : ∀ a, (H0 a).isSome → (H1 a).isSome) : ∀ {vs : List V} {rs : List R}, ROs K mg ρ I h H H1 σT σ vs rs → ROs K mg ρ I h H H0 σT σ vs rs
  | [], [], _ => trivial
  | v :: vs, r :: rs, ⟨a, b⟩ => ⟨a.back d, ROs.back d b⟩

theorem live_some (r : HR K mg ρ I h H) {a : Addr} (l : Live ρ h a) : (H a).isSome := by
  obtain ⟨n, o, e1, e2, nd⟩ := l
  have q := r.obj n o a e2 e1
  cases o with
  | lst l => obtain ⟨vs, q, _⟩ := q; exact isSome_of q
  | dct l => obtain ⟨vs, q, _⟩ := q; exact isSome_of q
  | ins c l => obtain ⟨C, dx, vs, _, q, _⟩ := q; exact isSome_of q
  | set l => exact isSome_of q.2
  | tst l => obtain ⟨L, _, _, q, _⟩ := q; exact isSome_of q
  | dead => exact (nd rfl).elim
theorem RepO.mono (k : Kp ρ I H ρ' I' H') {a : Addr} {o : HOb} (e : o ≠ .dead → H' a = H a) (q : RepO K mg ρ I H a o) : RepO K mg ρ' I' H' a o := by
  cases o with
  | lst l => obtain ⟨vs, q, w⟩ := q; exact ⟨vs, (e (fun z => by cases z)).trans q, w.mono k⟩
  | dct l => obtain ⟨vs, q, w⟩ := q; exact ⟨vs, (e (fun z => by cases z)).trans q, w.mono k⟩
  | ins c l => obtain ⟨C, dx, vs, m, q, w⟩ := q; exact ⟨C, dx, vs, m, (e (fun z => by cases z)).trans q, w.mono k⟩
  | set l => exact ⟨q.1, (e (fun z => by cases z)).trans q.2⟩
  | tst l => obtain ⟨L, a1, a2, a3, a4⟩ := q; exact ⟨L, a1, a2, (e (fun z => by cases z)).trans a3, fun p hp => elt_mono k (a4 p hp)⟩
  | dead => trivial
theorem upd_keep {p a : Addr} {o : HO} (hp : H p = none) (d : (H a).isSome) : upd H p o a = H a := upd_ne (fun z => by subst z; exact not_none d hp)
theorem upd_dom {p a : Addr} {o : HO} (d : (H a).isSome) : (upd H p o a).isSome := by
  unfold upd; split
  · rfl
  · exact d
theorem none_of_upd {p a : Addr} {o : HO} (e : upd H p o a = none) : H a = none := by
  unfold upd at e; split at e
  · cases e
  · exact e
/-- a new thing that nobody holds yet -/
theorem ext_new {p : Addr} (o : HO) (hp : H p = none) : Ext ρ I h H ρ I h (upd H p o) where
  pre := fun _ _ e => e
  sub := fun _ e => e
  keep := fun a d _ => upd_keep hp d
  dom := fun a d => upd_dom d
  inew := fun a e => .inl e
  lnew := fun a e => .inl e
theorem kp_new {p : Addr} (o : HO) (r : HR K mg ρ I h H) (hp : H p = none) : Kp ρ I H ρ I (upd H p o) := (ext_new (h := h) o hp).kp r
theorem hr_new {p : Addr} (o : HO) (r : HR K mg ρ I h H) (hp : H p = none) : HR K mg ρ I h (upd H p o) where
  len := r.len
  inj := r.inj
  dis := r.dis
  idom := fun a i => upd_dom (r.idom a i)
  obj := fun n u a e1 e2 => (r.obj n u a e1 e2).mono (kp_new o r hp) fun nd => upd_keep hp (live_some r ⟨n, u, e2, e1, nd⟩)
/-- .. one that never changes -/
def Iw (I : Addr → Prop) (p : Addr) : Addr → Prop := fun a => I a ∨ a = p
theorem ext_imm {p : Addr} (o : HO) (hp : H p = none) : Ext ρ I h H ρ (Iw I p) h (upd H p o) where
  pre := fun _ _ e => e
  sub := fun _ e => .inl e
  keep := fun a d _ => upd_keep hp d
  dom := fun a d => upd_dom d
  inew := fun a e => e.elim .inl fun z => .inr (.inl (z ▸ hp))
  lnew := fun a e => .inl e
theorem hr_imm {p : Addr} (o : HO) (r : HR K mg ρ I h H) (hp : H p = none) : HR K mg ρ (Iw I p) h (upd H p o) where
  len := r.len
  inj := r.inj
  dis := fun a l i => i.elim (r.dis a l) fun z => not_none (live_some r l) (z ▸ hp)
  idom := fun a i => i.elim (fun z => upd_dom (r.idom a z)) fun z => by rw [z]; exact isSome_of upd_same
  obj := fun n u a e1 e2 => (r.obj n u a e1 e2).mono ((ext_imm (h := h) o hp).kp r) fun nd => upd_keep hp (live_some r ⟨n, u, e2, e1, nd⟩)
/-- a fresh list is kept from now on: nobody changes it -/
theorem Ext.hold {ρ1 : List Addr} {I1 : Addr → Prop} {h1 : Hs} {H1 : Hp} {a : Addr} (x : Ext ρ I h H ρ1 I1 h1 H1) (e : H a = none) : Ext ρ I h H ρ1 (Iw I1 a) h1 H1 where
  pre := x.pre
  sub := fun b i => .inl (x.sub b i)
  keep := x.keep
  dom := x.dom
  inew := fun b i => i.elim (x.inew b) fun z => .inr (.inl (z ▸ e))
  lnew := x.lnew
theorem kp_hold {a : Addr} : Kp ρ I H ρ (Iw I a) H := ⟨fun _ _ e => e, fun _ e => .inl e, fun _ _ => rfl⟩
theorem HR.hold {a : Addr} (r : HR K mg ρ I h H) (nl : ¬ Live ρ h a) (d : (H a).isSome) : HR K mg ρ (Iw I a) h H where
  len := r.len
  inj := r.inj
  dis := fun b l i => i.elim (r.dis b l) fun z => nl (z ▸ l)
  idom := fun b i => i.elim (r.idom b) fun z => z ▸ d
  obj := fun n u b e1 e2 => (r.obj n u b e1 e2).mono kp_hold fun _ => rfl
/-- what is given is kept as a value -/
theorem RO.keep {ρ1 : List Addr} {I1 : Addr → Prop} {h1 : Hs} {H1 : Hp} {v : V} {r : R} {t : T} (o : RO K mg ρ1 I1 h1 H1 H σT σ v r) (x : Ext ρ I h H ρ1 I1 h1 H1) (r1 : HR K mg ρ1 I1 h1 H1) (e : frz r = some t) :
    ∃ I2, Ext ρ I h H ρ1 I2 h1 H1 ∧ HR K mg ρ1 I2 h1 H1 ∧ Rep K mg ρ1 I2 H1 v t := by
  cases r with
  | v u => cases e; exact ⟨I1, x, r1, o⟩
  | al l =>
    cases e
    obtain ⟨a, vs, e, n, p, ni, nl, w⟩ := o
    exact ⟨Iw I1 a, x.hold n, r1.hold nl (isSome_of p), a, vs, e, .inr rfl, p, w.mono kp_hold⟩
  | bw i => cases e
end
/-- a weaker reading -/
theorem PE.imp {X : Cx} {e : Expr} {t t' : TE} (p : PE X e t) (f : ∀ σ H Q, t' σ H Q → t σ H Q) : PE X e t' := ⟨fun pins s σ H Q I h => p.run pins s σ H Q I (f σ H Q h)⟩
theorem PT.imp {X : Cx} {e : Expr} {t t' : TT} (p : PT X e t) (f : ∀ σ H Q, t' σ H Q → t σ H Q) : PT X e t' := ⟨fun pins s σ H Q I h => p.run pins s σ H Q I (f σ H Q h)⟩
theorem PW.imp {X : Cx} {e : Expr} {t t' : TT} (p : PW X e t) (f : ∀ σ H Q, t' σ H Q → t σ H Q) : PW X e t' := ⟨fun wh pins s σ H Q I h => p.run wh pins s σ H Q I (f σ H Q h)⟩
theorem PA.imp {X : Cx} {e : List Expr} {t t' : TA} (p : PA X e t) (f : ∀ σ H Q, t' σ H Q → t σ H Q) : PA X e t' := ⟨fun pos pins s σ H Q I h => p.run pos pins s σ H Q I (f σ H Q h)⟩
theorem PS.imp {X : Cx} {e : Stmt} {t t' : TS} (p : PS X e t) (f : ∀ D σ H, t' D σ H → t D σ H) : PS X e t' := ⟨fun pins s σ H D I h => p.run pins s σ H D I (f D σ H h)⟩
theorem PSs.imp {X : Cx} {e : List Stmt} {t t' : TS} (p : PSs X e t) (f : ∀ D σ H, t' D σ H → t D σ H) : PSs X e t' := ⟨fun pins s σ H D I h => p.run pins s σ H D I (f D σ H h)⟩
theorem OpR.imp {X : Cx} {f : Value → Value → Sem Value} {r r' : R2} (p : OpR X f r) (g : ∀ x y H Q, r' x y H Q → r x y H Q) : OpR X f r' := fun pins s σ H x y v u Q I rx ry h => p pins s σ H x y v u Q I rx ry (g x y H Q h)
theorem CallR.imp {X : Cx} {f : Value} {r r' : List V → Hp → VK → Prop} (p : CallR X f r) (g : ∀ xs H Q, r' xs H Q → r xs H Q) : CallR X f r' := fun pins s σ H xs us Q I rx h => p pins s σ H xs us Q I rx (g xs H Q h)
/-- what an operation gives, from the state at which it stands -/
def Gv (K : PySem.W.Frag) (mg : Mg) (ρ : List Addr) (I : Addr → Prop) (h : Hs) (H : Hp) (Q : VK) (r : R) : Prop :=
  ∀ v H' ρ' I', Ext ρ I h H ρ' I' h H' → HR K mg ρ' I' h H' → RO K mg ρ' I' h H' H [] [] v r → Q v H'
theorem RO.any {K : PySem.W.Frag} {mg : Mg} {ρ : List Addr} {I : Addr → Prop} {h : Hs} {H H0 : Hp} {σT : Slots} {σ : St} {v : V} {r : R} (o : RO K mg ρ I h H H0 [] [] v r) : RO K mg ρ I h H H0 σT σ v r := by
  cases r with
  | v t => exact o
  | al l => exact o
  | bw i => exact (by obtain ⟨e, _⟩ := o; simp at e)
section
variable {K : PySem.W.Frag} {mg : Mg} {ρ : List Addr} {I : Addr → Prop} {h : Hs} {H : Hp} {Q : VK}
/-- a flat value -/
theorem Gv.v {t : T} {v : V} (g : Gv K mg ρ I h H Q (.v t)) (r : HR K mg ρ I h H) (q : Rep K mg ρ I H v t) : Q v H := g v H ρ I .refl r q
theorem Gv.al {l : List T} {vs : List V} {p : Addr} (g : Gv K mg ρ I h H Q (.al l)) (r : HR K mg ρ I h H) (hp : H p = none) (q : Reps K mg ρ I H vs l) : Q (.ref p) (upd H p (.lst vs)) :=
  g _ _ ρ I (ext_new _ hp) (hr_new _ r hp) ⟨p, vs, rfl, hp, upd_same, fun z => not_none (r.idom p z) hp, fun z => not_none (live_some r z) hp, q.mono (kp_new _ r hp)⟩
theorem Gv.tup {l : List T} {vs : List V} {p : Addr} (g : Gv K mg ρ I h H Q (.v (.tup l))) (r : HR K mg ρ I h H) (hp : H p = none) (q : Reps K mg ρ I H vs l) : Q (.ref p) (upd H p (.tup vs)) :=
  g _ _ ρ (Iw I p) (ext_imm _ hp) (hr_imm _ r hp) ⟨p, vs, rfl, .inl ⟨.inr rfl, .of upd_same⟩, q.mono ((ext_imm (h := h) _ hp).kp r)⟩
end
end VY
namespace VY
open PySem PySem.Spec
open PyProof.Rows hiding St
open L2
theorem no_some {α : Type} {a : α} (e : (none : Option α) = some a) : False := nomatch e
theorem mulOk_ok {i j : Int} (h : mulOk i j = true) : IntMulOk i j := by
  unfold mulOk at h
  simp only [Bool.or_eq_true, decide_eq_true_eq] at h
  rcases h with (h | h) | h
  · exact CMul.ok (.inl h)
  · exact CMul.ok (.inr h)
  · exact CMulW.ok h
section
variable {X : Cx} {K : PySem.W.Frag} {mg : Mg} {ρ : List Addr} {I : Addr → Prop} {h : Hs} {H : Hp} {Q : VK}
def rOp (K : PySem.W.Frag) (mg : Mg) (op : Operator) : R2 := fun x y H Q => ∃ ρ I h t u r, HR K mg ρ I h H ∧ Pk K mg ρ I H x t ∧ Pk K mg ρ I H y u ∧ opR op t u = some r ∧ Gv K mg ρ I h H Q r
theorem op_mulT : OpR X (binaryOp .Mult) (rI (fun i j => mulOk i j = true) fun i j => .int (i * j)) := opI fun _ _ _ _ _ _ _ hc q => mul_int q (mulOk_ok hc)
theorem op_powT : OpR X (binaryOp .Pow) (rI (fun i j => 0 ≤ j ∧ (Builtin.Int.intBits i : Int) * j ≤ 2 ^ 27) fun i j => .int (i ^ j.toNat)) := opI fun _ _ _ _ _ _ _ hc q => pow_int hc.1 hc.2 q
theorem ite_some {α : Type} {c : Prop} [Decidable c] {a b : α} (e : (if c then some a else none) = some b) : c ∧ a = b := by
  split at e
  · exact ⟨by assumption, Option.some.inj e⟩
  · cases e
theorem op_sound (hK : K = X.K) (op : Operator) : OpR X (binaryOp op) (rOp K mg op) := by
  subst hK
  cases op with
  | Add =>
    refine OpR.imp (op_add.or (op_add_str.or (op_cat.or op_catA))) ?_
    rintro x y H Q ⟨ρ, I, h, t, u, r, hr, p, q, e, g⟩
    cases t <;> cases u <;> try exact (no_some e).elim
    · cases e
      exact .inl ⟨_, _, p, q, g.v hr rfl⟩
    · obtain ⟨c, rfl⟩ := ite_some (show (if _ then some _ else none) = some r from e)
      exact .inr (.inl ⟨_, _, p, q, by rw [sizeLine_eq]; exact c, g.v hr rfl⟩)
    · obtain ⟨c, rfl⟩ := ite_some (show (if _ then some _ else none) = some r from e)
      obtain ⟨a, vs, rfl, pa, wa⟩ := p
      obtain ⟨b, ws, rfl, pb, wb⟩ := q
      refine .inr (.inr (.inr ⟨a, b, vs, ws, rfl, rfl, pa.elim (fun u => .inl u.2) .inr, pb.elim (fun u => .inl u.2) .inr, by rw [wa.length, wb.length, sizeLine_eq]; exact c, fun e => ?_, fun _ e => ?_, fun _ _ p hp => g.tup hr hp (wa.append wb)⟩))
      · have e0 := wa.length
        rw [e] at e0
        rw [List.eq_nil_of_length_eq_zero e0.symm, List.nil_append] at g
        exact g.v hr ⟨b, ws, rfl, pb, wb⟩
      · have e0 := wb.length
        rw [e] at e0
        rw [List.eq_nil_of_length_eq_zero e0.symm, List.append_nil] at g
        exact g.v hr ⟨a, vs, rfl, pa, wa⟩
    · obtain ⟨c, rfl⟩ := ite_some (show (if _ then some _ else none) = some r from e)
      obtain ⟨a, vs, rfl, pa, wa⟩ := p
      obtain ⟨b, ws, rfl, pb, wb⟩ := q
      exact .inr (.inr (.inl ⟨a, b, vs, ws, rfl, rfl, pa, pb, by rw [wa.length, wb.length, sizeLine_eq]; exact c, fun p hp => g.al hr hp (wa.append wb)⟩))
  | Sub =>
    refine OpR.imp op_sub ?_
    rintro x y H Q ⟨ρ, I, h, t, u, r, hr, p, q, e, g⟩
    cases t <;> cases u <;> try exact (no_some e).elim
    cases e
    exact ⟨_, _, p, q, g.v hr rfl⟩
  | Mult =>
    refine OpR.imp (op_mulT.or (op_rep.or (op_repT.or op_mulS))) ?_
    rintro x y H Q ⟨ρ, I, h, t, u, r, hr, p, q, e, g⟩
    cases t <;> cases u <;> try exact (no_some e).elim
    · obtain ⟨c, rfl⟩ := ite_some (show (if _ then some _ else none) = some r from e)
      exact .inl ⟨_, _, p, q, c, g.v hr rfl⟩
    · obtain ⟨⟨c1, c2, c3⟩, rfl⟩ := ite_some (show (if _ then some _ else none) = some r from e)
      exact .inr (.inr (.inr ⟨_, _, p, q, c1, c2, c3, g.v hr rfl⟩))
    · obtain ⟨⟨c1, c2, c3, c4⟩, rfl⟩ := ite_some (show (if _ then some _ else none) = some r from e)
      obtain ⟨a, vs, rfl, pa, wa⟩ := p
      refine .inr (.inr (.inl ⟨a, _, vs, rfl, q, pa.elim (fun u => .inl u.2) .inr, fun e => c1 ?_, c2, c3, by rw [wa.length]; exact c4, fun p hp => g.tup hr hp (wa.rep _)⟩))
      have e0 := wa.length
      rw [e] at e0
      exact List.eq_nil_of_length_eq_zero e0.symm
    · obtain ⟨⟨c1, c2, c3⟩, rfl⟩ := ite_some (show (if _ then some _ else none) = some r from e)
      obtain ⟨a, vs, rfl, pa, wa⟩ := p
      exact .inr (.inl ⟨a, _, vs, rfl, q, pa, c1, c2, by rw [wa.length, sizeLine_eq]; exact c3, fun p hp => g.al hr hp (wa.rep _)⟩)
  | FloorDiv =>
    refine OpR.imp (op_fdivW.or op_fdivN) ?_
    rintro x y H Q ⟨ρ, I, h, t, u, r, hr, p, q, e, g⟩
    cases t <;> cases u <;> try exact (no_some e).elim
    rename_i i j
    have e' : (fdivT i j).map (fun r => R.v (.int r)) = some r := e
    unfold fdivT at e'
    split at e'
    · cases e'
      exact .inl ⟨_, _, p, q, by assumption, g.v hr rfl⟩
    · split at e'
      · cases e'
        exact .inr ⟨_, _, p, q, by assumption, g.v hr rfl⟩
      · cases e'
  | Mod =>
    refine OpR.imp (op_mod.or op_modN) ?_
    rintro x y H Q ⟨ρ, I, h, t, u, r, hr, p, q, e, g⟩
    cases t <;> cases u <;> try exact (no_some e).elim
    rename_i i j
    have e' : (modT i j).map (fun r => R.v (.int r)) = some r := e
    unfold modT at e'
    split at e'
    · cases e'
      exact .inl ⟨_, _, p, q, by assumption, g.v hr rfl⟩
    · split at e'
      · cases e'
        exact .inr ⟨_, _, p, q, by assumption, g.v hr rfl⟩
      · cases e'
  | Pow =>
    refine OpR.imp op_powT ?_
    rintro x y H Q ⟨ρ, I, h, t, u, r, hr, p, q, e, g⟩
    cases t <;> cases u <;> try exact (no_some e).elim
    rename_i i j
    have e' : (powT i j).map (fun r => R.v (.int r)) = some r := e
    unfold powT at e'
    split at e'
    · cases e'
      exact ⟨_, _, p, q, by assumption, g.v hr rfl⟩
    · cases e'
  | _ =>
    rintro pins s σ H x y v u Q I rx ry ⟨ρ, I', h, t, u, r, hr, p, q, e, g⟩
    (cases t <;> cases u <;> exact (no_some e).elim)

theorem IxR.imp {r r' : R2} (p : IxR X r) (g : ∀ x y H Q, r' x y H Q → r x y H Q) : IxR X r' := by
  unfold IxR at p ⊢
  intros
  apply p <;> first | assumption | (apply g; assumption)
theorem SlR.imp {r r' : V → Option Int → Option Int → Hp → VK → Prop} (p : SlR X r) (g : ∀ x lo hi H Q, r' x lo hi H Q → r x lo hi H Q) : SlR X r' := by
  unfold SlR at p ⊢
  intros
  apply p <;> first | assumption | (apply g; assumption)
theorem keyT_kV {y : V} {t : T} {k : Key} (r : Rep K mg ρ I H y t) (e : keyT t = some k) : y = kV k := by
  cases t <;> first | (cases e; exact r) | cases e
theorem RepD.val : ∀ {vs : List (Key × V)} {l : List (Key × T)} (k : Key), RepD K mg ρ I H vs l → (∀ t, lookT l k = some t → ∃ v, valV vs k = some v ∧ Rep K mg ρ I H v t) ∧ (lookT l k = none → valV vs k = none)
  | [], [], k, _ => ⟨fun t e => by simp [lookT] at e, fun _ => rfl⟩
  | (k1, v) :: vs, (k2, t) :: l, k, ⟨e, r, q⟩ => by
    have e : k1 = k2 := e
    subst e
    have ih := RepD.val k q
    by_cases c : k1 = k
    · rw [valV_pos (p := (k1, v)) c]
      have z : lookT ((k1, t) :: l) k = some t := by simp [lookT, List.find?_cons, c]
      rw [z]
      exact ⟨fun t' e => by cases e; exact ⟨v, rfl, r⟩, fun e => by cases e⟩
    · rw [valV_neg (p := (k1, v)) c]
      have z : lookT ((k1, t) :: l) k = lookT l k := by simp [lookT, List.find?_cons, c]
      rw [z]
      exact ih
theorem RepD.len : ∀ {vs : List (Key × V)} {l : List (Key × T)}, RepD K mg ρ I H vs l → vs.length = l.length
  | [], [], _ => rfl
  | _ :: _, (_, _) :: _, ⟨_, _, q⟩ => congrArg (· + 1) (RepD.len q)
theorem RepD.any (k : Key) : ∀ {vs : List (Key × V)} {l : List (Key × T)}, RepD K mg ρ I H vs l → (vs.any fun kv => decide (kv.1 = k)) = l.any fun kv => decide (kv.1 = k)
  | [], [], _ => rfl
  | (_, _) :: _, (_, _) :: _, ⟨e, _, q⟩ => by rw [List.any_cons, List.any_cons, RepD.any k q, show _ = _ from e]
theorem RepD.repl (k : Key) {v : V} {t : T} (r : Rep K mg ρ I H v t) : ∀ {vs : List (Key × V)} {l : List (Key × T)}, RepD K mg ρ I H vs l →
    RepD K mg ρ I H (vs.map fun kv => if kv.1 = k then (kv.1, v) else kv) (l.map fun kv => if kv.1 = k then (kv.1, t) else kv)
  | [], [], _ => trivial
  | (k1, _) :: _, (k2, _) :: _, ⟨e, r1, q⟩ => by
    have e : k1 = k2 := e
    subst e
    rw [List.map_cons, List.map_cons]
    by_cases c : k1 = k
    · rw [if_pos (show (k1, _).1 = k from c), if_pos (show (k1, _).1 = k from c)]; exact ⟨rfl, r, RepD.repl k r q⟩
    · rw [if_neg (show ¬ (k1, _).1 = k from c), if_neg (show ¬ (k1, _).1 = k from c)]; exact ⟨rfl, r1, RepD.repl k r q⟩
theorem RepD.snoc (k : Key) {v : V} {t : T} (r : Rep K mg ρ I H v t) : ∀ {vs : List (Key × V)} {l : List (Key × T)}, RepD K mg ρ I H vs l → RepD K mg ρ I H (vs ++ [(k, v)]) (l ++ [(k, t)])
  | [], [], _ => ⟨rfl, r, trivial⟩
  | (_, _) :: _, (_, _) :: _, ⟨e, r1, q⟩ => ⟨e, r1, RepD.snoc k r q⟩
theorem RepD.put (k : Key) {v : V} {t : T} (r : Rep K mg ρ I H v t) {vs : List (Key × V)} {l : List (Key × T)} (q : RepD K mg ρ I H vs l) : RepD K mg ρ I H (putK vs k v) (putT l k t) := by
  unfold putK putT
  rw [q.any k]
  by_cases c : (l.any fun kv => decide (kv.1 = k)) = true
  · rw [if_pos c, if_pos c]; exact q.repl k r
  · rw [if_neg c, if_neg c]; exact q.snoc k r
theorem RepD.merge : ∀ {ws : List (Key × V)} {m : List (Key × T)} {vs : List (Key × V)} {l : List (Key × T)}, RepD K mg ρ I H ws m → RepD K mg ρ I H vs l → RepD K mg ρ I H (mergeK vs ws) (mergeT l m)
  | [], [], _, _, _, q => q
  | (k1, v) :: ws, (k2, t) :: m, vs, l, ⟨e, r, q'⟩, q => by
    have e : k1 = k2 := e
    subst e
    show RepD K mg ρ I H (mergeK (putK vs k1 v) ws) (mergeT (putT l k1 t) m)
    exact RepD.merge q' (q.put k1 r)
theorem dget_of {v y : V} {l : List (Key × T)} {u : T} {k : Key} (p : Pk K mg ρ I H v (.dct l)) (q : Rep K mg ρ I H y u) (ek : keyT u = some k) : ∃ a o, v = .ref a ∧ DGet H a y o ∧ (∀ t, lookT l k = some t → ∃ w, o = some w ∧ Rep K mg ρ I H w t) ∧ (lookT l k = none → o = none) := by
  obtain ⟨a, vs, rfl, s, w⟩ := p
  obtain ⟨h1, h2⟩ := w.val k
  exact ⟨a, valV vs k, rfl, .inl ⟨vs, k, s, keyT_kV q ek, rfl⟩, h1, h2⟩
theorem op_dIn (hu : X.A.units + 1 < cLine) : OpR X (compareOp .In) (fun x y H Q => ∃ a o, y = .ref a ∧ DGet H a x o ∧ Q (.bl o.isSome) H) := by
  rintro pins s σ H x y v u Q I rx ry ⟨a, o, rfl, g, q⟩
  obtain rfl : u = Value.ref a := ry
  exact d_in hu I g rx fun s3 I3 => ⟨.bl o.isSome, H, I3, rfl, q⟩
theorem op_dNotIn (hu : X.A.units + 1 < cLine) : OpR X (compareOp .NotIn) (fun x y H Q => ∃ a o, y = .ref a ∧ DGet H a x o ∧ Q (.bl (!o.isSome)) H) := by
  rintro pins s σ H x y v u Q I rx ry ⟨a, o, rfl, g, q⟩
  obtain rfl : u = Value.ref a := ry
  exact d_notIn hu I g rx fun s3 I3 => ⟨.bl (!o.isSome), H, I3, rfl, q⟩
theorem ix_d (hu : X.A.units + 1 < cLine) : IxR X (fun x y H Q => ∃ a v, x = .ref a ∧ DGet H a y (some v) ∧ Q v H) := by
  intro value slice pins s σ H x y v u Q I rx ry h hs
  obtain ⟨a, w, rfl, g, q⟩ := h
  obtain rfl : v = Value.ref a := rx
  exact tail_any (dict_typeIs I g) PySem.F.slot_dict_getitem.lookup (d_getItem hu I g ry fun w' s3 I3 rw' => ⟨w, H, I3, rw', q⟩) hs
mutual
theorem Rep.dp {d : PyData} : ∀ {v : V} {t : T}, Rep K mg ρ I H v t → toD t = some d → Dp K H v d
  | _, .non, e, z => by cases z; cases e; exact .non
  | _, .bl _, e, z => by cases z; cases e; exact .bl _
  | _, .int _, e, z => by cases z; cases e; exact .int _
  | _, .str _, e, z => by cases z; cases e; exact .str _
  | _, .tup l, ⟨a, vs, e, r, q⟩, z => by
    subst e
    cases y : toDs l with
    | none => rw [toD, y] at z; cases z
    | some ds =>
      rw [toD, y] at z; cases z
      exact .tup (r.elim (fun u => .inl u.2) .inr) (Reps.dp q y)
  | _, .lst l, ⟨a, vs, e, i, r, q⟩, z => by
    subst e
    cases y : toDs l with
    | none => rw [toD, y] at z; cases z
    | some ds =>
      rw [toD, y] at z; cases z
      exact .lst (SqL.of r) (Reps.dp q y)
  | _, .slst l, ⟨a, vs, e, r, q⟩, z => by
    subst e
    cases y : toDs l with
    | none => rw [toD, y] at z; cases z
    | some ds =>
      rw [toD, y] at z; cases z
      exact .lst (r.elim (fun u => .inl u.2) .inr) (Reps.dp q y)
  | _, .ty _, _, z => by cases z
  | _, .gl _, _, z => by cases z
  | _, .ref _, _, z => by cases z
  | _, .dct _, _, z => by cases z
  | _, .ins _ _, _, z => by cases z
theorem Reps.dp : ∀ {vs : List V} {l : List T} {ds : List PyData}, Reps K mg ρ I H vs l → toDs l = some ds → DpAll K H vs ds
  | [], [], _, _, z => by cases z; exact .nil
  | v :: vs, t :: l, ds, ⟨a, b⟩, z => by
    cases y : toD t with
    | none => rw [toDs, y] at z; cases z
    | some d =>
      cases y' : toDs l with
      | none => rw [toDs, y, y'] at z; cases z
      | some ds' =>
        rw [toDs, y, y'] at z; cases z
        exact .cons (Rep.dp a y) (Reps.dp b y')
end
theorem Pk.dp {d : PyData} {v : V} {t : T} (p : Pk K mg ρ I H v t) (z : toD t = some d) : Dp K H v d := by
  cases t with
  | lst l =>
    obtain ⟨a, vs, rfl, r, q⟩ := p
    cases y : toDs l with
    | none => rw [toD, y] at z; cases z
    | some ds =>
      rw [toD, y] at z; cases z
      exact .lst (SqL.of r) (q.dp y)
  | dct l => cases z
  | kst l => cases z
  | tst l => cases z
  | _ => exact Rep.dp p z
theorem flat_v {v w : V} : ∀ {t : T}, Pk K mg ρ I H v t → inT.flatOf t = some w → v = w
  | .non, e, z => by cases z; exact e
  | .bl _, e, z => by cases z; exact e
  | .int _, e, z => by cases z; exact e
  | .str _, e, z => by cases z; exact e
  | .tup _, _, z => by cases z
  | .lst _, _, z => by cases z
  | .slst _, _, z => by cases z
  | .dct _, _, z => by cases z
  | .ins _ _, _, z => by cases z
  | .ty _, _, z => by cases z
  | .gl _, _, z => by cases z
  | .ref _, _, z => by cases z
theorem flat_vs : ∀ {vs ws : List V} {l : List T}, Reps K mg ρ I H vs l → l.mapM inT.flatOf = some ws → vs = ws
  | [], ws, [], _, z => by simp at z; exact z.symm
  | v :: vs, ws, t :: l, ⟨a, b⟩, z => by
    rw [List.mapM_cons] at z
    cases y : inT.flatOf t with
    | none => rw [y] at z; cases z
    | some w =>
      cases y' : l.mapM inT.flatOf with
      | none => rw [y, y'] at z; cases z
      | some ws' =>
        rw [y, y'] at z
        have z' : w :: ws' = ws := Option.some.inj z
        rw [← z', flat_v (Pk.of a) y, flat_vs b y']
def rCmp (K : PySem.W.Frag) (mg : Mg) (op : CmpOp) : R2 := fun x y H Q => ∃ ρ I h t u k, HR K mg ρ I h H ∧ Pk K mg ρ I H x t ∧ Pk K mg ρ I H y u ∧ cmpR op t u = some k ∧ Q (.bl k) H
theorem and_tt {a b : Bool} (h : (a && b) = true) : a = true ∧ b = true := Bool.and_eq_true_iff.mp h
theorem eqT_inv {t u : T} {k : Bool} (e : eqT t u = some k) : ∃ d e', toD t = some d ∧ toD u = some e' ∧ SeqAt.shaped d = true ∧ SeqAt.shaped e' = true ∧ PyData.eqv d e' = k := by
  unfold eqT at e
  cases y : toD t with
  | none => rw [y] at e; cases e
  | some d =>
    cases y' : toD u with
    | none => rw [y, y'] at e; cases e
    | some d' =>
      rw [y, y'] at e
      obtain ⟨c, z⟩ := ite_some (show (if _ then some _ else none) = some k from e)
      exact ⟨d, d', rfl, rfl, (and_tt c).1, (and_tt c).2, z⟩
theorem in_lst {t : T} {l : List T} {k : Bool} {v u : V} (p : Pk K mg ρ I H v t) {a : Addr} {vs : List V} (ea : u = .ref a) (s : SqL K H a vs) (q : Reps K mg ρ I H vs l)
    (e : (match toD t, toDs l with | some d, some ds => if SeqAt.shaped d && SeqAt.shaped (.list ds) then some (ds.any fun z => PyData.eqv z d) else none | _, _ => none) = some k) :
    ∃ d ds, Dp K H v d ∧ Dp K H u (.list ds) ∧ SeqAt.shaped d = true ∧ SeqAt.shaped (.list ds) = true ∧ (ds.any fun z => PyData.eqv z d) = k := by
  cases y : toD t with
  | none => rw [y] at e; cases e
  | some d =>
    cases y' : toDs l with
    | none => rw [y, y'] at e; cases e
    | some ds =>
      rw [y, y'] at e
      obtain ⟨c, z⟩ := ite_some (show (if _ then some _ else none) = some k from e)
      exact ⟨d, ds, p.dp y, ea ▸ .lst s (q.dp y'), (and_tt c).1, (and_tt c).2, z⟩
theorem in_tup {t : T} {l : List T} {k : Bool} {v : V} {vs : List V} (p : Pk K mg ρ I H v t) (q : Reps K mg ρ I H vs l) (e : inT.flatIn t l = some k) : flatV v = true ∧ vs.all flatV = true ∧ inV v vs = k := by
  unfold inT.flatIn at e
  cases y : inT.flatOf t with
  | none => rw [y] at e; cases e
  | some w =>
    cases y' : l.mapM inT.flatOf with
    | none => rw [y, y'] at e; cases e
    | some ws =>
      rw [y, y'] at e
      obtain ⟨c, z⟩ := ite_some (show (if _ then some _ else none) = some k from e)
      rw [flat_v p y, flat_vs q y']
      exact ⟨(and_tt c).1, (and_tt c).2, z⟩
theorem is_non {v : V} {t : T} (p : Pk K mg ρ I H v t) : decide (v = .non) = (match t with | .non => true | _ => false) := by
  cases t with
  | non => cases (show v = .non from p); rfl
  | bl b => cases (show v = .bl b from p); rfl
  | int b => cases (show v = .int b from p); rfl
  | str b => cases (show v = .str b from p); rfl
  | ty b => cases (show v = .ty b from p); rfl
  | gl x => obtain ⟨a, rfl, _⟩ := (show ∃ a, v = .ref a ∧ mg x = some (.ref a) from p); rfl
  | ref n => obtain ⟨a, rfl, _⟩ := (show ∃ a, v = .ref a ∧ ρ[n]? = some a from p); rfl
  | tup l => obtain ⟨a, vs, rfl, _⟩ := (show ∃ a vs, v = .ref a ∧ _ ∧ _ from p); rfl
  | lst l => obtain ⟨a, vs, rfl, _⟩ := (show ∃ a vs, v = .ref a ∧ _ ∧ _ from p); rfl
  | slst l => obtain ⟨a, vs, rfl, _⟩ := (show ∃ a vs, v = .ref a ∧ _ ∧ _ from p); rfl
  | dct l => obtain ⟨a, vs, rfl, _⟩ := (show ∃ a vs, v = .ref a ∧ _ ∧ _ from p); rfl
  | ins c l => obtain ⟨a, C, dx, vs, rfl, _⟩ := (show ∃ a C dx vs, v = .ref a ∧ _ from p); rfl
  | kst l => obtain ⟨a, rfl, _⟩ := (show ∃ a, v = .ref a ∧ _ from p); rfl
  | tst l => obtain ⟨a, L, rfl, _⟩ := (show ∃ (a : Addr) (L : Els), v = .ref a ∧ _ from p); rfl
theorem cmp_ii {f : Int → Int → Bool} {op : CmpOp} (hf : ∀ i j, cmpR op (.int i) (.int j) = some (f i j)) (hn : ∀ t u k, cmpR op t u = some k → (∃ i, t = .int i) ∧ ∃ j, u = .int j)
    (hr : OpR X (compareOp op) (rI0 fun i j => .bl (f i j))) : OpR X (compareOp op) (rCmp K mg op) := by
  refine OpR.imp hr ?_
  rintro x y H Q ⟨ρ, I, h, t, u, k, r, p, q, e, g⟩
  obtain ⟨⟨i, rfl⟩, ⟨j, rfl⟩⟩ := hn t u k e
  rw [hf] at e
  cases e
  exact ⟨i, j, p, q, g⟩
theorem Pk.rep {v : V} {t : T} {k : Key} (p : Pk K mg ρ I H v t) : keyT t = some k → Rep K mg ρ I H v t := by
  intro e
  cases t <;> first | exact p | cases e
theorem opR_mapNot {o : Option Bool} {k : Bool} (e : o.map (!·) = some k) : o = some (!k) := by
  cases o with
  | none => cases e
  | some b =>
    have e' : (!b) = k := Option.some.inj e
    rw [← e', Bool.not_not]
theorem key_v {v : V} {t : T} {k : Key} (p : Rep K mg ρ I H v t) (e : keyT t = some k) : v = kV k := by
  cases t <;> cases e <;> exact p
theorem keys_v : ∀ {vs : List V} {ts : List T} {ks : List Key}, Reps K mg ρ I H vs ts → keysT ts = some ks → vs = ks.map kV
  | [], [], _, _, e => by cases e; rfl
  | v :: vs, t :: ts, ks, ⟨a, b⟩, e => by
    rw [keysT] at e
    cases y : keyT t with
    | none => rw [y] at e; cases e
    | some k =>
      cases y' : keysT ts with
      | none => rw [y, y'] at e; cases e
      | some ks' => rw [y, y'] at e; cases e; rw [List.map_cons, key_v a y, keys_v b y']
theorem any_iff {α : Type} [DecidableEq α] {l m : List α} {k : α} (h : ∀ j, j ∈ l ↔ j ∈ m) : (l.any fun j => decide (j = k)) = m.any fun j => decide (j = k) := by
  rw [Bool.eq_iff_iff, List.any_eq_true, List.any_eq_true]
  exact ⟨fun ⟨j, a, b⟩ => ⟨j, (h j).mp a, b⟩, fun ⟨j, a, b⟩ => ⟨j, (h j).mpr a, b⟩⟩
theorem cmp_sound (hK : K = X.K) (hM : (mg.P, mg.w) = (X.prog, X.w)) (hu : X.A.units + 65 < cLine) (op : CmpOp) : OpR X (compareOp op) (rCmp K mg op) := by
  subst hK
  have hP : mg.P = X.prog := congrArg Prod.fst hM
  have hw : mg.w = X.w := congrArg Prod.snd hM
  have hu' : X.A.units + 64 < cLine := by omega
  cases op with
  | Eq =>
    refine OpR.imp (op_eqD hu') ?_
    rintro x y H Q ⟨ρ, I, h, t, u, k, r, p, q, e, g⟩
    obtain ⟨d, d', e1, e2, s1, s2, z⟩ := eqT_inv e
    exact ⟨d, d', p.dp e1, q.dp e2, s1, s2, by rw [z]; exact g⟩
  | NotEq =>
    refine OpR.imp (op_neD hu') ?_
    rintro x y H Q ⟨ρ, I, h, t, u, k, r, p, q, e, g⟩
    obtain ⟨d, d', e1, e2, s1, s2, z⟩ := eqT_inv (opR_mapNot e)
    exact ⟨d, d', p.dp e1, q.dp e2, s1, s2, by rw [z, Bool.not_not]; exact g⟩
  | Lt => exact cmp_ii (fun _ _ => rfl) (fun t u k e => by cases t <;> cases u <;> simp [cmpR] at e ⊢) op_lt
  | LtE => exact cmp_ii (fun _ _ => rfl) (fun t u k e => by cases t <;> cases u <;> simp [cmpR] at e ⊢) op_le
  | Gt => exact cmp_ii (fun _ _ => rfl) (fun t u k e => by cases t <;> cases u <;> simp [cmpR] at e ⊢) op_gt
  | GtE => exact cmp_ii (fun _ _ => rfl) (fun t u k e => by cases t <;> cases u <;> simp [cmpR] at e ⊢) op_ge
  | Is =>
    refine OpR.imp op_isN ?_
    rintro x y H Q ⟨ρ, I, h, t, u, k, r, p, q, e, g⟩
    have e1 : u = .non := by cases u <;> simp [cmpR] at e ⊢
    subst e1
    refine ⟨q, ?_⟩
    rw [is_non p]
    cases t <;> (cases e; exact g)
  | IsNot =>
    refine OpR.imp op_notN ?_
    rintro x y H Q ⟨ρ, I, h, t, u, k, r, p, q, e, g⟩
    have e1 : u = .non := by cases u <;> simp [cmpR] at e ⊢
    subst e1
    refine ⟨q, ?_⟩
    rw [is_non p]
    cases t <;> (cases e; exact g)
  | In =>
    refine OpR.imp ((op_inD hu).or (op_in_seq.or ((op_dIn (by omega)).or (or_sinK.or ((or_inU (by omega)).or op_in_sign))))) ?_
    rintro x y H Q ⟨ρ, I, h, t, u, k, r, p, q, e, g⟩
    have e' : inT t u = some k := e
    cases u with
    | lst l =>
      obtain ⟨a, vs, ea, s, w⟩ := q
      obtain ⟨d, ds, z1, z2, z3, z4, z5⟩ := in_lst p ea (SqL.of s) w e'
      exact .inl ⟨d, ds, z1, z2, z3, z4, by rw [z5]; exact g⟩
    | slst l =>
      obtain ⟨a, vs, ea, s, w⟩ := q
      obtain ⟨d, ds, z1, z2, z3, z4, z5⟩ := in_lst p ea (s.elim (fun u => .inl u.2) .inr) w e'
      exact .inl ⟨d, ds, z1, z2, z3, z4, by rw [z5]; exact g⟩
    | tup l =>
      obtain ⟨a, vs, ea, s, w⟩ := q
      obtain ⟨z1, z2, z3⟩ := in_tup p w e'
      exact .inr (.inl ⟨a, vs, ea, .inr (s.elim (fun u => .inl u.2) .inr), z1, z2, by rw [z3]; exact g⟩)
    | dct l =>
      obtain ⟨kk, ek, z⟩ := Option.map_eq_some_iff.mp (show (keyT t).map (fun k => (lookT l k).isSome) = some k from e')
      obtain ⟨a, o, rfl, dg, h1, h2⟩ := dget_of q (p.rep ek) ek
      refine .inr (.inr (.inl ⟨a, o, rfl, dg, ?_⟩))
      have eo : o.isSome = k := by
        rw [← z]
        cases y : lookT l kk with
        | none => rw [h2 y]; rfl
        | some t => obtain ⟨w, rfl, _⟩ := h1 t y; rfl
      rw [eo]; exact g
    | kst l =>
      obtain ⟨kk, ek, z⟩ := Option.map_eq_some_iff.mp (show (keyT t).map (fun k => memK k l) = some k from e')
      obtain ⟨a, rfl, nd, s⟩ := q
      refine .inr (.inr (.inr (.inl ⟨kk, a, _, _, key_v (p.rep ek) ek, rfl, by rw [← hP, ← hw]; exact s, ?_⟩)))
      have z' : (l.any fun j => decide (j = kk)) = k := z
      rw [← z'] at g
      exact g
    | tst l =>
      obtain ⟨kk, ek, z⟩ := Option.map_eq_some_iff.mp (show (match t with | .tup ts => keysT ts | _ => none).map (fun k => memKs k l) = some k from e')
      cases t <;> try cases ek
      rename_i ts
      obtain ⟨b, vs, rfl, sb, wb⟩ := (show ∃ b vs, x = .ref b ∧ ((I b ∧ Rd H b (.tup vs)) ∨ StT X.K b vs) ∧ Reps X.K mg ρ I H vs ts from p)
      obtain ⟨a, L, rfl, m1, m2, s, el⟩ := q
      have ev := keys_v wb ek
      subst ev
      refine .inr (.inr (.inr (.inr (.inl ⟨b, a, kk, L, rfl, rfl, sb.elim (fun u => .inl u.2) .inr, by rw [← hP, ← hw]; exact s, fun p hp => (el p hp).elim (fun u => .inl u.2) .inr, ?_⟩))))
      have z' : memU kk (ksU L) = k := by
        rw [← z]
        unfold memU memKs
        exact any_iff fun j => (m1 j).symm
      show Q (.bl (if false = true then !memU kk (ksU L) else memU kk (ksU L))) H
      rw [if_neg (by simp), z']
      exact g
    | str zz =>
      cases t <;> try cases e'
      rename_i xx
      have e2 : (match xx.cps.toList with | [c] => some (decide (c ∈ zz.cps.toList)) | _ => none) = some k := e'
      split at e2
      · rename_i c ec
        cases e2
        have ex : xx = ⟨#[c]⟩ := by
          obtain ⟨⟨l⟩⟩ := xx
          simp only at ec
          rw [ec]
        subst ex
        exact .inr (.inr (.inr (.inr (.inr ⟨c, zz, p, q, g⟩))))
      · cases e2
    | _ => cases e'
  | NotIn =>
    refine OpR.imp ((op_notInD hu).or (op_notIn_seq.or ((op_dNotIn (by omega)).or (or_snotinK.or op_notIn_sign)))) ?_
    rintro x y H Q ⟨ρ, I, h, t, u, k, r, p, q, e, g⟩
    have e' : inT t u = some (!k) := opR_mapNot (by cases u <;> first | exact e | cases e)
    cases u with
    | lst l =>
      obtain ⟨a, vs, ea, s, w⟩ := q
      obtain ⟨d, ds, z1, z2, z3, z4, z5⟩ := in_lst p ea (SqL.of s) w e'
      exact .inl ⟨d, ds, z1, z2, z3, z4, by rw [z5, Bool.not_not]; exact g⟩
    | slst l =>
      obtain ⟨a, vs, ea, s, w⟩ := q
      obtain ⟨d, ds, z1, z2, z3, z4, z5⟩ := in_lst p ea (s.elim (fun u => .inl u.2) .inr) w e'
      exact .inl ⟨d, ds, z1, z2, z3, z4, by rw [z5, Bool.not_not]; exact g⟩
    | tup l =>
      obtain ⟨a, vs, ea, s, w⟩ := q
      obtain ⟨z1, z2, z3⟩ := in_tup p w e'
      exact .inr (.inl ⟨a, vs, ea, .inr (s.elim (fun u => .inl u.2) .inr), z1, z2, by
        show Q (.bl (if true = true then !inV x vs else inV x vs)) H
        rw [if_pos rfl, z3, Bool.not_not]; exact g⟩)
    | dct l =>
      obtain ⟨kk, ek, z⟩ := Option.map_eq_some_iff.mp (show (keyT t).map (fun k => (lookT l k).isSome) = some (!k) from e')
      obtain ⟨a, o, rfl, dg, h1, h2⟩ := dget_of q (p.rep ek) ek
      refine .inr (.inr (.inl ⟨a, o, rfl, dg, ?_⟩))
      have eo : (!o.isSome) = k := by
        rw [← Bool.not_not k, ← z]
        cases y : lookT l kk with
        | none => rw [h2 y]; rfl
        | some t => obtain ⟨w, rfl, _⟩ := h1 t y; rfl
      rw [eo]; exact g
    | kst l =>
      obtain ⟨kk, ek, z⟩ := Option.map_eq_some_iff.mp (show (keyT t).map (fun k => memK k l) = some (!k) from e')
      obtain ⟨a, rfl, nd, s⟩ := q
      refine .inr (.inr (.inr (.inl ⟨kk, a, _, _, key_v (p.rep ek) ek, rfl, by rw [← hP, ← hw]; exact s, ?_⟩)))
      have z' : (l.any fun j => decide (j = kk)) = (!k) := z
      show Q (.bl (if true = true then !(l.any fun k2 => decide (k2 = kk)) else l.any fun k2 => decide (k2 = kk))) H
      rw [if_pos rfl, z', Bool.not_not]
      exact g
    | tst l => cases e
    | str zz =>
      cases t <;> try cases e'
      rename_i xx
      have e2 : (match xx.cps.toList with | [c] => some (decide (c ∈ zz.cps.toList)) | _ => none) = some (!k) := e'
      split at e2
      · rename_i c ec
        have e3 : decide (c ∈ zz.cps.toList) = (!k) := Option.some.inj e2
        have ex : xx = ⟨#[c]⟩ := by
          obtain ⟨⟨l⟩⟩ := xx
          simp only at ec
          rw [ec]
        subst ex
        exact .inr (.inr (.inr (.inr ⟨c, zz, p, q, by rw [e3, Bool.not_not]; exact g⟩)))
      · cases e2
    | _ => cases e'
/-- truth -/
theorem empty_eq {vs : List V} {l : List T} (q : Reps K mg ρ I H vs l) : vs.isEmpty = l.isEmpty := by
  cases vs <;> cases l <;> first | rfl | exact q.elim
theorem tru_v {v : V} {t : T} {k : Bool} (p : Pk K mg ρ I H v t) (e : truT t = some k) : TruV K v H k := by
  cases t with
  | non => cases (show v = .non from p); cases e; exact rfl
  | bl b => cases (show v = .bl b from p); cases e; exact rfl
  | int i => cases (show v = .int i from p); cases e; exact rfl
  | str s =>
    cases (show v = .str s from p)
    obtain ⟨c, rfl⟩ := ite_some (show (if _ then some _ else none) = some k from e)
    exact ⟨by rw [sizeLine_eq]; exact c, rfl⟩
  | tup l =>
    obtain ⟨a, vs, rfl, s, w⟩ := p
    cases e
    exact .inr (.inl ⟨vs, s.elim (fun u => .inl u.2) .inr, by rw [empty_eq w]⟩)
  | lst l =>
    obtain ⟨a, vs, rfl, s, w⟩ := p
    cases e
    exact .inl ⟨vs, SqL.of s, by rw [empty_eq w]⟩
  | slst l =>
    obtain ⟨a, vs, rfl, s, w⟩ := p
    cases e
    exact .inl ⟨vs, s.elim (fun u => .inl u.2) .inr, by rw [empty_eq w]⟩
  | _ => cases e
/-- an item -/
def rIxD (K : PySem.W.Frag) (mg : Mg) : R2 := fun x y H Q => ∃ ρ I h t u r, HR K mg ρ I h H ∧ Pk K mg ρ I H x t ∧ Rep K mg ρ I H y u ∧ ixR t u = some r ∧ ∀ v, Rep K mg ρ I H v r → Q v H
theorem ix_sound (hK : K = X.K) (hu : X.A.units + 65 < cLine) : IxR X (rIxD K mg) := by
  subst hK
  refine IxR.imp (IxR.or ix_seq (ix_d (by omega))) ?_
  intro x y H Q hh
  obtain ⟨ρ, I', h, t, u, r, hr, p, q, e, g⟩ := hh
  by_cases hd : ∃ l, t = .dct l
  · obtain ⟨l, rfl⟩ := hd
    have e' : (keyT u).bind (lookT l) = some r := by cases u <;> exact e
    obtain ⟨k, ek, el⟩ := Option.bind_eq_some_iff.mp e'
    obtain ⟨a, o, rfl, dg, h1, _⟩ := dget_of p q ek
    obtain ⟨w, rfl, rw'⟩ := h1 r el
    exact .inr ⟨a, w, rfl, dg, g w rw'⟩
  refine .inl ?_
  cases t <;> first | exact (hd ⟨_, rfl⟩).elim | skip
  all_goals cases u <;> try exact (no_some e).elim
  · rename_i z i
    obtain ⟨c, e⟩ := (show z.length ≤ SL ∧ (atI z.cps.toList i).map (fun c => T.str ⟨#[c]⟩) = some r from by
      have e' : (if z.length ≤ SL then (atI z.cps.toList i).map fun c => T.str ⟨#[c]⟩ else none) = some r := e
      split at e'
      · exact ⟨by assumption, e'⟩
      · cases e')
    cases f : atI z.cps.toList i with
    | none => rw [f] at e; cases e
    | some c' =>
      rw [f] at e
      cases e
      exact .inr (.inr ⟨z, i, c', p, q, by rw [sizeLine_eq]; exact c, f, g _ rfl⟩)
  · obtain ⟨a, vs, rfl, s, w⟩ := p
    obtain ⟨v', e1, rv⟩ := w.at e
    exact .inr (.inl ⟨a, vs, _, v', rfl, q, s.elim (fun u => .inl u.2) .inr, e1, g _ rv⟩)
  · obtain ⟨a, vs, rfl, s, w⟩ := p
    obtain ⟨v', e1, rv⟩ := w.at e
    exact .inl ⟨a, vs, _, v', rfl, q, SqL.of s, e1, g _ rv⟩
  · obtain ⟨a, vs, rfl, s, w⟩ := p
    obtain ⟨v', e1, rv⟩ := w.at e
    exact .inl ⟨a, vs, _, v', rfl, q, s.elim (fun u => .inl u.2) .inr, e1, g _ rv⟩
/-- a slice -/
theorem sl_sound (hK : K = X.K) : SlR X fun x lo hi H Q => ∃ ρ I h t r, HR K mg ρ I h H ∧ Pk K mg ρ I H x t ∧ slR t lo hi = some r ∧ Gv K mg ρ I h H Q r := by
  subst hK
  refine SlR.imp (sl_list.or (sl_tupA.or sl_str)) ?_
  intro x lo hi H Q hh
  obtain ⟨ρ, I', h, t, r, hr, p, e, g⟩ := hh
  cases t with
  | lst l =>
    obtain ⟨a, vs, rfl, s, w⟩ := p
    cases e
    exact .inl ⟨a, vs, rfl, SqL.of s, fun p hp => g.al hr hp (w.cut lo hi)⟩
  | slst l =>
    obtain ⟨a, vs, rfl, s, w⟩ := p
    cases e
    exact .inl ⟨a, vs, rfl, s.elim (fun u => .inl u.2) .inr, fun p hp => g.al hr hp (w.cut lo hi)⟩
  | tup l =>
    obtain ⟨a, vs, rfl, s, w⟩ := p
    cases e
    refine .inr (.inl ⟨a, vs, rfl, s.elim (fun u => .inl u.2) .inr, fun ⟨e1, e2⟩ => ?_, fun _ p hp => g.tup hr hp (w.cut lo hi)⟩)
    have ec : cutT l lo hi = l := by
      unfold cutT
      rw [w.length] at e1 e2
      rw [e1, e2, List.drop_zero, Nat.sub_zero, List.take_length]
    rw [ec] at g
    exact g.v hr ⟨a, vs, rfl, s, w⟩
  | str z =>
    obtain ⟨c, rfl⟩ := ite_some (show (if _ then some _ else none) = some r from e)
    exact .inr (.inr ⟨z, p, by rw [sizeLine_eq]; exact c, g.v hr rfl⟩)
  | _ => cases e
end
end VY
namespace VY
open PySem PySem.Spec
open PyProof.Rows hiding St
open L2

def Bf.name : Bf → Str
  | .len => "len" | .abs => "abs" | .int => "int" | .str => "str" | .isinstance => "isinstance" | .max => "max" | .min => "min" | .tuple => "tuple" | .list => "list" | .sum => "sum" | .any => "any" | .all => "all" | .sorted => "sorted"
def Bf.val : Bf → Value
  | .len => .builtin "len" | .abs => .builtin "abs" | .int => .type "int" | .str => .type "str" | .isinstance => .builtin "isinstance" | .max => .builtin "max" | .min => .builtin "min" | .tuple => .type "tuple" | .list => .type "list" | .sum => .builtin "sum" | .any => .builtin "any" | .all => .builtin "all" | .sorted => .builtin "sorted"
section
variable {X : Cx} {K : PySem.W.Frag} {mg : Mg} {ρ : List Addr} {I : Addr → Prop} {h : Hs} {H : Hp} {Q : VK}
def rBl (K : PySem.W.Frag) (mg : Mg) (f : Bf) : List V → Hp → VK → Prop := fun vs H Q => ∃ ρ I h ts r, HR K mg ρ I h H ∧ Pks K mg ρ I H vs ts ∧ bltR f ts = some r ∧ Gv K mg ρ I h H Q r
theorem pks1 {vs : List V} {t : T} (p : Pks K mg ρ I H vs [t]) : ∃ v, vs = [v] ∧ Pk K mg ρ I H v t := by
  match vs, p with
  | [v], p => exact ⟨v, rfl, p.1⟩
  | _ :: _ :: _, p => exact p.2.elim
theorem pks2 {vs : List V} {t u : T} (p : Pks K mg ρ I H vs [t, u]) : ∃ v w, vs = [v, w] ∧ Pk K mg ρ I H v t ∧ Pk K mg ρ I H w u := by
  match vs, p with
  | [v, w], p => exact ⟨v, w, rfl, p.1, p.2.1⟩
  | [_], p => exact p.2.elim
  | _ :: _ :: _ :: _, p => exact p.2.2.elim
theorem seq_of {a : Addr} {vs : List V} (s : (I a ∧ Rd H a (.lst vs)) ∨ StL K a vs) : SqL K H a vs := s.elim (fun u => .inl u.2) .inr
theorem seqT_of {a : Addr} {vs : List V} (s : (I a ∧ Rd H a (.tup vs)) ∨ StT K a vs) : SqT K H a vs := s.elim (fun u => .inl u.2) .inr
theorem ty_of {v : V} {t : T} {a : String} (p : Pk K mg ρ I H v t) (e : tyN t = some a) : TyX K H v (.type a) := by
  cases t with
  | non => cases e; cases (show v = .non from p); exact .base .non
  | bl b => cases e; cases (show v = .bl b from p); exact .base (.bl b)
  | int b => cases e; cases (show v = .int b from p); exact .base (.int b)
  | str b => cases e; cases (show v = .str b from p); exact .base (.str b)
  | tup l =>
    cases e
    obtain ⟨b, vs, rfl, s, _⟩ := p
    rcases s with ⟨_, s | ⟨o, s⟩⟩ | ⟨o, its, n, s, c, _⟩
    · exact .base (.tup s)
    · exact .fTuple s
    · exact .kTuple s c
  | lst l =>
    cases e
    obtain ⟨b, vs, rfl, s, _⟩ := p
    exact .base (.lst s)
  | slst l =>
    cases e
    obtain ⟨b, vs, rfl, s, _⟩ := p
    rcases s with ⟨_, s | ⟨o, s⟩⟩ | ⟨o, its, n, s, c, _⟩
    · exact .base (.lst s)
    · exact .base (.frz s)
    · exact .kList s c
  | _ => cases e
theorem isi_ok {a b : String} {r : Bool} (e : isiS a b = some r) : kitB a b = some r := by
  unfold isiS at e
  split at e
  · rename_i c
    simp only [Bool.and_eq_true, List.contains_iff_mem, List.mem_cons, List.not_mem_nil, or_false] at c
    obtain ⟨ca, cb⟩ := c
    have e' : (a == b || (a == "bool" && b == "int")) = r := Option.some.inj e
    rw [← e']
    rcases ca with rfl | rfl | rfl | rfl | rfl | rfl | rfl <;> rcases cb with rfl | rfl | rfl | rfl | rfl | rfl <;> decide +kernel
  · cases e
theorem len_v {v : V} {t : T} {n : Nat} (p : Pk K mg ρ I H v t) (e : lenT t = some n) : LenV K v H n := by
  cases t with
  | str s =>
    cases (show v = .str s from p)
    obtain ⟨c, rfl⟩ := ite_some (show (if _ then some _ else none) = some n from e)
    exact ⟨by rw [sizeLine_eq]; exact c, rfl⟩
  | tup l =>
    cases e
    obtain ⟨b, vs, rfl, s, w⟩ := p
    exact .inr ⟨vs, seqT_of s, w.length.symm⟩
  | lst l =>
    cases e
    obtain ⟨b, vs, rfl, s, w⟩ := p
    exact .inl ⟨vs, SqL.of s, w.length.symm⟩
  | slst l =>
    cases e
    obtain ⟨b, vs, rfl, s, w⟩ := p
    exact .inl ⟨vs, seq_of s, w.length.symm⟩
  | _ => cases e
theorem Gv.same {l : List T} {a : Addr} {vs : List V} (g : Gv K mg ρ I h H Q (.v (.tup l))) (r : HR K mg ρ I h H) (s : (I a ∧ Rd H a (.tup vs)) ∨ StT K a vs) (w : Reps K mg ρ I H vs l) : Q (.ref a) H := g.v r ⟨a, vs, rfl, s, w⟩
theorem ints_vs : ∀ {vs : List V} {l : List T} {ns : List Int}, Reps K mg ρ I H vs l → intsOf l = some ns → vs = ns.map V.int
  | [], [], ns, _, e => by cases e; rfl
  | v :: vs, t :: l, ns, ⟨a, b⟩, e => by
    cases t <;> try cases e
    rename_i i
    cases z : intsOf l with
    | none => rw [intsOf, z] at e; cases e
    | some ms =>
      rw [intsOf, z] at e
      cases e
      cases (show v = .int i from a)
      rw [ints_vs b z]
      rfl
theorem bls_vs : ∀ {vs : List V} {l : List T} {ns : List Bool}, Reps K mg ρ I H vs l → blsOf l = some ns → vs = ns.map V.bl
  | [], [], ns, _, e => by cases e; rfl
  | v :: vs, t :: l, ns, ⟨a, b⟩, e => by
    cases t <;> try cases e
    rename_i i
    cases z : blsOf l with
    | none => rw [blsOf, z] at e; cases e
    | some ms =>
      rw [blsOf, z] at e
      cases e
      cases (show v = .bl i from a)
      rw [bls_vs b z]
      rfl
theorem reps_ints : ∀ ns : List Int, Reps K mg ρ I H (ns.map V.int) (ns.map T.int)
  | [] => trivial
  | n :: ns => ⟨rfl, reps_ints ns⟩
theorem maxI_ok : ∀ {l : List Int} {m : Int}, maxI l = some m → m ∈ l ∧ ∀ a ∈ l, a ≤ m
  | [], _, e => by cases e
  | [a], m, e => by cases e; exact ⟨List.mem_cons_self, fun b hb => by simp at hb; omega⟩
  | a :: b :: l, m, e => by
    cases z : maxI (b :: l) with
    | none => rw [maxI, z] at e; cases e; exact fun e => by cases e
    | some k =>
      rw [maxI, z] at e
      · have e' : (if a < k then k else a) = m := Option.some.inj e
        obtain ⟨h1, h2⟩ := maxI_ok z
        split at e'
        · subst e'
          refine ⟨List.mem_cons_of_mem _ h1, fun c hc => ?_⟩
          rcases List.mem_cons.mp hc with rfl | hc
          · omega
          · exact h2 c hc
        · subst e'
          refine ⟨List.mem_cons_self, fun c hc => ?_⟩
          rcases List.mem_cons.mp hc with rfl | hc
          · omega
          · have := h2 c hc; omega
      · exact fun e => by cases e
theorem minI_ok : ∀ {l : List Int} {m : Int}, minI l = some m → m ∈ l ∧ ∀ a ∈ l, m ≤ a
  | [], _, e => by cases e
  | [a], m, e => by cases e; exact ⟨List.mem_cons_self, fun b hb => by simp at hb; omega⟩
  | a :: b :: l, m, e => by
    cases z : minI (b :: l) with
    | none => rw [minI, z] at e; cases e; exact fun e => by cases e
    | some k =>
      rw [minI, z] at e
      · have e' : (if k < a then k else a) = m := Option.some.inj e
        obtain ⟨h1, h2⟩ := minI_ok z
        split at e'
        · subst e'
          refine ⟨List.mem_cons_of_mem _ h1, fun c hc => ?_⟩
          rcases List.mem_cons.mp hc with rfl | hc
          · omega
          · exact h2 c hc
        · subst e'
          refine ⟨List.mem_cons_self, fun c hc => ?_⟩
          rcases List.mem_cons.mp hc with rfl | hc
          · omega
          · have := h2 c hc; omega
      · exact fun e => by cases e
theorem sortI_eq {ns ms : List Int} (p : ms.Perm ns) (q : ms.Pairwise (· ≤ ·)) : ms = sortI ns := by
  refine List.Perm.eq_of_pairwise (le := (· ≤ ·)) (fun a b _ _ h1 h2 => Int.le_antisymm h1 h2) q ?_ (p.trans (List.mergeSort_perm ..).symm)
  refine List.Pairwise.imp (fun h => of_decide_eq_true h) (List.pairwise_mergeSort (le := fun a b : Int => decide (a ≤ b)) (fun a b c h1 h2 => ?_) (fun a b => ?_) ns)
  · simp at h1 h2 ⊢; omega
  · simp; omega
theorem list1 {ts : List T} {vs : List V} {l : List T} (e : ts = [.lst l]) (p : Pks K mg ρ I H vs ts) : ∃ a ws, vs = [.ref a] ∧ SqL K H a ws ∧ Reps K mg ρ I H ws l := by
  subst e
  obtain ⟨v, rfl, a, ws, rfl, s, w⟩ := pks1 p
  exact ⟨a, ws, rfl, SqL.of s, w⟩
theorem blt_sound (hc : X.calm = true) (hK : K = X.K) (f : Bf) : CallR X f.val (rBl K mg f) := by
  subst hK
  cases f with
  | len =>
    refine CallR.imp call_len ?_
    rintro vs H Q ⟨ρ, I, h, ts, r, hr, p, e, g⟩
    match ts, p, e with
    | [t], p, e =>
      obtain ⟨v, rfl, p1⟩ := pks1 p
      cases y : lenT t with
      | none => rw [bltR, y] at e; cases e
      | some n => rw [bltR, y] at e; cases e; exact ⟨v, n, rfl, len_v p1 y, g.v hr rfl⟩
  | abs =>
    refine CallR.imp call_abs ?_
    rintro vs H Q ⟨ρ, I, h, ts, r, hr, p, e, g⟩
    match ts, p, e with
    | [.int i], p, e =>
      obtain ⟨v, rfl, p1⟩ := pks1 p
      cases (show v = .int i from p1)
      cases e
      exact ⟨i, rfl, g.v hr rfl⟩
  | int =>
    refine CallR.imp (CallR.or call_int1 call_int_str) ?_
    rintro vs H Q ⟨ρ, I, h, ts, r, hr, p, e, g⟩
    match ts, p, e with
    | [.int i], p, e =>
      obtain ⟨v, rfl, p1⟩ := pks1 p
      cases (show v = .int i from p1)
      cases e
      exact .inl (.inl ⟨i, rfl, g.v hr rfl⟩)
    | [.bl i], p, e =>
      obtain ⟨v, rfl, p1⟩ := pks1 p
      cases (show v = .bl i from p1)
      cases e
      exact .inl (.inr ⟨i, rfl, g.v hr rfl⟩)
    | [.str z], p, e =>
      obtain ⟨v, rfl, p1⟩ := pks1 p
      cases (show v = .str z from p1)
      have e : (if z.length ≤ 640 then (intText? z).map fun n => R.v (.int n) else none) = some r := e
      split at e
      · rename_i c
        obtain ⟨n, en, rfl⟩ := Option.map_eq_some_iff.mp e
        exact .inr ⟨z, n, rfl, en, c, g.v hr rfl⟩
      · cases e
  | str =>
    refine CallR.imp call_str_int ?_
    rintro vs H Q ⟨ρ, I, h, ts, r, hr, p, e, g⟩
    match ts, p, e with
    | [.int i], p, e =>
      obtain ⟨v, rfl, p1⟩ := pks1 p
      cases (show v = .int i from p1)
      obtain ⟨c, rfl⟩ := ite_some (show (if _ then some _ else none) = some r from e)
      exact ⟨i, rfl, c, g.v hr rfl⟩
  | isinstance =>
    refine CallR.imp call_isi ?_
    rintro vs H Q ⟨ρ, I, h, ts, r, hr, p, e, g⟩
    match ts, p, e with
    | [t, .ty n], p, e =>
      obtain ⟨v, w, rfl, p1, q1⟩ := pks2 p
      cases (show w = .ty n from q1)
      cases y : tyN t with
      | none => rw [bltR, y] at e; cases e
      | some a =>
        rw [bltR, y] at e
        have e1 : (isiS a n).map (fun b => R.v (.bl b)) = some r := e
        cases z : isiS a n with
        | none => rw [z] at e1; cases e1
        | some b =>
          rw [z] at e1
          cases e1
          exact ⟨v, .ty n, .type a, .type n, b, rfl, .ty n, ty_of p1 y, kit_ty (isi_ok z), g.v hr rfl⟩
  | max =>
    refine CallR.imp (CallR.or (call_max2 hc) (cr_max hc)) ?_
    rintro vs H Q ⟨ρ, I, h, ts, r, hr, p, e, g⟩
    match ts, p, e with
    | [.int i, .int j], p, e =>
      obtain ⟨v, w, rfl, p1, q1⟩ := pks2 p
      cases (show v = .int i from p1)
      cases (show w = .int j from q1)
      cases e
      exact .inl ⟨i, j, rfl, g.v hr rfl⟩
    | [.lst l], p, e =>
      obtain ⟨a, ws, rfl, s, w⟩ := list1 rfl p
      obtain ⟨m, em, rfl⟩ := Option.map_eq_some_iff.mp (show ((intsOf l).bind maxI).map (fun n => R.v (.int n)) = some r from e)
      obtain ⟨ns, en, em⟩ := Option.bind_eq_some_iff.mp em
      rw [ints_vs w en] at s
      obtain ⟨k1, k2⟩ := maxI_ok em
      refine .inr ⟨a, ns, rfl, s, List.length_pos_of_mem k1, fun m' h1 h2 => ?_⟩
      have := k2 m' h1
      have := h2 m k1
      have e : m' = m := by omega
      subst e
      exact g.v hr rfl
  | min =>
    refine CallR.imp (CallR.or (call_min2 hc) (cr_min hc)) ?_
    rintro vs H Q ⟨ρ, I, h, ts, r, hr, p, e, g⟩
    match ts, p, e with
    | [.int i, .int j], p, e =>
      obtain ⟨v, w, rfl, p1, q1⟩ := pks2 p
      cases (show v = .int i from p1)
      cases (show w = .int j from q1)
      cases e
      exact .inl ⟨i, j, rfl, g.v hr rfl⟩
    | [.lst l], p, e =>
      obtain ⟨a, ws, rfl, s, w⟩ := list1 rfl p
      obtain ⟨m, em, rfl⟩ := Option.map_eq_some_iff.mp (show ((intsOf l).bind minI).map (fun n => R.v (.int n)) = some r from e)
      obtain ⟨ns, en, em⟩ := Option.bind_eq_some_iff.mp em
      rw [ints_vs w en] at s
      obtain ⟨k1, k2⟩ := minI_ok em
      refine .inr ⟨a, ns, rfl, s, List.length_pos_of_mem k1, fun m' h1 h2 => ?_⟩
      have := k2 m' h1
      have := h2 m k1
      have e : m' = m := by omega
      subst e
      exact g.v hr rfl
  | tuple =>
    refine CallR.imp call_tuple_of ?_
    rintro vs H Q ⟨ρ, I, h, ts, r, hr, p, e, g⟩
    match ts, p, e with
    | [.lst l], p, e =>
      obtain ⟨v, rfl, p1⟩ := pks1 p
      obtain ⟨a, vs, rfl, s, w⟩ := p1
      cases e
      exact ⟨a, vs, rfl, .inl ⟨SqL.of s, fun p hp => g.tup hr hp w⟩⟩
    | [.slst l], p, e =>
      obtain ⟨v, rfl, p1⟩ := pks1 p
      obtain ⟨a, vs, rfl, s, w⟩ := p1
      cases e
      exact ⟨a, vs, rfl, .inl ⟨seq_of s, fun p hp => g.tup hr hp w⟩⟩
    | [.tup l], p, e =>
      obtain ⟨v, rfl, p1⟩ := pks1 p
      obtain ⟨a, vs, rfl, s, w⟩ := p1
      cases e
      exact ⟨a, vs, rfl, .inr ⟨seqT_of s, g.same hr s w⟩⟩
  | list =>
    refine CallR.imp call_list_of ?_
    rintro vs H Q ⟨ρ, I, h, ts, r, hr, p, e, g⟩
    match ts, p, e with
    | [.lst l], p, e =>
      obtain ⟨v, rfl, p1⟩ := pks1 p
      obtain ⟨a, vs, rfl, s, w⟩ := p1
      cases e
      exact ⟨a, vs, rfl, .inl (SqL.of s), fun p hp => g.al hr hp w⟩
    | [.slst l], p, e =>
      obtain ⟨v, rfl, p1⟩ := pks1 p
      obtain ⟨a, vs, rfl, s, w⟩ := p1
      cases e
      exact ⟨a, vs, rfl, .inl (seq_of s), fun p hp => g.al hr hp w⟩
    | [.tup l], p, e =>
      obtain ⟨v, rfl, p1⟩ := pks1 p
      obtain ⟨a, vs, rfl, s, w⟩ := p1
      cases e
      exact ⟨a, vs, rfl, .inr (seqT_of s), fun p hp => g.al hr hp w⟩
  | sum =>
    refine CallR.imp (cr_sum hc) ?_
    rintro vs H Q ⟨ρ, I, h, ts, r, hr, p, e, g⟩
    match ts, p, e with
    | [.lst l], p, e =>
      obtain ⟨a, ws, rfl, s, w⟩ := list1 rfl p
      obtain ⟨ns, en, rfl⟩ := Option.map_eq_some_iff.mp (show (intsOf l).map (fun ns => R.v (.int ns.sum)) = some r from e)
      rw [ints_vs w en] at s
      exact ⟨a, ns, rfl, s, g.v hr rfl⟩
  | any =>
    refine CallR.imp (cr_any hc) ?_
    rintro vs H Q ⟨ρ, I, h, ts, r, hr, p, e, g⟩
    match ts, p, e with
    | [.lst l], p, e =>
      obtain ⟨a, ws, rfl, s, w⟩ := list1 rfl p
      obtain ⟨ns, en, rfl⟩ := Option.map_eq_some_iff.mp (show (blsOf l).map (fun bs => R.v (.bl (bs.any id))) = some r from e)
      rw [bls_vs w en] at s
      exact ⟨a, ns, rfl, s, g.v hr rfl⟩
  | all =>
    refine CallR.imp (cr_all hc) ?_
    rintro vs H Q ⟨ρ, I, h, ts, r, hr, p, e, g⟩
    match ts, p, e with
    | [.lst l], p, e =>
      obtain ⟨a, ws, rfl, s, w⟩ := list1 rfl p
      obtain ⟨ns, en, rfl⟩ := Option.map_eq_some_iff.mp (show (blsOf l).map (fun bs => R.v (.bl (bs.all id))) = some r from e)
      rw [bls_vs w en] at s
      exact ⟨a, ns, rfl, s, g.v hr rfl⟩
  | sorted =>
    refine CallR.imp cr_sortedI ?_
    rintro vs H Q ⟨ρ, I, h, ts, r, hr, p, e, g⟩
    match ts, p, e with
    | [.lst l], p, e =>
      obtain ⟨a, ws, rfl, s, w⟩ := list1 rfl p
      obtain ⟨ns, en, rfl⟩ := Option.map_eq_some_iff.mp (show (intsOf l).map (fun ns => R.al ((sortI ns).map .int)) = some r from e)
      rw [ints_vs w en] at s
      refine ⟨a, ns, rfl, s, fun ms p h1 h2 hp => ?_⟩
      rw [sortI_eq h1 h2]
      exact g.al hr hp (reps_ints _)
end
end VY
namespace VY
open PySem PySem.Spec
open PyProof.Rows hiding St
open L2

/-- the names of the text: defs, globals by number -/
structure Nms where
  n : Nat
  fn : Nat → Str
  gl : Nat → Str
  hot : Bool := false
def plainN (x : Str) : Bool := !(x == ("__debug__" : Str)) && !(x == ("__classdict__" : Str))
def visB (sc : Scope) (x : Str) : Bool := match sc.names.lookup x with
  | some .local => true | some .cell => true | some .free => true | _ => false
def locB (sc : Scope) (x : Str) : Bool := match sc.names.lookup x with
  | some .local => true | some .cell => true | _ => false
def glbB (sc : Scope) (x : Str) : Bool := match sc.names.lookup x with
  | some .globalImplicit => plainN x | _ => false
def notStar : Expr → Bool
  | .Starred .. => false | _ => true
def notSet : Expr → Bool
  | .Set .. => false | _ => true
def notSlice : Expr → Bool
  | .Slice .. => false | _ => true
/-- an expression whose test is its value's truth -/
def plainT : Expr → Bool
  | .UnaryOp .. => false | .BoolOp .. => false | .IfExp .. => false | .Compare .. => false | _ => true
def mC : CT → Const → Bool
  | .non, .none => true
  | .bl b, .bool c => b == c
  | .int i, .int j => decide (i = j)
  | .str s, .str z => decide (s = z)
  | _, _ => false
mutual
def ownOf (nm : List Str) : Tg → List (Str × Nat)
  | .nm i => [(nm.getD i Str.empty, i)]
  | .tp l => ownOfs nm l
def ownOfs (nm : List Str) : List Tg → List (Str × Nat)
  | [] => []
  | g :: l => ownOf nm g ++ ownOfs nm l
end
mutual
def mTg (sc : Scope) (nm : List Str) : Tg → Expr → Bool
  | .nm i, .Name x _ => decide (nm[i]? = some x) && locB sc x
  | .tp l, .Tuple es _ _ => mTgs sc nm l es
  | _, _ => false
def mTgs (sc : Scope) (nm : List Str) : List Tg → List Expr → Bool
  | [], [] => true
  | g :: l, e :: es => notStar e && mTg sc nm g e && mTgs sc nm l es
  | _, _ => false
end
/-- the built-in names that are used besides -/
def frees : List Str := ["range", "set", "enumerate", "zip", "reversed", "dict", "type", "repr", "ZeroDivisionError"]
def shpRev : Expr → Option (List Expr)
  | .Subscript e (.Slice none none (some (.UnaryOp .USub (.Constant (.int i) _ _) _)) _) _ => if i = 1 then some [e] else none
  | _ => none
def shpLns (sc : Scope) : Expr → Option (List Expr)
  | .Call (.Name x _) [.Call (.Name y _) [a] [] _] [] _ => if decide (x = "len") && decide (y = "set") && glbB sc x && glbB sc y && notStar a then some [a] else none
  | _ => none
def shpFdv : Expr → Option (List Expr)
  | .BinOp a .FloorDiv b _ => some [a, b]
  | _ => none
def shpSet (sc : Scope) : Expr → Option (List Expr)
  | .Call (.Name x _) [] [] _ => if decide (x = "set") && glbB sc x then some [] else none
  | _ => none
def shpLrg (sc : Scope) : Expr → Option (List Expr)
  | .Call (.Name x _) [.Call (.Name y _) [a] [] _] [] _ => if decide (x = "list") && decide (y = "range") && glbB sc x && glbB sc y && notStar a then some [a] else none
  | _ => none
/-- no call of super -/
def baseOk : Expr → Bool
  | .Call (.Name x _) [] [] _ => !(x == ("super" : Str))
  | _ => true
def shpAt (f : Str) : Expr → Option (List Expr)
  | .Attribute e a _ => if decide (a = f) && baseOk e then some [e] else none
  | _ => none
/-- the parts of what is written for an operation -/
def shp (sc : Scope) (o : Op) (e : Expr) : Option (List Expr) := match o with
  | .rev => shpRev e
  | .lns => shpLns sc e
  | .fdv => shpFdv e
  | .set0 => shpSet sc e
  | .tset0 => shpSet sc e
  | .lrg => shpLrg sc e
  | .at f => shpAt f e
def Mt.name : Mt → Str
  | .index => "index" | .get => "get" | .reverse => "reverse" | .add => "add" | .append => "append" | .join => "join" | .split => "split" | .rmpre => "removeprefix"
def Mt.ar : Mt → Nat
  | .index => 1 | .get => 2 | .reverse => 0 | .add => 1 | .append => 1 | .join => 1 | .split => 1 | .rmpre => 1
/-- enumerate wants several targets -/
def enOk : It → Expr → Bool
  | .en _, .Tuple .. => true
  | .en _, _ => false
  | _, _ => true
variable (N : Nms) (nm : List Str)
mutual
def mE (sc : Scope) : E → Expr → Bool
  | .c k, e => match e with
    | .Constant c _ _ => mC k c
    | _ => false
  | .var i, e => match e with
    | .Name x _ => decide (nm[i]? = some x) && visB sc x && plainN x
    | _ => false
  | .gl g, e => match e with
    | .Name x _ => decide (x = N.gl g) && glbB sc x
    | _ => false
  | .bin op a b, e => match e with
    | .BinOp l o r _ => decide (o = op) && mE sc a l && mE sc b r
    | _ => false
  | .neg a, e => match e with
    | .UnaryOp .USub x _ => mE sc a x
    | _ => false
  | .not a, e => match e with
    | .UnaryOp .Not x _ => mE sc a x
    | _ => false
  | .bop op es, e => match e with
    | .BoolOp o vs _ => decide (o = op) && mEs sc es vs
    | _ => false
  | .cmp op a b, e => match e with
    | .Compare l ops rs _ => (match ops, rs with
      | [o], [r] => decide (o = op) && mE sc a l && mE sc b r && notSet r
      | _, _ => false)
    | _ => false
  | .ch op op' a b c, e => match e with
    | .Compare l ops rs _ => (match ops, rs with
      | [o, o'], [r, r'] => decide (o = op) && decide (o' = op') && mE sc a l && mE sc b r && mE sc c r' && notSet r'
      | _, _ => false)
    | _ => false
  | .ife c a b, e => match e with
    | .IfExp t x y _ => mCd sc c t && mE sc a x && mE sc b y
    | _ => false
  | .tup es, e => match e with
    | .Tuple xs _ _ => mEs sc es xs && xs.all notStar
    | _ => false
  | .lst es, e => match e with
    | .List xs _ => mEs sc es xs && xs.all notStar
    | _ => false
  | .ix a b, e => match e with
    | .Subscript x i _ => mE sc a x && mE sc b i && notSlice i
    | _ => false
  | .sl a lo hi, e => match e with
    | .Subscript x i _ => (match i with
      | .Slice l u none _ => mE sc a x && mO sc lo l && mO sc hi u
      | _ => false)
    | _ => false
  | .call f es, e => match e with
    | .Call (.Name x _) xs [] _ => !N.hot && decide (f < N.n) && decide (x = N.fn f) && glbB sc x && mEs sc es xs && xs.all notStar
    | _ => false
  | .op o es, e => !N.hot && (match shp sc o e with
    | some xs => mEs sc es xs
    | none => false)
  | .mth m o es, e => match e with
    | .Call (.Attribute pe a ap) xs [] cp => !N.hot && decide (a = m.name) && (ap.endLine == cp.line) && baseOk pe && mE sc o pe && mEs sc es xs && xs.all notStar && decide (xs.length = m.ar)
    | _ => false
  | .dsp es, e => match e with
    | .Dict ks vs _ => mKV sc es ks vs && decide (ks.length ≤ 15) && !ks.isEmpty
    | _ => false
  | .callv i es, e => match e with
    | .Call (.Name x _) xs [] _ => !N.hot && decide (nm[i]? = some x) && visB sc x && plainN x && mEs sc es xs && xs.all notStar && !xs.isEmpty
    | _ => false
  | .blt f es, e => match e with
    | .Call (.Name x _) xs [] _ => !N.hot && decide (x = f.name) && glbB sc x && mEs sc es xs && xs.all notStar && !xs.isEmpty
    | _ => false
  | .lc elt tg it cond, e => match e with
    | .ListComp el gs scope _ => (match gs with
      | [⟨t, iter, ifs, a⟩] => !N.hot && decide (a = 0) && blkC nm sc scope (ownOf nm tg) && mTg scope nm tg t && (enOk it t && mIt sc it iter) && notSet iter && mE (relS scope sc) elt el &&
          (match ifs with
          | [] => (match cond with | .yes => true | _ => false)
          | [c] => (match cond with | .yes => false | _ => mCd (relS scope sc) cond c)
          | _ => false)
      | _ => false)
    | _ => false
  | .dc k v tg it, e => match e with
    | .DictComp pk pv gs scope _ => (match gs with
      | [⟨t, iter, ifs, a⟩] => !N.hot && decide (a = 0) && ifs.isEmpty && blkC nm sc scope (ownOf nm tg) && mTg scope nm tg t && (enOk it t && mIt sc it iter) && notSet iter && mE (relS scope sc) k pk && mE (relS scope sc) v pv
      | _ => false)
    | _ => false
  | .new c es, e => match e with
    | .Call (.Name x _) xs [] _ => !N.hot && decide (x = c) && glbB sc x && mEs sc es xs && xs.all notStar
    | _ => false
  | .mcl m o es, e => match e with
    | .Call (.Attribute pe a ap) xs [] cp => !N.hot && decide (a = m) && (ap.endLine == cp.line) && baseOk pe && mE sc o pe && mEs sc es xs && xs.all notStar && decide (xs.length < 30)
    | _ => false
  | .so a, e => match e with
    | .Call (.Name x _) xs [] _ => (match xs with
      | [y] => !N.hot && decide (x = "str") && glbB sc x && mE sc a y && notStar y
      | _ => false)
    | _ => false
  | .fs es, e => match e with
    | .JoinedStr ps _ => !N.hot && mJs sc es ps && !ps.isEmpty
    | _ => false
  | .pr a, e => (match e with
    | .List .. => mE sc a e
    | _ => false)
  | .xf i f, e => match e with
    | .Attribute (.Name x _) a _ => N.hot && decide (a = f) && decide (nm[i]? = some x) && visB sc x && plainN x
    | _ => false
  | .eqI a b, e => match e with
    | .Compare l ops rs _ => (match ops, rs with
      | [o], [r] => !N.hot && decide (o = .Eq) && mE sc a l && mE sc b r && notSet r
      | _, _ => false)
    | _ => false
  | .neI a b, e => match e with
    | .Compare l ops rs _ => (match ops, rs with
      | [o], [r] => !N.hot && decide (o = .NotEq) && mE sc a l && mE sc b r && notSet r
      | _, _ => false)
    | _ => false
  | .isC c a, e => match e with
    | .Call (.Name x _) xs [] _ => (match xs with
      | [y, z] => (match z with
        | .Name k _ => !N.hot && decide (x = "isinstance") && decide (k = c) && glbB sc x && glbB sc k && mE sc a y && notStar y
        | _ => false)
      | _ => false)
    | _ => false
def mJs (sc : Scope) : List E → List Expr → Bool
  | [], [] => true
  | e :: es, x :: xs => (match x with
    | .FormattedValue y c sp _ => decide (c = -1) && sp.isNone && mE sc e y
    | .Constant .. => (match e with
      | .c (.str _) => mE sc e x
      | _ => false)
    | _ => false) && mJs sc es xs
  | _, _ => false
def mO (sc : Scope) : O → Option Expr → Bool
  | .no, none => true
  | .at e, some x => mE sc e x
  | _, _ => false
def mIt (sc : Scope) : It → Expr → Bool
  | .e x, e => mE sc x e && notSet e
  | .r1 a, e => match e with
    | .Call (.Name x _) xs [] _ => (match xs with
      | [y] => decide (x = "range") && glbB sc x && mE sc a y && notStar y
      | _ => false)
    | _ => false
  | .r2 a b, e => match e with
    | .Call (.Name x _) xs [] _ => (match xs with
      | [y, z] => decide (x = "range") && glbB sc x && mE sc a y && mE sc b z && notStar y && notStar z
      | _ => false)
    | _ => false
  | .en x, e => match e with
    | .Call (.Name y _) xs [] _ => (match xs with
      | [pe] => decide (y = "enumerate") && glbB sc y && mE sc x pe && notStar pe
      | _ => false)
    | _ => false
def mCd (sc : Scope) : C → Expr → Bool
  | .yes, _ => false
  | .t e, x => (match e with
    | .cmp .. => mE sc e x
    | .ch .. => mE sc e x
    | .eqI .. => mE sc e x
    | .neI .. => mE sc e x
    | _ => mE sc e x && plainT x)
  | .not c, x => match x with
    | .UnaryOp .Not y _ => mCd sc c y
    | _ => false
  | .bop op cs, x => match x with
    | .BoolOp o vs _ => decide (o = op) && mCds sc cs vs
    | _ => false
def mCds (sc : Scope) : List C → List Expr → Bool
  | [], [] => true
  | c :: cs, x :: xs => mCd sc c x && mCds sc cs xs
  | _, _ => false
def mKV (sc : Scope) : List E → List (Option Expr) → List Expr → Bool
  | [], [], [] => true
  | k :: v :: es, some pk :: ks, pv :: vs => mE sc k pk && mE sc v pv && mKV sc es ks vs
  | _, _, _ => false
def mEs (sc : Scope) : List E → List Expr → Bool
  | [], [] => true
  | e :: es, x :: xs => mE sc e x && mEs sc es xs
  | _, _ => false
end
end VY
namespace VY
open PySem PySem.Spec
open PyProof.Rows hiding St
open L2

/-- a def's promise: what the interpreter's call does -/
def spD (K : PySem.W.Frag) (mg : Mg) (call : List T → Hs → Out R) (n : Nat) : Sp := fun vs H Q E => vs.length = n ∧ ∃ ρ I h ts, HR K mg ρ I h H ∧ Reps K mg ρ I H vs ts ∧
  Nx K mg (fun cls d _ H' => E cls d H') [] ρ I h H (call ts h) fun r h' ρ' I' H' => ∀ v, RO K mg ρ' I' h' H' H [] [] v r → Q v H'
/-- .. where no exception is handled -/
@[reducible] def _root_.L2.Cx.M0 (X : L2.Cx) : Mg := ⟨X.mg, X.prog, X.w, none⟩
theorem M_calm {X : Cx} (hc : X.calm = true) : X.M = X.M0 := by
  unfold L2.Cx.M
  rw [hc]
  rfl
/-- an exception's __init__: its fields, one after another -/
def spX (K : PySem.W.Frag) (C : Addr) (fs : List Str) : Sp := fun vs H Q _ => vs.length = fs.length + 1 ∧ ∃ (a : Addr) (ws : List V), vs = .ref a :: ws ∧ fs ≠ [] ∧ fs.length ≤ 900 ∧ H a = some (exo a C none) ∧
  ∀ d, H d = none → d ≠ a → Q .non (upd (upd H d (exd d (fs.zip ws).reverse)) a (exo a C (some d)))
/-- an own exception class -/
structure XcS (X : Cx) (c : Str) (fs : List Str) : Prop where
  ok : ∃ C : Addr, X.mg c = some (.ref C) ∧ OexC X.K C ∧ XfC X.K C ∧ (∀ f ∈ fs, PySem.W.findIn X.K (.ref C) f = some none) ∧ PySem.W.exmOne X.K (.ref C) (.ref C) = some true
structure XcI (X : Cx) (c : Str) (fs : List Str) : Prop where
  ok : ∃ (C fI : Addr) (fd : FuncData) (ps : List Str) (k : Nat), X.mg c = some (.ref C) ∧ PySem.W.findIn X.K (.ref C) "__init__" = some (some (.ref fI)) ∧ PySem.W.typeIn X.K (.ref fI) = some (.type "function") ∧
    FnOk X.prog X.w X.K X.mg X.base (CX X.prog X.w) k fI fd ps (spX X.K C fs) ∧ Room (k + 1) X.A ∧ Binds X.K fd ps []
/-- what the context gives -/
structure Gd (X : Cx) (N : Nms) (Γ : Ctx) (k : Nat) (W : WX) : Prop where
  calm : N.hot = false → X.calm = true
  room : N.hot = false → Room k X.A
  hu : X.A.units + 65 < cLine
  nd : X.N.Nodup
  gl : ∀ x t, Γ.gv x = some t → ∃ v u, (X.mg (N.gl x) = some u ∨ (X.mg (N.gl x) = none ∧ bootBuiltins (N.gl x) = some u ∧ N.gl x ≠ "__name__")) ∧ RelV v u ∧ ∀ y ρ I H, Rep X.K ⟨X.mg, X.prog, X.w, y⟩ ρ I H v t
  fn : ∀ f, f < N.n → ∃ (a : Addr) (fd : FuncData) (ps : List Str), X.mg (N.fn f) = some (.ref a) ∧ PySem.W.keepIn X.K (.ref a) = true ∧ Binds X.K fd ps [] ∧
    FnOk X.prog X.w X.K X.mg X.base (CX X.prog X.w) k a fd ps (spD X.K X.M0 (Γ.call f) ps.length) ∧ ∀ ts h, Γ.call f ts h ≠ .bad → ts.length = ps.length
  ix : ∀ x f, Γ.ix x = some f → f < N.n ∧ N.fn f = x
  wd : ∀ g z t, Γ.wd g z = some t → ∃ p v, X.mg g = some (.ref p) ∧ KDct X.K X.w p z v ∧ ∀ y ρ I H, Rep X.K ⟨X.mg, X.prog, X.w, y⟩ ρ I H v t
  bl : ∀ b : Bf, X.mg b.name = none
  fr : ∀ x ∈ frees, X.mg x = none
  tk : Takes X W
  at_ : ∀ c f, Γ.cs.at_ c f = true → ∃ C, X.mg c = some (.ref C) ∧ Cls X.K C ∧ NoAttr X.K C f
  mt : ∀ c m f, Γ.cs.mt c m = some f → ∃ (C a : Addr) (fd : FuncData) (ps : List Str), X.mg c = some (.ref C) ∧ Cls X.K C ∧ Meth X.K C m a ∧ Binds X.K fd ps [] ∧
    FnOk X.prog X.w X.K X.mg X.base (CX X.prog X.w) k a fd ps (spD X.K X.M0 (Γ.call f) ps.length) ∧ ∀ ts h, Γ.call f ts h ≠ .bad → ts.length = ps.length
  ini : ∀ c f, Γ.cs.ini c = some f → ∃ (C a : Addr) (fd : FuncData) (ps : List Str) (j : Nat), X.mg c = some (.ref C) ∧ Mk X.K C a ∧ Binds X.K fd ps [] ∧ (N.hot = false → Room (j + 1) X.A) ∧
    FnOk X.prog X.w X.K X.mg X.base (CX X.prog X.w) j a fd ps (spD X.K X.M0 (Γ.make f) ps.length) ∧ ∀ ts h, Γ.make f ts h ≠ .bad → ts.length = ps.length
  sm : ∀ c f, Γ.cs.mt c "__str__" = some f → ∃ (C a : Addr) (fd : FuncData) (ps : List Str) (j : Nat), X.mg c = some (.ref C) ∧ Meth X.K C "__str__" a ∧ Binds X.K fd ps [] ∧ (N.hot = false → Room (j + 1) X.A) ∧
    FnOk X.prog X.w X.K X.mg X.base (CX X.prog X.w) j a fd ps (spD X.K X.M0 (Γ.make f) ps.length) ∧ (∀ ts h, Γ.make f ts h ≠ .bad → ts.length = ps.length) ∧
    PySem.W.findIn X.K (.ref C) "__format__" = some (some (.builtin "object.__format__")) ∧ PySem.W.mroIn X.K C (.type "object") = some true
  om : ∀ c m f, Γ.cs.mt c m = some f → ∃ (C a : Addr) (fd : FuncData) (ps : List Str) (j : Nat), X.mg c = some (.ref C) ∧ Meth X.K C m a ∧ Binds X.K fd ps [] ∧ (N.hot = false → Room (j + 1) X.A) ∧
    FnOk X.prog X.w X.K X.mg X.base (CX X.prog X.w) j a fd ps (spD X.K X.M0 (Γ.make f) ps.length) ∧ ∀ ts h, Γ.make f ts h ≠ .bad → ts.length = ps.length
  xs : ∀ c fs, Γ.cs.xs c = some fs → XcS X c fs ∧ (N.hot = false → XcI X c fs)
  xk : ∀ a oe, X.M.xe = some (a, oe) → (∃ (X0 : Cx) (pn : List (Addr × Obj)), X = X0.suite a ((a, oe) :: pn)) ∧ ∃ vs, oe.data = .fields vs
theorem star_eq {e : Expr} {es : List Expr} {env : Env} (h : notStar e = true) : starEach (e :: es) env = (false, eval e env) :: starEach es env := by
  cases e <;> first | rfl | cases h
theorem star_any {env : Env} {pos : Pos} : ∀ {es : List Expr}, es.all notStar = true → (backTo pos (starEach es env)).any (·.1) = false
  | [], _ => rfl
  | e :: es, h => by
    rw [List.all_cons] at h
    rw [star_eq (and_tt h).1]
    show (false || (backTo pos (starEach es env)).any (·.1)) = false
    rw [star_any (and_tt h).2]
    rfl
theorem plain_ix {b : Expr} (h : notSlice b = true) : PlainIx b := fun o i => by cases b <;> first | rfl | cases h
theorem not_marks {op : CmpOp} {b : Expr} (h : notSet b = true) : behindInMarks op b = false := by cases b <;> first | rfl | cases h
theorem not_folded {e : Expr} {env : Env} (h : notSet e = true) : ∀ x, foldedSetIterable e env x = pure x := fun x => by cases e <;> first | rfl | cases h
theorem plain_true {e : Expr} {env : Env} (h : plainT e = true) : ∀ whole, isTrue e env whole = (do let v ← whole; standAt e.pos; holding [v] (truthy v)) := fun whole => by cases e <;> first | rfl | cases h
theorem plain_dbg {x : Str} (h : plainN x = true) : (x == ("__debug__" : Str)) = false ∧ (x == ("__classdict__" : Str)) = false := by
  have q := and_tt h
  exact ⟨by simpa using q.1, by simpa using q.2⟩
theorem vis_of {sc : Scope} {x : Str} (h : visB sc x = true) : Vis sc x := by
  unfold visB at h
  split at h
  · exact .inl (by assumption)
  · exact .inr (.inl (by assumption))
  · exact .inr (.inr (by assumption))
  · cases h
theorem loc_of {sc : Scope} {x : Str} (h : locB sc x = true) : Loc sc x := by
  unfold locB at h
  split at h
  · exact .inl (by assumption)
  · exact .inr (by assumption)
  · cases h
theorem glb_of {X : Cx} {x : Str} (h : glbB X.env.scope x = true) : Gl X x ∧ plainN x = true := by
  unfold glbB at h
  split at h
  · exact ⟨by assumption, h⟩
  · cases h
section
variable {X : Cx} {N : Nms} {Γ : Ctx} {k : Nat} {W : WX}
theorem Gd.M (G : Gd X N Γ k W) (hh : N.hot = false) : X.M = X.M0 := M_calm (G.calm hh)
theorem Gd.blkM (G : Gd X N Γ k W) (hh : N.hot = false) (s : Shared) (H : Hp) (scope : Scope) (cenv : Env) (fp : List Addr) : (X.blk s H scope cenv fp).M = X.M := (M_calm (X := X.blk s H scope cenv fp) (G.calm hh)).trans (G.M hh).symm
theorem Gd.blk (G : Gd X N Γ k W) (hh : N.hot = false) (s : Shared) (H : Hp) (scope : Scope) (cenv : Env) (fp : List Addr) : Gd (X.blk s H scope cenv fp) N Γ k (fun _ _ _ _ => False) :=
  { calm := G.calm, room := G.room, hu := G.hu, nd := G.nd, gl := G.gl, fn := G.fn, ix := G.ix, wd := G.wd, bl := G.bl, fr := G.fr, tk := fun _ _ ⟨_, _, _, _, _, _, _, _, _, _, _, _, _, _, _, _, w⟩ => w, at_ := G.at_, mt := G.mt, ini := G.ini, sm := G.sm, om := G.om,
    xs := fun c fs e => ⟨⟨(G.xs c fs e).1.ok⟩, fun z => ⟨((G.xs c fs e).2 z).ok⟩⟩, xk := fun a oe e => by rw [G.blkM hh, G.M hh] at e; cases e }
/-- the calls, where no exception is handled -/
theorem Gd.fnM (G : Gd X N Γ k W) (hh : N.hot = false) : ∀ f, f < N.n → ∃ (a : Addr) (fd : FuncData) (ps : List Str), X.mg (N.fn f) = some (.ref a) ∧ PySem.W.keepIn X.K (.ref a) = true ∧ Binds X.K fd ps [] ∧
    FnOk X.prog X.w X.K X.mg X.base (CX X.prog X.w) k a fd ps (spD X.K X.M (Γ.call f) ps.length) ∧ ∀ ts h, Γ.call f ts h ≠ .bad → ts.length = ps.length := by
  rw [G.M hh]
  exact G.fn
theorem s_c {k' : CT} {c : Const} {j : Nat} {pos : Pos} (m : mC k' c = true) : PE X (.Constant c j pos) (tD X.K X.M W (evE Γ (.c k'))) := by
  cases k' <;> cases c <;> try cases m
  · exact PE.imp pe_non fun σ H Q ⟨ρ, I, σT, h, hr, sr, n⟩ => n ρ I H .refl hr _ rfl
  · rename_i b c
    have e : b = c := by simpa [mC] using m
    subst e
    exact PE.imp pe_bl fun σ H Q ⟨ρ, I, σT, h, hr, sr, n⟩ => n ρ I H .refl hr _ rfl
  · rename_i b c
    have e : b = c := by simpa [mC] using m
    subst e
    exact PE.imp pe_int fun σ H Q ⟨ρ, I, σT, h, hr, sr, n⟩ => n ρ I H .refl hr _ rfl
  · rename_i b c
    have e : b = c := by simpa [mC] using m
    subst e
    exact PE.imp pe_str fun σ H Q ⟨ρ, I, σT, h, hr, sr, n⟩ => n ρ I H .refl hr _ rfl
theorem s_var {i : Nat} {x : Str} {pos : Pos} (hi : X.N[i]? = some x) (hv : visB X.env.scope x = true) (hp : plainN x = true) : PE X (.Name x pos) (tD X.K X.M W (evE Γ (.var i))) := by
  refine PE.imp (pe_var hi (vis_of hv) (plain_dbg hp).1 (plain_dbg hp).2) ?_
  rintro σ H Q ⟨ρ, I, σT, h, hr, sr, n⟩
  rw [evE] at n
  split at n
  · rename_i t e
    obtain ⟨v, q, p⟩ := sr.vs i t e
    exact ⟨v, q, n ρ I H .refl hr v p⟩
  · rename_i l e
    obtain ⟨a, vs, q, _⟩ := sr.als i l e
    exact ⟨.ref a, q, n ρ I H .refl hr _ ⟨q, l, e⟩⟩
  · exact n.elim
theorem s_gl (G : Gd X N Γ k W) {g : Nat} {x : Str} {pos : Pos} (e : x = N.gl g) (hx : glbB X.env.scope x = true) : PE X (.Name x pos) (tD X.K X.M W (evE Γ (.gl g))) := by
  subst e
  obtain ⟨hg, hp⟩ := glb_of hx
  cases z : Γ.gv g with
  | none =>
    refine ⟨fun pins s σ H Q I hw => ?_⟩
    obtain ⟨ρ, I', σT, h, hr, sr, n⟩ := hw
    rw [evE, z] at n
    exact n.elim
  | some t =>
    obtain ⟨v, u, hm, r, rep⟩ := G.gl g t z
    have fin : ∀ σ H Q, tD X.K X.M W (evE Γ (.gl g)) σ H Q → tC v σ H Q := by
      rintro σ H Q ⟨ρ, I, σT, h, hr, sr, n⟩
      rw [evE, z] at n
      exact n ρ I H .refl hr v (rep _ ρ I H)
    rcases hm with hm | ⟨hm, hb, hn⟩
    · exact PE.imp (pe_glob hg hm r (plain_dbg hp).1) fin
    · exact PE.imp (pe_bltn hg hm hb r hn (plain_dbg hp).1) fin
section
variable {a b c : E} {pa pb pc : Expr} {pos : Pos}
theorem s_bin (op : Operator) (ha : PE X pa (tD X.K X.M W (evE Γ a))) (hb : PE X pb (tD X.K X.M W (evE Γ b))) : PE X (.BinOp pa op pb pos) (tD X.K X.M W (evE Γ (.bin op a b))) := by
  refine PE.imp (pe_op (op_sound (K := X.K) (mg := X.M) rfl op) ha hb) ?_
  rintro σ H Q ⟨ρ, I, σT, h, hr, sr, n⟩
  rw [evE] at n
  refine ⟨ρ, I, σT, h, hr, sr, n.bind.imp fun x h1 ρ1 I1 H1 x1 r1 n1 v o1 => ?_⟩
  refine ⟨ρ1, I1, σT, h1, r1, sr.ext hr x1, n1.bind.imp fun y h2 ρ2 I2 H2 x2 r2 n2 u o2 => ?_⟩
  have s2 := (sr.ext hr x1).ext r1 x2
  unfold opL at n2
  split at n2
  · rename_i t w e1 e2
    obtain ⟨r, er, g⟩ := n2.lift
    exact ⟨ρ2, I2, h2, t, w, r, r2, (o1.ext r1 x2).pk s2 r2 e1, o2.pk s2 r2 e2, er, fun z H' ρ' I' x' r' o' => g ρ' I' H' x' r' z (o'.any.back fun a d => x2.dom a (x1.dom a d))⟩
  · exact n2.elim
theorem s_neg (ha : PE X pa (tD X.K X.M W (evE Γ a))) : PE X (.UnaryOp .USub pa pos) (tD X.K X.M W (evE Γ (.neg a))) := by
  refine PE.imp (pe_un un_neg ha) ?_
  rintro σ H Q ⟨ρ, I, σT, h, hr, sr, n⟩
  rw [evE] at n
  refine ⟨ρ, I, σT, h, hr, sr, n.bind.imp fun x h1 ρ1 I1 H1 x1 r1 n1 v o1 => ?_⟩
  split at n1
  · rename_i i
    exact ⟨i, o1, n1 ρ1 I1 H1 .refl r1 _ rfl⟩
  · exact n1.elim
theorem tru_n {x : R} {σT : Slots} {σ : St} {ρ : List Addr} {I : Addr → Prop} {h : Hs} {H H0 : Hp} {v : V} {kk : Bool → Hs → List Addr → (Addr → Prop) → Hp → Prop} (n : Nx X.K X.M W σ ρ I h H (truL σT x h) kk)
    (o : RO X.K X.M ρ I h H H0 σT σ v x) (sr : SR X.K X.M ρ I h H σT σ) (hr : HR X.K X.M ρ I h H) : ∃ b, TruV X.K v H b ∧ Nx X.K X.M W σ ρ I h H (.ok b h) kk := by
  unfold truL at n
  split at n
  · rename_i t e
    obtain ⟨b, eb, g⟩ := n.lift
    exact ⟨b, tru_v (o.pk sr hr e) eb, g⟩
  · exact n.elim
theorem s_not (ha : PE X pa (tD X.K X.M W (evE Γ a))) : PE X (.UnaryOp .Not pa pos) (tD X.K X.M W (evE Γ (.not a))) := by
  refine PE.imp (pe_notT ha) ?_
  rintro σ H Q ⟨ρ, I, σT, h, hr, sr, n⟩
  rw [evE] at n
  refine ⟨ρ, I, σT, h, hr, sr, n.bind.imp fun x h1 ρ1 I1 H1 x1 r1 n1 v o1 => ?_⟩
  obtain ⟨b, tv, n2⟩ := tru_n n1.bind o1 (sr.ext hr x1) r1
  exact ⟨b, tv, n2 ρ1 I1 H1 .refl r1 ρ1 I1 H1 .refl r1 _ rfl⟩
theorem s_cmp (G : Gd X N Γ k W) (op : CmpOp) (ha : PE X pa (tD X.K X.M W (evE Γ a))) (hb : PE X pb (tD X.K X.M W (evE Γ b))) {σ : St} {H : Hp} {Q : VK} (q : tD X.K X.M W (evE Γ (.cmp op a b)) σ H Q) :
    tOp (rCmp X.K X.M op) (tD X.K X.M W (evE Γ a)) (tD X.K X.M W (evE Γ b)) σ H fun v H' => (∃ k, v = .bl k) ∧ Q v H' := by
  obtain ⟨ρ, I, σT, h, hr, sr, n⟩ := q
  rw [evE] at n
  refine ⟨ρ, I, σT, h, hr, sr, n.bind.imp fun x h1 ρ1 I1 H1 x1 r1 n1 v o1 => ?_⟩
  refine ⟨ρ1, I1, σT, h1, r1, sr.ext hr x1, n1.bind.imp fun y h2 ρ2 I2 H2 x2 r2 n2 u o2 => ?_⟩
  have s2 := (sr.ext hr x1).ext r1 x2
  have n3 := n2.bind
  unfold cmpL at n3
  split at n3
  · rename_i t w e1 e2
    obtain ⟨r, er, g⟩ := n3.lift
    exact ⟨ρ2, I2, h2, t, w, r, r2, (o1.ext r1 x2).pk s2 r2 e1, o2.pk s2 r2 e2, er, ⟨r, rfl⟩, g ρ2 I2 H2 .refl r2 ρ2 I2 H2 .refl r2 _ rfl⟩
  · exact n3.elim
theorem cmp_n {op : CmpOp} {x y : R} {σT : Slots} {σ : St} {ρ : List Addr} {I : Addr → Prop} {h : Hs} {H H0 H0' : Hp} {v u : V} {kk : Bool → Hs → List Addr → (Addr → Prop) → Hp → Prop} (n : Nx X.K X.M W σ ρ I h H (cmpL σT op x y h) kk)
    (o1 : RO X.K X.M ρ I h H H0 σT σ v x) (o2 : RO X.K X.M ρ I h H H0' σT σ u y) (sr : SR X.K X.M ρ I h H σT σ) (hr : HR X.K X.M ρ I h H) : ∃ t w r, Pk X.K X.M ρ I H v t ∧ Pk X.K X.M ρ I H u w ∧ cmpR op t w = some r ∧ Nx X.K X.M W σ ρ I h H (.ok r h) kk := by
  unfold cmpL at n
  split at n
  · rename_i t w e1 e2
    obtain ⟨r, er, g⟩ := n.lift
    exact ⟨t, w, r, o1.pk sr hr e1, o2.pk sr hr e2, er, g⟩
  · exact n.elim
theorem s_ch (G : Gd X N Γ k W) (op op' : CmpOp) {σ : St} {H : Hp} {Q : VK} (q : tD X.K X.M W (evE Γ (.ch op op' a b c)) σ H Q) :
    tChain (rCmp X.K X.M op) (rCmp X.K X.M op') (tD X.K X.M W (evE Γ a)) (tD X.K X.M W (evE Γ b)) (tD X.K X.M W (evE Γ c)) σ H fun v H' => (∃ k, v = .bl k) ∧ Q v H' := by
  obtain ⟨ρ, I, σT, h, hr, sr, n⟩ := q
  rw [evE] at n
  refine ⟨ρ, I, σT, h, hr, sr, n.bind.imp fun x h1 ρ1 I1 H1 x1 r1 n1 v o1 => ?_⟩
  refine ⟨ρ1, I1, σT, h1, r1, sr.ext hr x1, n1.bind.imp fun y h2 ρ2 I2 H2 x2 r2 n2 u o2 => ?_⟩
  have s2 := (sr.ext hr x1).ext r1 x2
  obtain ⟨t, w, r, p1, p2, er, g⟩ := cmp_n n2.bind (o1.ext r1 x2) o2 s2 r2
  refine ⟨ρ2, I2, h2, t, w, r, r2, p1, p2, er, r, rfl, ?_⟩
  have n4 := g ρ2 I2 H2 .refl r2
  cases r with
  | false => exact ⟨⟨false, rfl⟩, n4 ρ2 I2 H2 .refl r2 _ rfl⟩
  | true =>
    rw [if_pos rfl] at n4
    refine ⟨ρ2, I2, σT, h2, r2, s2, n4.bind.imp fun z h4 ρ4 I4 H4 x4 r4 n6 uz o4 => ?_⟩
    have s4 := s2.ext r2 x4
    obtain ⟨t', w', r', p1', p2', er', g'⟩ := cmp_n n6.bind (o2.ext r2 x4) o4 s4 r4
    exact ⟨ρ4, I4, h4, t', w', r', r4, p1', p2', er', ⟨r', rfl⟩, g' ρ4 I4 H4 .refl r4 ρ4 I4 H4 .refl r4 _ rfl⟩
theorem base_of {e : Expr} {x : Str} {env : Env} {w : Sem Value} (h : baseOk e = true) : attributeBase e x env w = w := by
  unfold baseOk at h
  unfold attributeBase
  split at h
  · rename_i y _ _
    have hy : (y != ("super" : Str)) = true := by simpa using h
    simp only [hy, Bool.true_or, if_true]
  · rename_i hn
    split
    · exact (hn _ _ _ rfl).elim
    · rfl
theorem s_ix (G : Gd X N Γ k W) (ha : PE X pa (tD X.K X.M W (evE Γ a))) (hb : PE X pb (tD X.K X.M W (evE Γ b))) (hs : notSlice pb = true) : PE X (.Subscript pa pb pos) (tD X.K X.M W (evE Γ (.ix a b))) := by
  refine PE.imp (pe_ix (IxR.or ix_kdict (ix_sound (mg := X.M) rfl G.hu)) ha hb (plain_ix hs)) ?_
  rintro σ H Q ⟨ρ, I, σT, h, hr, sr, n⟩
  rw [evE] at n
  refine ⟨ρ, I, σT, h, hr, sr, n.bind.imp fun x h1 ρ1 I1 H1 x1 r1 n1 v o1 => ?_⟩
  refine ⟨ρ1, I1, σT, h1, r1, sr.ext hr x1, n1.bind.imp fun y h2 ρ2 I2 H2 x2 r2 n2 u o2 => ?_⟩
  have s2 := (sr.ext hr x1).ext r1 x2
  unfold ixL at n2
  split at n2
  · rename_i g z
    obtain ⟨r, er, gg⟩ := n2.lift
    cases y : Γ.wd g z with
    | none => rw [y] at er; cases er
    | some t' =>
      rw [y] at er
      cases er
      obtain ⟨p, v', hm, kd, rp⟩ := G.wd g z t' y
      obtain ⟨a, rfl, hm'⟩ := (show ∃ a, v = .ref a ∧ X.mg g = some (.ref a) from o1)
      rw [hm] at hm'
      cases hm'
      exact .inl ⟨p, z, v', rfl, o2, kd, gg ρ2 I2 H2 .refl r2 v' (rp _ ρ2 I2 H2)⟩
  · refine .inr ?_
    split at n2
    · rename_i t w e1 _
      obtain ⟨r, er, g⟩ := n2.lift
      cases z : ixR t w with
      | none => rw [z] at er; cases er
      | some t' =>
        rw [z] at er
        cases er
        exact ⟨ρ2, I2, h2, t, w, t', r2, (o1.ext r1 x2).pk s2 r2 e1, o2, z, fun w rw' => g ρ2 I2 H2 .refl r2 w rw'⟩
    · exact n2.elim
end
end
end VY
namespace VY
open PySem PySem.Spec
open PyProof.Rows hiding St
open L2
section
variable {X : Cx} {N : Nms} {Γ : Ctx} {k : Nat} {W : WX} {a b c : E} {pa pb pc : Expr} {pos : Pos} {es : List E} {ps : List Expr}
theorem s_es0 : PA X [] (tEs X.K X.M W (evEs Γ [])) := PA.imp pa_nil fun σ H Q ⟨ρ, I, σT, h, hr, sr, n⟩ => n ρ I H .refl hr [] trivial
theorem s_es1 (ha : PE X pa (tD X.K X.M W (evE Γ a))) (hs : PA X ps (tEs X.K X.M W (evEs Γ es))) (m : notStar pa = true) : PA X (pa :: ps) (tEs X.K X.M W (evEs Γ (a :: es))) := by
  refine PA.imp (pa_cons ha hs (star_eq m)) ?_
  rintro σ H Q ⟨ρ, I, σT, h, hr, sr, n⟩
  rw [evEs] at n
  refine ⟨ρ, I, σT, h, hr, sr, n.bind.imp' fun x h1 ρ1 I1 H1 x1 r1 n0 v o1 => ?_⟩
  cases e : frz x with
  | none => have n1 := n0 ρ1 I1 H1 x1 r1; rw [e] at n1; exact n1.elim
  | some t =>
    obtain ⟨I2, x2, r2, q2⟩ := o1.keep x1 r1 e
    have n1 := n0 ρ1 I2 H1 x2 r2
    rw [e] at n1
    exact ⟨ρ1, I2, σT, h1, r2, sr.ext hr x2, n1.bind.imp fun ts h' ρ' I' H' x' r' n' vs q => n' ρ' I' H' .refl r' (v :: vs) ⟨q2.mono (x'.kp r2), q⟩⟩
theorem ROs.ext {ρ ρ' : List Addr} {I I' : Addr → Prop} {h h' : Hs} {H H' H0 : Hp} {σT : Slots} {σ : St} {K : PySem.W.Frag} {mg : Mg} (hr : HR K mg ρ I h H) (x : Ext ρ I h H ρ' I' h' H') : ∀ {vs : List V} {rs : List R}, ROs K mg ρ I h H H0 σT σ vs rs → ROs K mg ρ' I' h' H' H0 σT σ vs rs
  | [], [], _ => trivial
  | _ :: _, _ :: _, ⟨a, b⟩ => ⟨a.ext hr x, ROs.ext hr x b⟩
theorem s_rs0 : PA X [] (tRs X.K X.M W (evRs Γ [])) := PA.imp pa_nil fun σ H Q ⟨ρ, I, σT, h, hr, sr, n⟩ => n ρ I H .refl hr [] trivial
theorem s_rs1 (ha : PE X pa (tD X.K X.M W (evE Γ a))) (hs : PA X ps (tRs X.K X.M W (evRs Γ es))) (m : notStar pa = true) : PA X (pa :: ps) (tRs X.K X.M W (evRs Γ (a :: es))) := by
  refine PA.imp (pa_cons ha hs (star_eq m)) ?_
  rintro σ H Q ⟨ρ, I, σT, h, hr, sr, n⟩
  rw [evRs] at n
  refine ⟨ρ, I, σT, h, hr, sr, n.bind.imp fun x h1 ρ1 I1 H1 x1 r1 n1 v o1 => ?_⟩
  have s1 := sr.ext hr x1
  exact ⟨ρ1, I1, σT, h1, r1, s1, n1.bind.imp fun rs h' ρ' I' H' x' r' n' vs q => n' ρ' I' H' .refl r' (v :: vs) ⟨o1.ext r1 x', q.back x1.dom⟩⟩
theorem s_tup {j : Nat} (hs : PA X ps (tEs X.K X.M W (evEs Γ es))) : PE X (.Tuple ps j pos) (tD X.K X.M W (evE Γ (.tup es))) := by
  refine PE.imp (pe_tup hs) ?_
  rintro σ H Q ⟨ρ, I, σT, h, hr, sr, n⟩
  rw [evE] at n
  refine ⟨ρ, I, σT, h, hr, sr, n.bind.imp fun ts h1 ρ1 I1 H1 x1 r1 n1 vs q => ?_⟩
  split at n1
  · rename_i c
    exact ⟨by rw [q.length, sizeLine_eq]; exact c, fun p hp => n1 ρ1 (Iw I1 p) _ (ext_imm _ hp) (hr_imm _ r1 hp) (.ref p) ⟨p, vs, rfl, .inl ⟨.inr rfl, .of upd_same⟩, q.mono ((ext_imm (h := h1) _ hp).kp r1)⟩⟩
  · exact n1.elim
theorem s_lst (hs : PA X ps (tEs X.K X.M W (evEs Γ es))) : PE X (.List ps pos) (tD X.K X.M W (evE Γ (.lst es))) := by
  refine PE.imp (pe_lst hs) ?_
  rintro σ H Q ⟨ρ, I, σT, h, hr, sr, n⟩
  rw [evE] at n
  refine ⟨ρ, I, σT, h, hr, sr, n.bind.imp fun ts h1 ρ1 I1 H1 x1 r1 n1 vs q => ?_⟩
  split at n1
  · rename_i c
    refine ⟨by rw [q.length, sizeLine_eq]; exact c, fun p hp => n1 ρ1 I1 _ (ext_new _ hp) (hr_new _ r1 hp) (.ref p) ⟨p, vs, rfl, ?_, upd_same, fun z => not_none (r1.idom p z) hp, fun z => not_none (live_some r1 z) hp, q.mono (kp_new _ r1 hp)⟩⟩
    cases z : H p with
    | none => rfl
    | some _ => exact (not_none (x1.dom p (isSome_of z)) hp).elim
  · exact n1.elim
theorem s_blt (G : Gd X N Γ k W) {f : Bf} {p : Pos} (hg : glbB X.env.scope f.name = true) (hh : N.hot = false) (hs : PA X (pa :: ps) (tRs X.K X.M W (evRs Γ es))) (m : (pa :: ps).all notStar = true) : PE X (.Call (.Name f.name p) (pa :: ps) [] pos) (tD X.K X.M W (evE Γ (.blt f es))) := by
  obtain ⟨hG, hp⟩ := glb_of hg
  rw [List.all_cons] at m
  have fin : ∀ σ H Q, tD X.K X.M W (evE Γ (.blt f es)) σ H Q → tCB (rBl X.K X.M f) (tRs X.K X.M W (evRs Γ es)) σ H Q := by
    rintro σ H Q ⟨ρ, I, σT, h, hr, sr, n⟩
    rw [evE] at n
    refine ⟨ρ, I, σT, h, hr, sr, n.bind.imp fun rs h1 ρ1 I1 H1 x1 r1 n1 vs q => ?_⟩
    obtain ⟨r, er, g⟩ := n1.lift
    obtain ⟨ts, ep, er⟩ := Option.bind_eq_some_iff.mp er
    exact ⟨ρ1, I1, h1, ts, r, r1, q.pks (sr.ext hr x1) r1 ep, er, fun z H' ρ' I' x' r' o' => g ρ' I' H' x' r' z (o'.any.back fun a d => x1.dom a d)⟩
  have cs := blt_sound (mg := X.M) (G.calm hh) rfl f
  have e1 := (plain_dbg hp).1
  have e2 := star_eq (es := ps) (env := X.env) (and_tt m).1
  have e3 := star_any (env := X.env) (pos := pos) (and_tt m).2
  refine PE.imp ?_ fin
  have hm := G.bl f
  cases f with
  | len => exact pe_callB (id := "len") cs hG hm (by decide +kernel) hs (by decide) e1 e2 e3
  | abs => exact pe_callB (id := "abs") cs hG hm (by decide +kernel) hs (by decide) e1 e2 e3
  | isinstance => exact pe_callB (id := "isinstance") cs hG hm (by decide +kernel) hs (by decide) e1 e2 e3
  | max => exact pe_callB (id := "max") cs hG hm (by decide +kernel) hs (by decide) e1 e2 e3
  | min => exact pe_callB (id := "min") cs hG hm (by decide +kernel) hs (by decide) e1 e2 e3
  | sum => exact pe_callB (id := "sum") cs hG hm (by decide +kernel) hs (by decide) e1 e2 e3
  | any => exact pe_callB (id := "any") cs hG hm (by decide +kernel) hs (by decide) e1 e2 e3
  | all => exact pe_callB (id := "all") cs hG hm (by decide +kernel) hs (by decide) e1 e2 e3
  | sorted => exact pe_callB (id := "sorted") cs hG hm (by decide +kernel) hs (by decide) e1 e2 e3
  | int => exact pe_callTy (T := "int") cs hG hm (by decide +kernel) hs (by decide) e1 e2 e3
  | str => exact pe_callTy (T := "str") cs hG hm (by decide +kernel) hs (by decide) e1 e2 e3
  | tuple => exact pe_callTy (T := "tuple") cs hG hm (by decide +kernel) hs (by decide) e1 e2 e3
  | list => exact pe_callTy (T := "list") cs hG hm (by decide +kernel) hs (by decide) e1 e2 e3
/-- f() -/
theorem pe_call0SD {CX : CXT} {f : Addr} {fd : FuncData} {pn : List Str} {sp : Sp} {dvs : List V} {ds : List Value} {E : St → XK} {x : Str} {p : Pos} (F : FnOk X.prog X.w X.K X.M X.base CX k f fd pn sp) (hr : Room k X.A) (hg : Gl X x) (hm : X.mg x = some (.ref f)) (hk : PySem.W.keepIn X.K (.ref f) = true)
    (hb : Binds X.K fd pn ds) (hd : Vals dvs ds) (hx : ∀ σ, PassesAt CX X σ (E σ)) (hdb : (x == ("__debug__" : Str)) = false) : PE X (.Call (.Name x p) [] [] pos) (tCallSD sp dvs E tNil) := by
  refine ⟨fun pins s σ H Q I h => ?_⟩
  refine wpAny_Call_Name_kw (ld_glob I hg hm ?_ hdb)
  exact PySem.W.callWith_K0 I.kIn hk (run_fnSD (us := []) (vs := []) F hr hb hd (hx σ) I .nil h)
theorem s_call (G : Gd X N Γ k W) (hh : N.hot = false) {f : Nat} {x : Str} {p : Pos} (hf : f < N.n) (e : x = N.fn f) (hg : glbB X.env.scope x = true) (hs : PA X ps (tEs X.K X.M W (evEs Γ es))) (m : ps.all notStar = true) (hn : ps = [] → es = []) : PE X (.Call (.Name x p) ps [] pos) (tD X.K X.M W (evE Γ (.call f es))) := by
  subst e
  obtain ⟨hG, hp⟩ := glb_of hg
  obtain ⟨a, fd, pn, hm, hk, bd, F, hl⟩ := G.fnM hh f hf
  have fin : ∀ σ H Q, tD X.K X.M W (evE Γ (.call f es)) σ H Q → tCallSD (spD X.K X.M (Γ.call f) pn.length) [] (WE W) (tEs X.K X.M W (evEs Γ es)) σ H Q := by
    rintro σ H Q ⟨ρ, I, σT, h, hr, sr, n⟩
    rw [evE] at n
    refine ⟨ρ, I, σT, h, hr, sr, n.bind.imp fun ts h1 ρ1 I1 H1 x1 r1 n1 vs q => ?_⟩
    show spD X.K X.M (Γ.call f) pn.length (vs ++ []) H1 Q (WE W σ)
    rw [List.append_nil]
    have nb : Γ.call f ts h1 ≠ .bad := fun z => by rw [z] at n1; exact n1
    refine ⟨by rw [q.length, hl ts h1 nb], ρ1, I1, h1, ts, r1, q, ?_⟩
    cases e : Γ.call f ts h1 with
    | bad => exact (nb e).elim
    | ok r h2 =>
      rw [e] at n1
      exact fun ρ2 I2 H2 x2 r2 v o => n1 ρ2 I2 H2 x2 r2 v (o.any.back fun a d => x1.dom a d)
    | ex y h2 =>
      rw [e] at n1
      exact n1
  have hx : ∀ σ, PassesAt (CX X.prog X.w) X σ (WE W σ) := passAt G.tk
  cases ps with
  | nil =>
    refine PE.imp (pe_call0SD F (G.room hh) hG hm hk bd .nil hx (plain_dbg hp).1) fun σ H Q q => ?_
    have q' := fin σ H Q q
    obtain ⟨ρ, I, σT, h, hr, sr, n⟩ := q'
    cases hn rfl
    exact n ρ I H .refl hr [] trivial
  | cons pa ps =>
    rw [List.all_cons] at m
    exact PE.imp (pe_callSD F (G.room hh) hG hm hk bd .nil hx hs (plain_dbg hp).1 (star_eq (and_tt m).1) (star_any (and_tt m).2)) fin
/-- a call of what a slot holds -/
def tCallSL (i : Nat) (f : Addr) (sp : Sp) (dvs : List V) (E : St → XK) (t : TA) : TE := fun σ H Q => σ[i]? = some (some (.ref f)) ∧ t σ H fun vs H1 => sp (vs ++ dvs) H1 Q (E σ)
theorem pe_callSL {CX : CXT} {i : Nat} {f : Addr} {fd : FuncData} {pn : List Str} {sp : Sp} {dvs : List V} {ds : List Value} {E : St → XK} {x : Str} {p : Pos} {e : Expr} {es : List Expr} {t : TA} (F : FnOk X.prog X.w X.K X.mg X.base CX k f fd pn sp) (hr : Room k X.A) (hN : X.N[i]? = some x) (hv : Vis X.env.scope x)
    (hk : PySem.W.keepIn X.K (.ref f) = true) (hb : Binds X.K fd pn ds) (hd : Vals dvs ds) (hx : ∀ σ, PassesAt CX X σ (E σ)) (ha : PA X (e :: es) t) (hdb : (x == ("__debug__" : Str)) = false) (hcd : (x == ("__classdict__" : Str)) = false)
    (he : starEach (e :: es) X.env = (false, eval e X.env) :: starEach es X.env) (hpl : (backTo pos (starEach es X.env)).any (·.1) = false) : PE X (.Call (.Name x p) (e :: es) [] pos) (tCallSL i f sp dvs E t) := by
  refine ⟨fun pins s σ H Q I ⟨hs, ht⟩ => ?_⟩
  refine wpAny_Call_Name_kw (thn ((pe_var (pos := p) hN hv hdb hcd).run pins s σ H (fun v H1 => v = .ref f ∧ H1 = H) I ⟨.ref f, hs, rfl, rfl⟩) fun u s1 ⟨v, H1, I1, r1, e1, e2⟩ => ?_)
  subst e1 e2
  cases r1
  exact PySem.W.callWith_K (h₀ := X.base) I.ok.mod.kin hk (thn (ha.run pos pins s1 σ _ _ I1 ht) fun us s2 ⟨vs, H2, I2, r, q⟩ => ⟨I2.kIn, run_fnSD F hr hb hd (hx σ) I2 r q⟩) he hpl
theorem s_callv (G : Gd X N Γ k W) (hh : N.hot = false) {i : Nat} {x : Str} {p : Pos} (hi : X.N[i]? = some x) (hv : visB X.env.scope x = true) (hp : plainN x = true) (hs : PA X (pa :: ps) (tEs X.K X.M W (evEs Γ es))) (m : (pa :: ps).all notStar = true) :
    PE X (.Call (.Name x p) (pa :: ps) [] pos) (tD X.K X.M W (evE Γ (.callv i es))) := by
  refine ⟨fun pins s σ H Q I q => ?_⟩
  obtain ⟨ρ, I0, σT, h, hr, sr, n⟩ := q
  rw [evE] at n
  rw [List.all_cons] at m
  split at n
  · rename_i y ey
    cases e : Γ.ix y with
    | none => rw [e] at n; exact n.elim
    | some f =>
      rw [e] at n
      obtain ⟨hf, ef⟩ := G.ix y f e
      obtain ⟨a, fd, pn, hm, hk, bd, F, hl⟩ := G.fnM hh f hf
      obtain ⟨v, ev, b, rfl, eb⟩ := sr.vs i _ ey
      have eb' : X.mg y = some (.ref b) := eb
      rw [← ef, hm] at eb'
      cases eb'
      refine (pe_callSL (E := WE W) (dvs := []) F (G.room hh) hi (vis_of hv) hk bd .nil (passAt G.tk) hs (plain_dbg hp).1 (plain_dbg hp).2 (star_eq (and_tt m).1) (star_any (and_tt m).2)).run pins s σ H Q I ⟨ev, ρ, I0, σT, h, hr, sr, n.bind.imp fun ts h1 ρ1 I1 H1 x1 r1 n1 vs q => ?_⟩
      show spD X.K X.M (Γ.call f) pn.length (vs ++ []) H1 Q (WE W σ)
      rw [List.append_nil]
      have nb : Γ.call f ts h1 ≠ .bad := fun z => by rw [z] at n1; exact n1
      refine ⟨by rw [q.length, hl ts h1 nb], ρ1, I1, h1, ts, r1, q, ?_⟩
      cases e : Γ.call f ts h1 with
      | bad => exact (nb e).elim
      | ok r h2 =>
        rw [e] at n1
        exact fun ρ2 I2 H2 x2 r2 v o => n1 ρ2 I2 H2 x2 r2 v (o.any.back fun a d => x1.dom a d)
      | ex y h2 =>
        rw [e] at n1
        exact n1
  · exact n.elim
def tO (K : PySem.W.Frag) (mg : Mg) (W : WX) (f : Slots → Hs → Out (Option Int)) : TO := fun σ H Q => ∃ ρ I σT h, HR K mg ρ I h H ∧ SR K mg ρ I h H σT σ ∧
  Nx K mg W σ ρ I h H (f σT h) fun o h' ρ' I' H' => Q o H'
theorem PO.imp {e : Option Expr} {t t' : TO} (p : PO X e t) (f : ∀ σ H Q, t' σ H Q → t σ H Q) : PO X e t' := by
  constructor
  intros
  apply p.run <;> first | assumption | (apply f; assumption)
theorem s_o0 : PO X none (tO X.K X.M W (evO Γ .no)) := PO.imp po_none fun σ H Q ⟨ρ, I, σT, h, hr, sr, n⟩ => n ρ I H .refl hr
theorem s_o1 (ha : PE X pa (tD X.K X.M W (evE Γ a))) : PO X (some pa) (tO X.K X.M W (evO Γ (.at a))) := by
  refine PO.imp (po_some ha) ?_
  rintro σ H Q ⟨ρ, I, σT, h, hr, sr, n⟩
  rw [evO] at n
  refine ⟨ρ, I, σT, h, hr, sr, n.bind.imp fun x h1 ρ1 I1 H1 x1 r1 n1 v o1 => ?_⟩
  split at n1
  · rename_i i
    exact ⟨i, o1, n1 ρ1 I1 H1 .refl r1⟩
  · exact n1.elim
theorem s_sl {lo hi : O} {pl pu : Option Expr} {p2 : Pos} (ha : PE X pa (tD X.K X.M W (evE Γ a))) (hl : PO X pl (tO X.K X.M W (evO Γ lo))) (hu : PO X pu (tO X.K X.M W (evO Γ hi))) : PE X (.Subscript pa (.Slice pl pu none p2) pos) (tD X.K X.M W (evE Γ (.sl a lo hi))) := by
  refine PE.imp (pe_slice (sl_sound (mg := X.M) rfl) ha hl hu) ?_
  rintro σ H Q ⟨ρ, I, σT, h, hr, sr, n⟩
  rw [evE] at n
  refine ⟨ρ, I, σT, h, hr, sr, n.bind.imp fun x h1 ρ1 I1 H1 x1 r1 n1 v o1 => ?_⟩
  have s1 := sr.ext hr x1
  refine ⟨ρ1, I1, σT, h1, r1, s1, n1.bind.imp fun l h2 ρ2 I2 H2 x2 r2 n2 => ?_⟩
  have s2 := s1.ext r1 x2
  refine ⟨ρ2, I2, σT, h2, r2, s2, n2.bind.imp fun u h3 ρ3 I3 H3 x3 r3 n3 => ?_⟩
  cases e : peek σT h3 x with
  | none => rw [e] at n3; exact n3.elim
  | some t =>
    rw [e] at n3
    obtain ⟨r, er, g⟩ := n3.lift
    exact ⟨ρ3, I3, h3, t, r, r3, ((o1.ext r1 x2).ext r2 x3).pk (s2.ext r2 x3) r3 e, er, fun z H' ρ' I' x' r' o' => g ρ' I' H' x' r' z (o'.any.back fun a d => x3.dom a (x2.dom a (x1.dom a d)))⟩
theorem s_ife {c : C} (hc : PT X pc (tB X.K X.M W (evC Γ c))) (ha : PE X pa (tD X.K X.M W (evE Γ a))) (hb : PE X pb (tD X.K X.M W (evE Γ b))) : PE X (.IfExp pc pa pb pos) (tD X.K X.M W (evE Γ (.ife c a b))) := by
  refine PE.imp (pe_ifExp hc ha hb) ?_
  rintro σ H Q ⟨ρ, I, σT, h, hr, sr, n⟩
  rw [evE] at n
  refine ⟨ρ, I, σT, h, hr, sr, n.bind.imp fun k h1 ρ1 I1 H1 x1 r1 n1 => ?_⟩
  have s1 := sr.ext hr x1
  have fin : ∀ e, Nx X.K X.M W σ ρ1 I1 h1 H1 (evE Γ e σT h1) (fun r h' ρ' I' H' => ∀ v, RO X.K X.M ρ' I' h' H' H σT σ v r → Q v H') → tD X.K X.M W (evE Γ e) σ H1 Q := fun e n1 =>
    ⟨ρ1, I1, σT, h1, r1, s1, n1.imp fun r h' ρ' I' H' x' r' n' v o => n' v (o.back x1.dom)⟩
  cases k with
  | true => exact fin a n1
  | false => exact fin b n1
theorem s_b1 {op : BoolOp} (ha : PE X pa (tD X.K X.M W (evE Γ a))) : PE X (.BoolOp op [pa] pos) (tD X.K X.M W (evB Γ op [a])) := pe_one ha
theorem s_b2 {op : BoolOp} {e : E} {pe : Expr} (ha : PE X pa (tD X.K X.M W (evE Γ a))) (hs : PE X (.BoolOp op (pe :: ps) pos) (tD X.K X.M W (evB Γ op (e :: es)))) : PE X (.BoolOp op (pa :: pe :: ps) pos) (tD X.K X.M W (evB Γ op (a :: e :: es))) := by
  have core : ∀ σ H Q, tD X.K X.M W (evB Γ op (a :: e :: es)) σ H Q → tD X.K X.M W (evE Γ a) σ H fun x H1 => ∃ k, TruV X.K x H1 k ∧ if k == (op == .Or) then Q x H1 else tD X.K X.M W (evB Γ op (e :: es)) σ H1 Q := by
    rintro σ H Q ⟨ρ, I, σT, h, hr, sr, n⟩
    have n' : Nx X.K X.M W σ ρ I h H ((evE Γ a σT h).bind fun x h1 => (truL σT x h1).bind fun k h2 => if k == (op == .Or) then .ok x h2 else evB Γ op (e :: es) σT h2) _ := n
    refine ⟨ρ, I, σT, h, hr, sr, n'.bind.imp fun x h1 ρ1 I1 H1 x1 r1 n1 v o1 => ?_⟩
    have s1 := sr.ext hr x1
    obtain ⟨k, tv, n2⟩ := tru_n n1.bind o1 s1 r1
    refine ⟨k, tv, ?_⟩
    have n3 := n2 ρ1 I1 H1 .refl r1
    split
    · rename_i z; simp only [if_pos z] at n3; exact n3 ρ1 I1 H1 .refl r1 v o1
    · rename_i z; simp only [if_neg z] at n3
      exact ⟨ρ1, I1, σT, h1, r1, s1, n3.imp fun r h' ρ' I' H' x' r' n' v o => n' v (o.back x1.dom)⟩
  cases op with
  | And =>
    refine PE.imp (pe_andT ha hs) fun σ H Q q => ?_
    obtain ⟨ρ, I, σT, h, hr, sr, n⟩ := core σ H Q q
    refine ⟨ρ, I, σT, h, hr, sr, n.imp fun r h' ρ' I' H' x' r' n' v o => ?_⟩
    obtain ⟨k, tv, q⟩ := n' v o
    refine ⟨k, tv, ?_⟩
    cases k with
    | true => exact q
    | false => exact q
  | Or =>
    refine PE.imp (pe_orT ha hs) fun σ H Q q => ?_
    obtain ⟨ρ, I, σT, h, hr, sr, n⟩ := core σ H Q q
    refine ⟨ρ, I, σT, h, hr, sr, n.imp fun r h' ρ' I' H' x' r' n' v o => ?_⟩
    obtain ⟨k, tv, q⟩ := n' v o
    refine ⟨k, tv, ?_⟩
    cases k with
    | true => exact q
    | false => exact q
theorem s_t (ha : PE X pa (tD X.K X.M W (evE Γ a))) (m : plainT pa = true) : PT X pa (tB X.K X.M W (evC Γ (.t a))) := by
  refine PT.imp (pt_truth ha (plain_true m)) ?_
  rintro σ H Q ⟨ρ, I, σT, h, hr, sr, n⟩
  rw [evC] at n
  refine ⟨ρ, I, σT, h, hr, sr, n.bind.imp fun x h1 ρ1 I1 H1 x1 r1 n1 v o1 => ?_⟩
  obtain ⟨b, tv, n2⟩ := tru_n n1 o1 (sr.ext hr x1) r1
  exact ⟨b, tv, n2 ρ1 I1 H1 .refl r1⟩
/-- a test that gives a truth -/
theorem t_bl {σ : St} {H : Hp} {Q : Bool → Hp → Prop} {e : E} (q : tB X.K X.M W (evC Γ (.t e)) σ H Q) : tD X.K X.M W (evE Γ e) σ H fun v H' => ∀ k, v = .bl k → Q k H' := by
  obtain ⟨ρ, I, σT, h, hr, sr, n⟩ := q
  rw [evC] at n
  refine ⟨ρ, I, σT, h, hr, sr, n.bind.imp fun x h1 ρ1 I1 H1 x1 r1 n1 v o1 k e => ?_⟩
  obtain ⟨b, tv, n2⟩ := tru_n n1 o1 (sr.ext hr x1) r1
  subst e
  cases (show b = k from tv)
  exact n2 ρ1 I1 H1 .refl r1
theorem s_tcmp (G : Gd X N Γ k W) (op : CmpOp) (ha : PE X pa (tD X.K X.M W (evE Γ a))) (hb : PE X pb (tD X.K X.M W (evE Γ b))) (m : notSet pb = true) : PT X (.Compare pa [op] [pb] pos) (tB X.K X.M W (evC Γ (.t (.cmp op a b)))) := by
  refine PT.imp (pt_cmpR (cmp_sound (mg := X.M) rfl rfl G.hu op) ha hb (not_marks m)) fun σ H Q q => ?_
  have q2 := s_cmp G op ha hb (t_bl q)
  obtain ⟨ρ, I, σT, h, hr, sr, n⟩ := q2
  refine ⟨ρ, I, σT, h, hr, sr, n.imp fun r h' ρ' I' H' x' r' n' v o => ?_⟩
  obtain ⟨ρ1, I1, σ1, h1, hr1, sr1, n1⟩ := n' v o
  refine ⟨ρ1, I1, σ1, h1, hr1, sr1, n1.imp fun r h' ρ' I' H' x' r' n' v o => ?_⟩
  obtain ⟨ρ2, I2, h2, t, u, k, a1, a2, a3, a4, ⟨k', e⟩, a5⟩ := n' v o
  exact ⟨ρ2, I2, h2, t, u, k, a1, a2, a3, a4, k, rfl, a5 k rfl⟩
theorem chain_imp {r r' : R2} {ta tb tc : TE} {σ : St} {H : Hp} {Q Q' : VK} (ma : ∀ H Q Q', (∀ v H', Q v H' → Q' v H') → ta σ H Q → ta σ H Q') (mb : ∀ H Q Q', (∀ v H', Q v H' → Q' v H') → tb σ H Q → tb σ H Q') (mc : ∀ H Q Q', (∀ v H', Q v H' → Q' v H') → tc σ H Q → tc σ H Q')
    (mr : ∀ x y H Q Q', (∀ v H', Q v H' → Q' v H') → r x y H Q → r x y H Q') (mr' : ∀ x y H Q Q', (∀ v H', Q v H' → Q' v H') → r' x y H Q → r' x y H Q') (f : ∀ v H', Q v H' → Q' v H') (q : tChain r r' ta tb tc σ H Q) : tChain r r' ta tb tc σ H Q' := by
  refine ma _ _ _ (fun x H1 q => mb _ _ _ (fun y H2 q => mr _ _ _ _ _ (fun z H3 q => ?_) q) q) q
  obtain ⟨k, e, q⟩ := q
  refine ⟨k, e, ?_⟩
  cases k with
  | true => exact mc _ _ _ (fun w H4 q => mr' _ _ _ _ _ f q) q
  | false => exact f _ _ q
theorem tD_imp {f : Slots → Hs → Out R} {σ : St} (H : Hp) (Q Q' : VK) (g : ∀ v H', Q v H' → Q' v H') (q : tD X.K X.M W f σ H Q) : tD X.K X.M W f σ H Q' := by
  obtain ⟨ρ, I, σT, h, hr, sr, n⟩ := q
  exact ⟨ρ, I, σT, h, hr, sr, n.imp fun r h' ρ' I' H' x' r' n' v o => g _ _ (n' v o)⟩
theorem rCmp_imp {op : CmpOp} (x y : V) (H : Hp) (Q Q' : VK) (g : ∀ v H', Q v H' → Q' v H') (q : rCmp X.K X.M op x y H Q) : rCmp X.K X.M op x y H Q' := by
  obtain ⟨ρ2, I2, h2, t, u, k, a1, a2, a3, a4, a5⟩ := q
  exact ⟨ρ2, I2, h2, t, u, k, a1, a2, a3, a4, g _ _ a5⟩
theorem s_tch (G : Gd X N Γ k W) (op op' : CmpOp) (ha : PE X pa (tD X.K X.M W (evE Γ a))) (hb : PE X pb (tD X.K X.M W (evE Γ b))) (hc : PE X pc (tD X.K X.M W (evE Γ c))) (m : notSet pc = true) :
    PT X (.Compare pa [op, op'] [pb, pc] pos) (tB X.K X.M W (evC Γ (.t (.ch op op' a b c)))) := by
  refine PT.imp (pt_chain (cmp_sound (mg := X.M) rfl rfl G.hu op) (cmp_sound (mg := X.M) rfl rfl G.hu op') ha hb hc (show behindInMarks op' pc = false from not_marks m)) fun σ H Q q => ?_
  refine chain_imp tD_imp tD_imp tD_imp rCmp_imp rCmp_imp ?_ (s_ch G op op' (t_bl q))
  rintro v H' ⟨⟨k, rfl⟩, z⟩
  exact ⟨k, rfl, z k rfl⟩
theorem s_tnot {c : C} (hc : PT X pc (tB X.K X.M W (evC Γ c))) : PT X (.UnaryOp .Not pc pos) (tB X.K X.M W (evC Γ (.not c))) := by
  refine PT.imp (pt_not hc) ?_
  rintro σ H Q ⟨ρ, I, σT, h, hr, sr, n⟩
  rw [evC] at n
  exact ⟨ρ, I, σT, h, hr, sr, n.bind.imp fun b h' ρ' I' H' x' r' n' => n' ρ' I' H' .refl r'⟩
theorem s_tb1 {op : BoolOp} {c : C} (hc : PT X pc (tB X.K X.M W (evC Γ c))) : PW X (.BoolOp op [pc] pos) (tB X.K X.M W (evCs Γ op [c])) := by
  cases op with
  | And => exact pw_and1 hc
  | Or => exact pw_or1 hc
theorem s_tb2 {op : BoolOp} {c d : C} {cs : List C} {pd : Expr} (hc : PT X pc (tB X.K X.M W (evC Γ c))) (hs : PW X (.BoolOp op (pd :: ps) pos) (tB X.K X.M W (evCs Γ op (d :: cs)))) : PW X (.BoolOp op (pc :: pd :: ps) pos) (tB X.K X.M W (evCs Γ op (c :: d :: cs))) := by
  have core : ∀ σ H Q, tB X.K X.M W (evCs Γ op (c :: d :: cs)) σ H Q → tB X.K X.M W (evC Γ c) σ H fun k H1 => if k == (op == .Or) then Q k H1 else tB X.K X.M W (evCs Γ op (d :: cs)) σ H1 Q := by
    rintro σ H Q ⟨ρ, I, σT, h, hr, sr, n⟩
    have n' : Nx X.K X.M W σ ρ I h H ((evC Γ c σT h).bind fun k h1 => if k == (op == .Or) then .ok k h1 else evCs Γ op (d :: cs) σT h1) _ := n
    refine ⟨ρ, I, σT, h, hr, sr, n'.bind.imp fun k h1 ρ1 I1 H1 x1 r1 n1 => ?_⟩
    by_cases z : (k == (op == BoolOp.Or)) = true
    · simp only [if_pos z] at n1 ⊢; exact n1 ρ1 I1 H1 .refl r1
    · simp only [if_neg z] at n1 ⊢; exact ⟨ρ1, I1, σT, h1, r1, sr.ext hr x1, n1⟩
  cases op with
  | And =>
    refine PW.imp (pw_and hc hs) fun σ H Q q => ?_
    obtain ⟨ρ, I, σT, h, hr, sr, n⟩ := core σ H Q q
    refine ⟨ρ, I, σT, h, hr, sr, n.imp fun k h' ρ' I' H' x' r' n' => ?_⟩
    cases k with
    | true => exact n'
    | false => exact n'
  | Or =>
    refine PW.imp (pw_or hc hs) fun σ H Q q => ?_
    obtain ⟨ρ, I, σT, h, hr, sr, n⟩ := core σ H Q q
    refine ⟨ρ, I, σT, h, hr, sr, n.imp fun k h' ρ' I' H' x' r' n' => ?_⟩
    cases k with
    | true => exact n'
    | false => exact n'
end
end VY
namespace VY
open PySem PySem.Spec
open PyProof.Rows hiding St
open L2
theorem lift_inv {K : PySem.W.Frag} {mg : Mg} {W : WX} {σ : St} {ρ : List Addr} {I : Addr → Prop} {h h1 : Hs} {H : Hp} {α : Type} {o : Option α} {k : α → Hs → List Addr → (Addr → Prop) → Hp → Prop} (n : Nx K mg W σ ρ I h H (lift o h1) k) :
    ∃ a, o = some a ∧ ∀ ρ' I' H', Ext ρ I h H ρ' I' h1 H' → HR K mg ρ' I' h1 H' → k a h1 ρ' I' H' := by
  cases o with
  | some a => exact ⟨a, rfl, n⟩
  | none => exact n.elim
/-- how a walk goes while C holds of the state -/
structure Wk (K : PySem.W.Frag) (mg : Mg) (ts : List T) (C : List Addr → (Addr → Prop) → Hs → Hp → Prop) (J : L2.It) : Prop where
  go : ∀ i ρ I h H, i < ts.length → C ρ I h H → J.go i H
  yld : ∀ i x ρ I h H H'', HR K mg ρ I h H → C ρ I h H → i < ts.length → J.yld i H x H'' → ∃ I2 t, Ext ρ I h H ρ I2 h H'' ∧ HR K mg ρ I2 h H'' ∧ ts[i]? = some t ∧ Rep K mg ρ I2 H'' x t
  stop : ∀ ρ I h H, C ρ I h H → J.stop ts.length H
def Stay (K : PySem.W.Frag) (mg : Mg) (own : Bool) (g : Option (Nat × HOb)) (ρ : List Addr) (I : Addr → Prop) (h : Hs) (H : Hp) (C : List Addr → (Addr → Prop) → Hs → Hp → Prop) : Prop :=
  if own = true then ∀ ρ2 I2 h2 H2, Ext ρ I h H ρ2 I2 h2 H2 → HR K mg ρ2 I2 h2 H2 → gdB g h2 = true → C ρ2 I2 h2 H2 else ∀ ρ2 I2 h2 H2, Kp ρ I H ρ2 I2 H2 → HR K mg ρ2 I2 h2 H2 → gdB g h2 = true → C ρ2 I2 h2 H2
def tIt (K : PySem.W.Frag) (mg : Mg) (W : WX) (own : Bool) (f : Slots → Hs → Out Itm) : TI := fun σ H Q => ∃ ρ I σT h, HR K mg ρ I h H ∧ SR K mg ρ I h H σT σ ∧
  Nx K mg W σ ρ I h H (f σT h) fun p h' ρ' I' H' => ∀ (J : L2.It) (C : List Addr → (Addr → Prop) → Hs → Hp → Prop), Stay K mg own p.g ρ' I' h' H' C → Wk K mg p.ts C J → Q J H'
theorem PI.imp {X : Cx} {tg e : Expr} {t t' : TI} (p : PI X tg e t) (f : ∀ σ H Q, t' σ H Q → t σ H Q) : PI X tg e t' := ⟨fun pins s σ H Q I h => p.run pins s σ H Q I (f σ H Q h)⟩
theorem PI.or {X : Cx} {tg e : Expr} {t t' : TI} (p : PI X tg e t) (q : PI X tg e t') : PI X tg e fun σ H Q => t σ H Q ∨ t' σ H Q :=
  ⟨fun pins s σ H Q I h => h.elim (p.run pins s σ H Q I) (q.run pins s σ H Q I)⟩
section
variable {K : PySem.W.Frag} {mg : Mg} {ρ : List Addr} {I : Addr → Prop} {h : Hs} {H : Hp} {ts : List T} {vs : List V} {a : Addr}
theorem sql_inj {xs ys : List V} (h1 : SqL K H a xs) (h2 : H a = some (.lst ys)) (hK : ∀ o, K.lookup a = some o → H a = none) : xs = ys := by
  rcases h1 with (h1 | ⟨o, h1⟩) | ⟨o, its, n, h1, _⟩
  · rw [h2] at h1; injection h1 with h1; injection h1 with h1; exact h1.symm
  · rw [h2] at h1; injection h1 with h1; cases h1
  · rw [hK o h1] at h2; cases h2
/-- a list walked -/
theorem wk_list : Wk K mg ts (fun ρ' I' _ H' => ∃ vs, SqL K H' a vs ∧ Reps K mg ρ' I' H' vs ts) (Itl K a) where
  go := fun i ρ I h H' hi ⟨vs, c, q⟩ => ⟨vs, vs[i]'(by rw [q.length]; exact hi), c, List.getElem?_eq_getElem _⟩
  yld := fun i x ρ I h H' H'' hr ⟨vs, c, q⟩ hi y => by
    obtain ⟨e, y⟩ := y
    obtain ⟨t, e1, r⟩ := q.getV (y vs c)
    subst e
    exact ⟨I, t, .refl, hr, e1, r⟩
  stop := fun ρ I h H' ⟨vs, c, q⟩ => ⟨vs, c, by rw [q.length]; exact Nat.le_refl _⟩
theorem wk_tup : Wk K mg ts (fun ρ' I' _ H' => ∃ vs, SqT K H' a vs ∧ Reps K mg ρ' I' H' vs ts) (Itt K a) where
  go := fun i ρ I h H' hi ⟨vs, c, q⟩ => ⟨vs, vs[i]'(by rw [q.length]; exact hi), c, List.getElem?_eq_getElem _⟩
  yld := fun i x ρ I h H' H'' hr ⟨vs, c, q⟩ hi y => by
    obtain ⟨e, y⟩ := y
    obtain ⟨t, e1, r⟩ := q.getV (y vs c)
    subst e
    exact ⟨I, t, .refl, hr, e1, r⟩
  stop := fun ρ I h H' ⟨vs, c, q⟩ => ⟨vs, c, by rw [q.length]; exact Nat.le_refl _⟩
theorem wk_rng {lo : Int} {n : Nat} : Wk K mg ((List.range n).map fun (k : Nat) => T.int (lo + (k : Int))) (fun _ _ _ _ => True) (Itr lo n) where
  go := fun i ρ I h H' hi _ => by show i < n; simpa using hi
  yld := fun i x ρ I h H' H'' hr _ hi y => by
    obtain ⟨e, rfl⟩ := y
    have hi' : i < n := by simpa using hi
    subst e
    exact ⟨I, .int (lo + i), .refl, hr, by simp [hi'], rfl⟩
  stop := fun ρ I h H' _ => by show n ≤ _; simp
theorem wk_str {z : Str} : Wk K mg (z.cps.toList.map fun c => T.str ⟨#[c]⟩) (fun _ _ _ _ => True) (Its z) where
  go := fun i ρ I h H' hi _ => by show i < z.cps.size; simpa using hi
  yld := fun i x ρ I h H' H'' hr _ hi y => by
    obtain ⟨e, c, hc, rfl⟩ := y
    subst e
    refine ⟨I, .str ⟨#[c]⟩, .refl, hr, ?_, rfl⟩
    rw [List.getElem?_map, Array.getElem?_toList, hc]
    rfl
  stop := fun ρ I h H' _ => by show z.cps.size ≤ _; simp
theorem repD_key : ∀ {vs : List (Key × V)} {l : List (Key × T)} {i : Nat} {k : Key} {v : V}, RepD K mg ρ I H vs l → vs[i]? = some (k, v) → (l.map fun kv => keyU kv.1)[i]? = some (keyU k)
  | [], [], _, _, _, _, e => by simp at e
  | p :: _, (k', t) :: _, 0, k, v, ⟨e1, _, _⟩, e => by
    simp at e
    subst e
    simp only at e1
    subst e1
    rfl
  | _ :: _, (_, _) :: _, i + 1, k, v, ⟨_, _, b⟩, e => by
    have := repD_key (i := i) b (by simpa using e)
    simpa using this
theorem repD_length : ∀ {vs : List (Key × V)} {l : List (Key × T)}, RepD K mg ρ I H vs l → vs.length = l.length
  | [], [], _ => rfl
  | _ :: _, (_, _) :: _, ⟨_, _, b⟩ => congrArg (· + 1) (repD_length b)
theorem wk_keys {o : Obj} {ws : List (Key × V)} {l : List (Key × T)} {ρ0 : List Addr} {I0 : Addr → Prop} {H0 : Hp} (q : RepD K mg ρ0 I0 H0 ws l) : Wk K mg (l.map fun kv => keyU kv.1) (fun _ _ _ H' => H' a = some (.frz o (.dK ws))) (Itk a o ws) where
  go := fun i ρ I h H' hi c => ⟨c, by rw [repD_length q]; simpa using hi⟩
  yld := fun i x ρ I h H' H'' hr c hi y => by
    obtain ⟨e, k, v, hk, rfl⟩ := y
    subst e
    refine ⟨I, keyU k, .refl, hr, repD_key q hk, ?_⟩
    cases k <;> rfl
  stop := fun ρ I h H' c => ⟨c, by rw [repD_length q]; simp⟩
theorem num_get {ts : List T} {i : Nat} {t : T} (e : ts[i]? = some t) : (numT ts)[i]? = some (.tup [.int (i : Nat), t]) := by
  unfold numT
  rw [List.getElem?_map, List.getElem?_zipIdx, e]
  simp
theorem num_len {ts : List T} : (numT ts).length = ts.length := by unfold numT; simp
theorem wk_enL : Wk K mg (numT ts) (fun ρ' I' _ H' => ∃ vs, SqL K H' a vs ∧ Reps K mg ρ' I' H' vs ts) (Ite K a) where
  go := fun i ρ I h H' hi ⟨vs, c, q⟩ => ⟨vs, vs[i]'(by rw [q.length]; rw [num_len] at hi; exact hi), c, List.getElem?_eq_getElem _⟩
  yld := fun i x ρ I h H' H'' hr ⟨vs, c, q⟩ hi y => by
    obtain ⟨p, x, rfl, hp, e, y⟩ := y
    obtain ⟨t, e1, r⟩ := q.getV (y vs c)
    subst e
    exact ⟨Iw I p, .tup [.int (i : Nat), t], ext_imm _ hp, hr_imm _ hr hp, num_get e1, p, [.int (i : Nat), x], rfl, .inl ⟨.inr rfl, .of upd_same⟩, rfl, r.mono ((ext_imm (h := h) _ hp).kp hr), trivial⟩
  stop := fun ρ I h H' ⟨vs, c, q⟩ => ⟨vs, c, by rw [q.length, num_len]; exact Nat.le_refl _⟩
theorem wk_enT : Wk K mg (numT ts) (fun ρ' I' _ H' => ∃ vs, SqT K H' a vs ∧ Reps K mg ρ' I' H' vs ts) (ItE K a) where
  go := fun i ρ I h H' hi ⟨vs, c, q⟩ => ⟨vs, vs[i]'(by rw [q.length]; rw [num_len] at hi; exact hi), c, List.getElem?_eq_getElem _⟩
  yld := fun i x ρ I h H' H'' hr ⟨vs, c, q⟩ hi y => by
    obtain ⟨p, x, rfl, hp, e, y⟩ := y
    obtain ⟨t, e1, r⟩ := q.getV (y vs c)
    subst e
    exact ⟨Iw I p, .tup [.int (i : Nat), t], ext_imm _ hp, hr_imm _ hr hp, num_get e1, p, [.int (i : Nat), x], rfl, .inl ⟨.inr rfl, .of upd_same⟩, rfl, r.mono ((ext_imm (h := h) _ hp).kp hr), trivial⟩
  stop := fun ρ I h H' ⟨vs, c, q⟩ => ⟨vs, c, by rw [q.length, num_len]; exact Nat.le_refl _⟩
theorem stay_true (own : Bool) (g : Option (Nat × HOb)) : Stay K mg own g ρ I h H fun _ _ _ _ => True := by
  unfold Stay; split
  · exact fun _ _ _ _ _ _ _ => trivial
  · exact fun _ _ _ _ _ _ _ => trivial
/-- what I holds stays -/
theorem stay_I {own : Bool} {g : Option (Nat × HOb)} {C : List Addr → (Addr → Prop) → Hs → Hp → Prop} (r : HR K mg ρ I h H) (c : ∀ ρ2 I2 h2 H2, Kp ρ I H ρ2 I2 H2 → HR K mg ρ2 I2 h2 H2 → gdB g h2 = true → C ρ2 I2 h2 H2) : Stay K mg own g ρ I h H C := by
  unfold Stay; split
  · exact fun ρ2 I2 h2 H2 x => c ρ2 I2 h2 H2 (x.kp r)
  · exact c
theorem stay_L {own : Bool} {g : Option (Nat × HOb)} (r : HR K mg ρ I h H) (s : (I a ∧ Rd H a (.lst vs)) ∨ StL K a vs) (w : Reps K mg ρ I H vs ts) : Stay K mg own g ρ I h H fun ρ' I' _ H' => ∃ vs, SqL K H' a vs ∧ Reps K mg ρ' I' H' vs ts :=
  stay_I r fun ρ2 I2 h2 H2 k _ _ => ⟨vs, s.elim (fun u => .inl (Rd.keep (k.keep a u.1) u.2)) .inr, w.mono k⟩
theorem stay_T {own : Bool} {g : Option (Nat × HOb)} (r : HR K mg ρ I h H) (s : (I a ∧ Rd H a (.tup vs)) ∨ StT K a vs) (w : Reps K mg ρ I H vs ts) : Stay K mg own g ρ I h H fun ρ' I' _ H' => ∃ vs, SqT K H' a vs ∧ Reps K mg ρ' I' H' vs ts :=
  stay_I r fun ρ2 I2 h2 H2 k _ _ => ⟨vs, s.elim (fun u => .inl (Rd.keep (k.keep a u.1) u.2)) .inr, w.mono k⟩
/-- an object of the heap, looked at in each turn -/
theorem stay_G {own : Bool} {n : Nat} {l : List T} (r : HR K mg ρ I h H) (e : ρ[n]? = some a) : Stay K mg own (some (n, .lst l)) ρ I h H fun ρ' I' _ H' => ∃ vs, SqL K H' a vs ∧ Reps K mg ρ' I' H' vs l :=
  stay_I r fun ρ2 I2 h2 H2 k r2 g => by
    unfold gdB at g
    simp only [] at g
    split at g
    · rename_i o eo
      have := HOb.beq_eq g
      subst this
      obtain ⟨vs, p, w⟩ := r2.obj n _ a eo (k.pre _ _ e)
      exact ⟨vs, SqL.of p, w⟩
    · cases g
end
section
variable {X : Cx} {N : Nms} {Γ : Ctx} {k : Nat} {W : WX} {a b c : E} {pa pb pc tg : Expr} {pos : Pos} {es : List E} {ps : List Expr} {own : Bool}
/-- a list that nobody changes meanwhile -/
theorem stay_O {K : PySem.W.Frag} {mg : Mg} {ρ : List Addr} {I : Addr → Prop} {h : Hs} {H : Hp} {a : Addr} {vs : List V} {l : List T} (r : HR K mg ρ I h H) (p : H a = some (.lst vs)) (nl : ¬ Live ρ h a) (w : Reps K mg ρ I H vs l) :
    Stay K mg true none ρ I h H fun ρ' I' _ H' => ∃ vs, SqL K H' a vs ∧ Reps K mg ρ' I' H' vs l := by
  unfold Stay
  rw [if_pos rfl]
  exact fun ρ2 I2 h2 H2 x _ _ => ⟨vs, SqL.of ((x.keep a (isSome_of p) nl).trans p), w.mono (x.kp r)⟩
theorem s_ite (ha : PE X pa (tD X.K X.M W (evE Γ a))) : PI X tg pa (tIt X.K X.M W own (evIt Γ own (.e a))) := by
  refine PI.imp (PI.or (pi_list ha) (PI.or (pi_tup ha) (PI.or (pi_str ha) (pi_keys ha)))) ?_
  rintro σ H Q ⟨ρ, I, σT, h, hr, sr, n⟩
  have n' : Nx X.K X.M W σ ρ I h H ((evE Γ a σT h).bind fun r h1 => lift (walkL own σT h1 r) h1) _ := n
  cases e : evE Γ a σT h with
  | bad => rw [e] at n'; exact n'.elim
  | ex y h1 => rw [e] at n'; exact .inl ⟨ρ, I, σT, h, hr, sr, by rw [e]; exact n'⟩
  | ok r h1 =>
    rw [e, Out.bind_ok] at n'
    obtain ⟨p, ep, g⟩ := lift_inv n'
    cases r with
    | al l =>
      cases ep
      refine .inl ⟨ρ, I, σT, h, hr, sr, ?_⟩
      rw [e]
      intro ρ1 I1 H1 x1 r1 v o
      cases own with
      | true =>
        obtain ⟨a, vs, rfl, z, q, ni, nl, w⟩ := o
        exact ⟨a, rfl, ⟨vs, SqL.of q⟩, g ρ1 I1 H1 x1 r1 _ _ (stay_O r1 q nl w) wk_list⟩
      | false =>
        obtain ⟨I2, x2, r2, q⟩ := o.keep x1 r1 (show frz (.al l) = some (.lst l) from rfl)
        obtain ⟨a, vs, rfl, i, q, w⟩ := q
        exact ⟨a, rfl, ⟨vs, SqL.of q⟩, g ρ1 I2 H1 x2 r2 _ _ (stay_L r2 (.inl ⟨i, .of q⟩) w) wk_list⟩
    | bw j =>
      cases own with
      | false => cases ep
      | true =>
        have ep' : (match σT[j]? with | some (some (.al l)) => some (⟨l, none⟩ : Itm) | _ => none) = some p := ep
        split at ep'
        · rename_i l y
          cases ep'
          refine .inl ⟨ρ, I, σT, h, hr, sr, ?_⟩
          rw [e]
          intro ρ1 I1 H1 x1 r1 v o
          obtain ⟨a, vs, q', z, ni, nl, w⟩ := (sr.ext hr x1).als j l y
          obtain ⟨q, _⟩ := o
          rw [q] at q'
          cases q'
          exact ⟨a, rfl, ⟨vs, SqL.of z⟩, g ρ1 I1 H1 x1 r1 _ _ (stay_O r1 z nl w) wk_list⟩
        · cases ep'
    | v t =>
      have ep' : walkT h1 t = some p := by cases own <;> exact ep
      cases t with
      | ref n =>
        unfold walkT at ep'
        simp only [] at ep'
        split at ep'
        · rename_i l el
          cases ep'
          refine .inl ⟨ρ, I, σT, h, hr, sr, ?_⟩
          rw [e]
          intro ρ1 I1 H1 x1 r1 v o
          obtain ⟨a, rfl, ea⟩ := (show ∃ a, v = .ref a ∧ ρ1[n]? = some a from o)
          obtain ⟨vs, z, w⟩ := r1.obj n _ a el ea
          exact ⟨a, rfl, ⟨vs, SqL.of z⟩, g ρ1 I1 H1 x1 r1 _ _ (stay_G r1 ea) wk_list⟩
        · cases ep'
      | lst l =>
        cases ep'
        refine .inl ⟨ρ, I, σT, h, hr, sr, ?_⟩
        rw [e]
        intro ρ1 I1 H1 x1 r1 v o
        obtain ⟨a, vs, rfl, i, q, w⟩ := o
        exact ⟨a, rfl, ⟨vs, SqL.of q⟩, g ρ1 I1 H1 x1 r1 _ _ (stay_L r1 (.inl ⟨i, .of q⟩) w) wk_list⟩
      | slst l =>
        cases ep'
        refine .inl ⟨ρ, I, σT, h, hr, sr, ?_⟩
        rw [e]
        intro ρ1 I1 H1 x1 r1 v o
        obtain ⟨a, vs, rfl, s, w⟩ := o
        exact ⟨a, rfl, ⟨vs, seq_of s⟩, g ρ1 I1 H1 x1 r1 _ _ (stay_L r1 s w) wk_list⟩
      | tup l =>
        cases ep'
        refine .inr (.inl ⟨ρ, I, σT, h, hr, sr, ?_⟩)
        rw [e]
        intro ρ1 I1 H1 x1 r1 v o
        obtain ⟨a, vs, rfl, s, w⟩ := o
        exact ⟨a, rfl, ⟨vs, seqT_of s⟩, g ρ1 I1 H1 x1 r1 _ _ (stay_T r1 s w) wk_tup⟩
      | str z =>
        cases ep'
        refine .inr (.inr (.inl ⟨ρ, I, σT, h, hr, sr, ?_⟩))
        rw [e]
        intro ρ1 I1 H1 x1 r1 v o
        exact ⟨z, o, g ρ1 I1 H1 x1 r1 _ _ (stay_true own _) wk_str⟩
      | dct l =>
        cases ep'
        refine .inr (.inr (.inr ⟨ρ, I, σT, h, hr, sr, ?_⟩))
        rw [e]
        intro ρ1 I1 H1 x1 r1 v o
        obtain ⟨a, ob, vs, rfl, i, q, w⟩ := o
        exact ⟨a, ob, rfl, .inl ⟨vs, q, g ρ1 I1 H1 x1 r1 _ _ (stay_I r1 fun ρ2 I2 h2 H2 kk _ _ => (kk.keep a i).trans q) (wk_keys w)⟩⟩
      | _ => cases ep'
/-- where what is walked stands -/
theorem walk_src {K : PySem.W.Frag} {mg : Mg} {ρ ρ1 : List Addr} {I I1 : Addr → Prop} {h h1 : Hs} {H H1 : Hp} {σT : Slots} {σ : St} {r : R} {p : Itm} {v : V} (ep : enumL own σT h1 r = some p) (o : RO K mg ρ1 I1 h1 H1 H σT σ v r) (x1 : Ext ρ I h H ρ1 I1 h1 H1) (r1 : HR K mg ρ1 I1 h1 H1) (s1 : SR K mg ρ1 I1 h1 H1 σT σ) :
    ∃ I2 ts, p.ts = numT ts ∧ Ext ρ I h H ρ1 I2 h1 H1 ∧ HR K mg ρ1 I2 h1 H1 ∧ ∃ a, v = .ref a ∧
      (((∀ l, r ≠ .v (.tup l)) ∧ (∃ vs, SqL K H1 a vs) ∧ Stay K mg own p.g ρ1 I2 h1 H1 fun ρ' I' _ H' => ∃ vs, SqL K H' a vs ∧ Reps K mg ρ' I' H' vs ts) ∨
       ((∃ l, r = .v (.tup l)) ∧ (∃ vs, SqT K H1 a vs) ∧ Stay K mg own p.g ρ1 I2 h1 H1 fun ρ' I' _ H' => ∃ vs, SqT K H' a vs ∧ Reps K mg ρ' I' H' vs ts)) := by
  unfold enumL at ep
  split at ep
  · cases ep
  · cases ep
  rename_i n1 n2
  obtain ⟨p0, ew, rfl⟩ := Option.map_eq_some_iff.mp ep
  clear ep
  cases r with
  | al l =>
    cases ew
    cases own with
    | true =>
      obtain ⟨a, vs, rfl, z, q, ni, nl, w⟩ := o
      exact ⟨I1, l, rfl, x1, r1, a, rfl, .inl ⟨fun l => (fun z => nomatch z), ⟨vs, SqL.of q⟩, stay_O r1 q nl w⟩⟩
    | false =>
      obtain ⟨I2, x2, r2, q⟩ := o.keep x1 r1 (show frz (.al l) = some (.lst l) from rfl)
      obtain ⟨a, vs, rfl, i, q, w⟩ := q
      exact ⟨I2, l, rfl, x2, r2, a, rfl, .inl ⟨fun l => (fun z => nomatch z), ⟨vs, SqL.of q⟩, stay_L r2 (.inl ⟨i, .of q⟩) w⟩⟩
  | bw j =>
    cases own with
    | false => cases ew
    | true =>
      have ep' : (match σT[j]? with | some (some (.al l)) => some (⟨l, none⟩ : Itm) | _ => none) = some p0 := ew
      split at ep'
      · rename_i l y
        cases ep'
        obtain ⟨a, vs, q', z, ni, nl, w⟩ := s1.als j l y
        obtain ⟨q, _⟩ := o
        rw [q] at q'
        cases q'
        exact ⟨I1, l, rfl, x1, r1, a, rfl, .inl ⟨fun l => (fun z => nomatch z), ⟨vs, SqL.of z⟩, stay_O r1 z nl w⟩⟩
      · cases ep'
  | v t =>
    have ep' : walkT h1 t = some p0 := by cases own <;> exact ew
    cases t with
    | ref n =>
      unfold walkT at ep'
      simp only [] at ep'
      split at ep'
      · rename_i l el
        cases ep'
        obtain ⟨a, rfl, ea⟩ := (show ∃ a, v = .ref a ∧ ρ1[n]? = some a from o)
        obtain ⟨vs, z, w⟩ := r1.obj n _ a el ea
        exact ⟨I1, l, rfl, x1, r1, a, rfl, .inl ⟨fun l => (fun z => nomatch z), ⟨vs, SqL.of z⟩, stay_G r1 ea⟩⟩
      · cases ep'
    | lst l =>
      cases ep'
      obtain ⟨a, vs, rfl, i, q, w⟩ := o
      exact ⟨I1, l, rfl, x1, r1, a, rfl, .inl ⟨fun l => (fun z => nomatch z), ⟨vs, SqL.of q⟩, stay_L r1 (.inl ⟨i, .of q⟩) w⟩⟩
    | slst l =>
      cases ep'
      obtain ⟨a, vs, rfl, s, w⟩ := o
      exact ⟨I1, l, rfl, x1, r1, a, rfl, .inl ⟨fun l => (fun z => nomatch z), ⟨vs, seq_of s⟩, stay_L r1 s w⟩⟩
    | tup l =>
      cases ep'
      obtain ⟨a, vs, rfl, s, w⟩ := o
      exact ⟨I1, l, rfl, x1, r1, a, rfl, .inr ⟨⟨l, rfl⟩, ⟨vs, seqT_of s⟩, stay_T r1 s w⟩⟩
    | str z => exact (n1 z rfl).elim
    | dct l => exact (n2 l rfl).elim
    | _ => cases ep'
theorem s_iten (G : Gd X N Γ k W) {p : Pos} (hg : glbB X.env.scope "enumerate" = true) (ha : PE X pa (tD X.K X.M W (evE Γ a))) (m : notStar pa = true) {elts : List Expr} {kk : Nat} {tpos : Pos} :
    PI X (.Tuple elts kk tpos) (.Call (.Name "enumerate" p) [pa] [] pos) (tIt X.K X.M W own (evIt Γ own (.en a))) := by
  have hm := G.fr "enumerate" (by decide +kernel)
  refine PI.imp (PI.or (pi_enum (glb_of hg).1 hm (pa_cons ha pa_nil (star_eq m)) (star_eq m)) (pi_enumT (glb_of hg).1 hm (pa_cons ha pa_nil (star_eq m)) (star_eq m))) ?_
  rintro σ H Q ⟨ρ, I, σT, h, hr, sr, n⟩
  have n' : Nx X.K X.M W σ ρ I h H ((evE Γ a σT h).bind fun r h1 => lift (enumL own σT h1 r) h1) _ := n
  cases e : evE Γ a σT h with
  | bad => rw [e] at n'; exact n'.elim
  | ex y h1 => rw [e] at n'; exact .inl ⟨ρ, I, σT, h, hr, sr, by rw [e]; exact n'⟩
  | ok r h1 =>
    rw [e, Out.bind_ok] at n'
    obtain ⟨p, ep, g⟩ := lift_inv n'
    by_cases ht : ∃ l, r = .v (.tup l)
    · refine .inr ⟨ρ, I, σT, h, hr, sr, ?_⟩
      rw [e]
      intro ρ1 I1 H1 x1 r1 v o
      obtain ⟨I2, ts, ets, x2, r2, a', rfl, ⟨nt, _⟩ | ⟨_, ⟨vs, q⟩, st⟩⟩ := walk_src ep o x1 r1 (sr.ext hr x1)
      · obtain ⟨l, el⟩ := ht; exact (nt l el).elim
      · exact ⟨a', vs, rfl, q, g ρ1 I2 H1 x2 r2 _ _ st (ets ▸ wk_enT)⟩
    · refine .inl ⟨ρ, I, σT, h, hr, sr, ?_⟩
      rw [e]
      intro ρ1 I1 H1 x1 r1 v o
      obtain ⟨I2, ts, ets, x2, r2, a', rfl, ⟨_, ⟨vs, q⟩, st⟩ | ⟨nt, _⟩⟩ := walk_src ep o x1 r1 (sr.ext hr x1)
      · exact ⟨a', vs, rfl, q, g ρ1 I2 H1 x2 r2 _ _ st (ets ▸ wk_enL)⟩
      · exact (ht nt).elim
theorem rng_inv {lo hi : Int} {ts : List T} (e : rngT lo hi = some ts) : (-(2 ^ 62) ≤ lo ∧ lo < 2 ^ 62 ∧ -(2 ^ 62) ≤ hi ∧ hi < 2 ^ 62) ∧ ts = (List.range (hi - lo).toNat).map fun (k : Nat) => T.int (lo + (k : Int)) := by
  unfold rngT at e
  obtain ⟨c, e⟩ := ite_some e
  exact ⟨c, e.symm⟩
theorem s_itr1 (G : Gd X N Γ k W) {p : Pos} (hg : glbB X.env.scope "range" = true) (ha : PE X pa (tD X.K X.M W (evE Γ a))) (m : notStar pa = true) : PI X tg (.Call (.Name "range" p) [pa] [] pos) (tIt X.K X.M W own (evIt Γ own (.r1 a))) := by
  refine PI.imp (pi_range1 (glb_of hg).1 (G.fr _ (by decide +kernel)) (pa_cons ha pa_nil (star_eq m)) (star_eq m)) ?_
  rintro σ H Q ⟨ρ, I, σT, h, hr, sr, n⟩
  have n' : Nx X.K X.M W σ ρ I h H ((evE Γ a σT h).bind fun r h1 => match r with | .v (.int j) => lift ((rngT 0 j).map fun l => (⟨l, none⟩ : Itm)) h1 | _ => .bad) _ := n
  refine ⟨ρ, I, σT, h, hr, sr, n'.bind.imp fun r h1 ρ1 I1 H1 x1 r1 n1 v o => ?_⟩
  split at n1
  · rename_i j
    obtain ⟨p, ep, g⟩ := n1.lift
    obtain ⟨ts, et, rfl⟩ := Option.map_eq_some_iff.mp ep
    obtain ⟨⟨_, _, c1, c2⟩, rfl⟩ := rng_inv et
    cases (show v = .int j from o)
    refine ⟨j, rfl, c1, c2, ?_⟩
    have e : j.toNat = (j - 0).toNat := by omega
    rw [e]
    exact g ρ1 I1 H1 .refl r1 _ _ (stay_true own _) wk_rng
  · exact n1.elim
theorem s_itr2 (G : Gd X N Γ k W) {p : Pos} (hg : glbB X.env.scope "range" = true) (ha : PE X pa (tD X.K X.M W (evE Γ a))) (hb : PE X pb (tD X.K X.M W (evE Γ b))) (m : notStar pa = true) (m' : notStar pb = true) :
    PI X tg (.Call (.Name "range" p) [pa, pb] [] pos) (tIt X.K X.M W own (evIt Γ own (.r2 a b))) := by
  refine PI.imp (pi_range2 (glb_of hg).1 (G.fr _ (by decide +kernel)) (pa_cons ha (pa_cons hb pa_nil (star_eq m')) (star_eq m)) (by rw [star_eq m, star_eq m']; rfl) (star_eq m')) ?_
  rintro σ H Q ⟨ρ, I, σT, h, hr, sr, n⟩
  have n' : Nx X.K X.M W σ ρ I h H ((evE Γ a σT h).bind fun r h1 => (evE Γ b σT h1).bind fun s h2 => match r, s with | .v (.int i), .v (.int j) => lift ((rngT i j).map fun l => (⟨l, none⟩ : Itm)) h2 | _, _ => .bad) _ := n
  refine ⟨ρ, I, σT, h, hr, sr, n'.bind.imp fun r h1 ρ1 I1 H1 x1 r1 n1 v o => ?_⟩
  refine ⟨ρ1, I1, σT, h1, r1, sr.ext hr x1, n1.bind.imp fun s h2 ρ2 I2 H2 x2 r2 n2 u o2 => ?_⟩
  split at n2
  · rename_i i j
    obtain ⟨p, ep, g⟩ := n2.lift
    obtain ⟨ts, et, rfl⟩ := Option.map_eq_some_iff.mp ep
    obtain ⟨⟨c1, c2, c3, c4⟩, rfl⟩ := rng_inv et
    cases (show v = .int i from o)
    cases (show u = .int j from o2)
    exact ⟨i, j, rfl, ⟨c1, c2, c3, c4⟩, g ρ2 I2 H2 .refl r2 _ _ (stay_true own _) wk_rng⟩
  · exact n2.elim
end
end VY
namespace VY
open PySem PySem.Spec
open PyProof.Rows hiding St
open L2
section
variable {K : PySem.W.Frag} {mg : Mg} {ρ ρ' : List Addr} {I I' : Addr → Prop} {h h' : Hs} {H H' : Hp} {σT : Slots} {σ : St} {W W' : WX}
theorem SR.set (s : SR K mg ρ I h H σT σ) {v : V} {t : T} (q : Rep K mg ρ I H v t) (i : Nat) : SR K mg ρ I h H (σT.set i (some (.v t))) (σ.set i (some v)) where
  len := by rw [List.length_set, List.length_set]; exact s.len
  vs := fun j u e => by
    by_cases c : i = j
    · subst c
      by_cases hi : i < σT.length
      · rw [List.getElem?_set_self hi] at e
        cases e
        exact ⟨v, List.getElem?_set_self (by rw [← s.len]; exact hi), q⟩
      · rw [List.getElem?_eq_none (by rw [List.length_set]; omega)] at e; cases e
    · rw [List.getElem?_set_ne c] at e ⊢
      exact s.vs j u e
  als := fun j l e => by
    by_cases c : i = j
    · subst c
      by_cases hi : i < σT.length
      · rw [List.getElem?_set_self hi] at e; cases e
      · rw [List.getElem?_eq_none (by rw [List.length_set]; omega)] at e; cases e
    · rw [List.getElem?_set_ne c] at e
      obtain ⟨a, vs, q, r⟩ := s.als j l e
      exact ⟨a, vs, by rw [List.getElem?_set_ne c]; exact q, r⟩
  adj := fun j j' l m a e1 e2 e3 e4 => by
    have ne : ∀ {j : Nat} {l : List T}, (σT.set i (some (.v t)))[j]? = some (some (.al l)) → i ≠ j := fun {j l} e c => by
      subst c
      by_cases hi : i < σT.length
      · rw [List.getElem?_set_self hi] at e; cases e
      · rw [List.getElem?_eq_none (by rw [List.length_set]; omega)] at e; cases e
    have n1 := ne e1
    have n2 := ne e2
    rw [List.getElem?_set_ne n1] at e1 e3
    rw [List.getElem?_set_ne n2] at e2 e4
    exact s.adj j j' l m a e1 e2 e3 e4
  xns := fun j c fs e => by
    by_cases cc : i = j
    · subst cc
      by_cases hi : i < σT.length
      · rw [List.getElem?_set_self hi] at e; cases e
      · rw [List.getElem?_eq_none (by rw [List.length_set]; omega)] at e; cases e
    · rw [List.getElem?_set_ne cc] at e
      exact (s.xns j c fs e).mono ⟨fun _ _ z => z, fun _ z => z, fun _ _ => rfl⟩ fun a z => by rw [List.getElem?_set_ne cc]; exact z
theorem SR.clr (s : SR K mg ρ I h H σT σ) (i : Nat) (o : Option V) : SR K mg ρ I h H (σT.set i none) (σ.set i o) where
  len := by rw [List.length_set, List.length_set]; exact s.len
  vs := fun j u e => by
    by_cases c : i = j
    · subst c
      by_cases hi : i < σT.length
      · rw [List.getElem?_set_self hi] at e; cases e
      · rw [List.getElem?_eq_none (by rw [List.length_set]; omega)] at e; cases e
    · rw [List.getElem?_set_ne c] at e ⊢
      exact s.vs j u e
  als := fun j l e => by
    by_cases c : i = j
    · subst c
      by_cases hi : i < σT.length
      · rw [List.getElem?_set_self hi] at e; cases e
      · rw [List.getElem?_eq_none (by rw [List.length_set]; omega)] at e; cases e
    · rw [List.getElem?_set_ne c] at e
      obtain ⟨a, vs, q, r⟩ := s.als j l e
      exact ⟨a, vs, by rw [List.getElem?_set_ne c]; exact q, r⟩
  adj := fun j j' l m a e1 e2 e3 e4 => by
    have ne : ∀ {j : Nat} {l : List T}, (σT.set i none)[j]? = some (some (.al l)) → i ≠ j := fun {j l} e c => by
      subst c
      by_cases hi : i < σT.length
      · rw [List.getElem?_set_self hi] at e; cases e
      · rw [List.getElem?_eq_none (by rw [List.length_set]; omega)] at e; cases e
    have n1 := ne e1
    have n2 := ne e2
    rw [List.getElem?_set_ne n1] at e1 e3
    rw [List.getElem?_set_ne n2] at e2 e4
    exact s.adj j j' l m a e1 e2 e3 e4
  xns := fun j c fs e => by
    by_cases cc : i = j
    · subst cc
      by_cases hi : i < σT.length
      · rw [List.getElem?_set_self hi] at e; cases e
      · rw [List.getElem?_eq_none (by rw [List.length_set]; omega)] at e; cases e
    · rw [List.getElem?_set_ne cc] at e
      exact (s.xns j c fs e).mono ⟨fun _ _ z => z, fun _ z => z, fun _ _ => rfl⟩ fun a z => by rw [List.getElem?_set_ne cc]; exact z
theorem SR.wipe (s : SR K mg ρ I h H σT σ) : ∀ vs : List Nat, SR K mg ρ I h H (wipeT σT vs) (L2.wipe σ vs)
  | [] => s
  | v :: vs => (SR.wipe s vs).clr v none
theorem wipe_set (σ : St) (x : Option V) : ∀ {vs : List Nat} {i : Nat}, i ∈ vs → L2.wipe (σ.set i x) vs = L2.wipe σ vs
  | v :: vs, i, hm => by
    show (L2.wipe (σ.set i x) vs).set v none = (L2.wipe σ vs).set v none
    by_cases c : i ∈ vs
    · rw [wipe_set σ x c]
    · have e : i = v := by simpa [c] using hm
      subst e
      have out : ∀ {ws : List Nat}, i ∉ ws → L2.wipe (σ.set i x) ws = (L2.wipe σ ws).set i x := by
        intro ws
        induction ws with
        | nil => intro _; rfl
        | cons w ws ih =>
          intro hn
          have h1 : i ≠ w := fun e => hn (by simp [e])
          show (L2.wipe (σ.set i x) ws).set w none = ((L2.wipe σ ws).set w none).set i x
          rw [ih (fun z => hn (by simp [z])), List.set_comm _ _ h1]
      rw [out c, List.set_set]
/-- a thing that goes to a target: what is taken apart is looked at -/
def PkG (K : PySem.W.Frag) (mg : Mg) (ρ : List Addr) (I : Addr → Prop) (H : Hp) (v : V) (t : T) : Tg → Prop
  | .nm _ => Rep K mg ρ I H v t
  | .tp _ => Pk K mg ρ I H v t
theorem PkG.of {K : PySem.W.Frag} {mg : Mg} {ρ : List Addr} {I : Addr → Prop} {H : Hp} {v : V} {t : T} (q : Rep K mg ρ I H v t) : ∀ g, PkG K mg ρ I H v t g
  | .nm _ => q
  | .tp _ => Pk.of q
theorem PkG.see {v : V} {t : T} (hr : HR K mg ρ I h H) (q : Rep K mg ρ I H v t) : ∀ g, PkG K mg ρ I H v (tgSee g h t) g
  | .nm _ => q
  | .tp _ => Pk.seen hr q
theorem PG.or {X : Cx} {e : Expr} {t t' : TG} (p : PG X e t) (q : PG X e t') : PG X e fun v σ H Q => t v σ H Q ∨ t' v σ H Q := ⟨fun pins s σ H v u Q I r h => h.elim (p.run pins s σ H v u Q I r) (q.run pins s σ H v u Q I r)⟩
def tTg (K : PySem.W.Frag) (mg : Mg) (vs : List Nat) (g : Tg) : TG := fun v σ H Q => ∃ ρ I σT h t σ2, HR K mg ρ I h H ∧ SR K mg ρ I h H σT σ ∧ PkG K mg ρ I H v t g ∧ asgT g t σT = some σ2 ∧
  ∀ σ', SR K mg ρ I h H σ2 σ' → L2.wipe σ' vs = L2.wipe σ vs → Q σ' H
def tTgs (K : PySem.W.Frag) (mg : Mg) (vs : List Nat) (f : List T → Slots → Option Slots) : TGs := fun ws σ H Q => ∃ ρ I σT h ts σ2, HR K mg ρ I h H ∧ SR K mg ρ I h H σT σ ∧ Reps K mg ρ I H ws ts ∧ f ts σT = some σ2 ∧
  ∀ σ', SR K mg ρ I h H σ2 σ' → L2.wipe σ' vs = L2.wipe σ vs → Q σ' H
theorem PG.imp {X : Cx} {e : Expr} {t t' : TG} (p : PG X e t) (f : ∀ v σ H Q, t' v σ H Q → t v σ H Q) : PG X e t' := ⟨fun pins s σ H v u Q I r h => p.run pins s σ H v u Q I r (f v σ H Q h)⟩
theorem PGs.imp {X : Cx} {e : List Expr} {t t' : TGs} (p : PGs X e t) (f : ∀ v σ H Q, t' v σ H Q → t v σ H Q) : PGs X e t' := ⟨fun pins s σ H v u Q I r h => p.run pins s σ H v u Q I r (f v σ H Q h)⟩
theorem each_len {env : Env} : ∀ es : List Expr, (assignEach es env).length = es.length
  | [] => rfl
  | e :: es => by cases e <;> exact congrArg (· + 1) (each_len es)
theorem each_eq {e : Expr} {es : List Expr} {env : Env} (h : notStar e = true) : assignEach (e :: es) env = (false, assign e env) :: assignEach es env := by cases e <;> first | rfl | cases h
end
mutual
/-- a target's reading: fn: the names whose cells are the block's own, or all -/
theorem s_tg {X : Cx} {sc : Scope} (hc : X.calm = true) (hN : X.N.Nodup) (hs : ∀ x, locB sc x = true → Loc X.env.scope x ∧ (X.fn x = true ∨ X.env.scope.names.lookup x = some .local)) (vs : List Nat) : ∀ (g : Tg) (e : Expr), mTg sc X.N g e = true → (∀ i ∈ g.ixs, i ∈ vs) → PG X e (tTg X.K X.M vs g)
  | .nm i, .Name x pos, m, hv => by
    have q := and_tt m
    have hi : X.N[i]? = some x := of_decide_eq_true q.1
    have hl := hs x q.2
    refine PG.imp (pg_name hN hi hl.1 hl.2) ?_
    rintro v σ H Q ⟨ρ, I, σT, h, t, σ2, hr, sr, p, e, k⟩
    cases e
    exact k _ (sr.set p i) (wipe_set σ _ (hv i (by simp [Tg.ixs])))
  | .tp l, .Tuple es j pos, m, hv => by
    have pgs := s_tgs hc hN hs vs l es m (fun i hi => hv i hi)
    have st : (assignEach es X.env).findIdx? (·.1) = none := by
      have : ∀ (l : List Tg) (es : List Expr), mTgs sc X.N l es = true → (assignEach es X.env).findIdx? (·.1) = none := by
        intro l
        induction l with
        | nil => intro es m; cases es with
          | nil => rfl
          | cons e es => cases m
        | cons g l ih => intro es m; cases es with
          | nil => cases m
          | cons e es =>
            have q := and_tt m
            rw [each_eq (and_tt q.1).1, List.findIdx?_cons]
            rw [ih es q.2]
            rfl
      exact this l es m
    refine PG.imp (PG.or (pg_tup hc pgs (each_len es) st) (pg_lst hc pgs (each_len es) st)) ?_
    rintro v σ H Q ⟨ρ, I, σT, h, t, σ2, hr, sr, p, e, k⟩
    have len : ∀ {ts : List T} {ws : List V}, Reps X.K X.M ρ I H ws ts → asgTs l ts σT = some σ2 → ws.length = es.length := by
      intro ts ws w e
      have : ∀ (l : List Tg) (ts : List T) (σ σ2 : Slots), asgTs l ts σ = some σ2 → l.length = ts.length := by
        intro l
        induction l with
        | nil => intro ts σ σ2 e; cases ts with
          | nil => rfl
          | cons t ts => cases e
        | cons g l ih => intro ts σ σ2 e; cases ts with
          | nil => cases e
          | cons t ts =>
            rw [asgTs] at e
            cases z : asgT g t σ with
            | none => rw [z] at e; cases e
            | some σ1 => rw [z] at e; exact congrArg (· + 1) (ih ts σ1 σ2 e)
      have e1 := this l ts σT σ2 e
      have e2 : ∀ (l : List Tg) (es : List Expr), mTgs sc X.N l es = true → l.length = es.length := by
        intro l
        induction l with
        | nil => intro es m; cases es with
          | nil => rfl
          | cons e es => cases m
        | cons g l ih => intro es m; cases es with
          | nil => cases m
          | cons e es => exact congrArg (· + 1) (ih es (and_tt m).2)
      rw [w.length, ← e1, e2 l es m]
    cases t with
    | tup ts =>
      obtain ⟨a, ws, rfl, s, w⟩ := p
      exact .inl ⟨a, ws, rfl, seqT_of s, len w e, ρ, I, σT, h, ts, σ2, hr, sr, w, e, k⟩
    | lst ts =>
      obtain ⟨a, ws, rfl, s, w⟩ := p
      exact .inr ⟨a, ws, rfl, SqL.of s, len w e, ρ, I, σT, h, ts, σ2, hr, sr, w, e, k⟩
    | _ => cases e
theorem s_tgs {X : Cx} {sc : Scope} (hc : X.calm = true) (hN : X.N.Nodup) (hs : ∀ x, locB sc x = true → Loc X.env.scope x ∧ (X.fn x = true ∨ X.env.scope.names.lookup x = some .local)) (vs : List Nat) : ∀ (l : List Tg) (es : List Expr), mTgs sc X.N l es = true → (∀ i ∈ ixss l, i ∈ vs) → PGs X es (tTgs X.K X.M vs (asgTs l))
  | [], [], _, _ => PGs.imp pgs_nil fun ws σ H Q ⟨ρ, I, σT, h, ts, σ2, hr, sr, p, e, k⟩ => by
    cases ts with
    | nil =>
      cases ws with
      | nil => cases e; exact ⟨rfl, k σ sr rfl⟩
      | cons w ws => exact p.elim
    | cons t ts => cases e
  | g :: l, e :: es, m, hv => by
    have q := and_tt m
    have p1 := s_tg hc hN hs vs g e (and_tt q.1).2 (fun i hi => hv i (List.mem_append_left _ hi))
    have p2 := s_tgs hc hN hs vs l es q.2 (fun i hi => hv i (List.mem_append_right _ hi))
    refine PGs.imp (pgs_cons p1 p2 (by rw [each_eq (and_tt q.1).1]; rfl)) ?_
    rintro ws σ H Q ⟨ρ, I, σT, h, ts, σ2, hr, sr, p, e, k⟩
    cases ts with
    | nil => cases e
    | cons t ts =>
      cases ws with
      | nil => exact p.elim
      | cons w ws =>
        rw [asgTs] at e
        cases z : asgT g t σT with
        | none => rw [z] at e; cases e
        | some σ1 =>
          rw [z] at e
          refine ⟨w, ws, rfl, ρ, I, σT, h, t, σ1, hr, sr, .of p.1 g, z, fun σ' sr' ew => ?_⟩
          exact ⟨ρ, I, σ1, h, ts, σ2, hr, sr', p.2, e, fun σ'' sr'' ew' => k σ'' sr'' (ew'.trans ew)⟩
end
end VY
namespace VY
open PySem PySem.Spec
open PyProof.Rows hiding St
open L2
section
variable {K : PySem.W.Frag} {mg : Mg} {ρ ρ' : List Addr} {I I' : Addr → Prop} {h h' : Hs} {H H' H0 : Hp} {σT : Slots} {σ : St} {W W' : WX} {α β : Type}
theorem Nx.noex {o : Out α} {k : α → Hs → List Addr → (Addr → Prop) → Hp → Prop} (n : Nx K mg W σ ρ I h H (noex o) k) {σ' : St} : Nx K mg W' σ' ρ I h H o k := by
  cases o with
  | ok a h1 => exact n
  | ex x h1 => exact n.elim
  | bad => exact n.elim
/-- a thing that nobody else holds is changed -/
theorem ext_at {a : Addr} (o : HO) (x : Ext ρ I h H ρ' I' h' H') (e : H a = none) : Ext ρ I h H ρ' I' h' (upd H' a o) where
  pre := x.pre
  sub := x.sub
  keep := fun b d l => (upd_ne (fun z => by subst z; exact not_none d e)).trans (x.keep b d l)
  dom := fun b d => upd_dom (x.dom b d)
  inew := x.inew
  lnew := x.lnew
theorem kp_at {a : Addr} (o : HO) (ni : ¬ I a) : Kp ρ I H ρ I (upd H a o) := ⟨fun _ _ e => e, fun _ e => e, fun b i => upd_ne fun z => ni (z ▸ i)⟩
theorem hr_at {a : Addr} (o : HO) (r : HR K mg ρ I h H) (ni : ¬ I a) (nl : ¬ Live ρ h a) : HR K mg ρ I h (upd H a o) where
  len := r.len
  inj := r.inj
  dis := r.dis
  idom := fun b i => upd_dom (r.idom b i)
  obj := fun n u b e1 e2 => (r.obj n u b e1 e2).mono (kp_at o ni) fun nd => upd_ne fun z => nl (z ▸ ⟨n, u, e2, e1, nd⟩)
theorem none_back (x : Ext ρ I h H ρ' I' h' H') {a : Addr} (e : H' a = none) : H a = none := by
  cases z : H a with
  | none => rfl
  | some _ => exact (not_none (x.dom a (isSome_of z)) e).elim
mutual
theorem own_ixs (nm : List Str) : ∀ g : Tg, (ownOf nm g).map (·.2) = g.ixs
  | .nm i => rfl
  | .tp l => own_ixss nm l
theorem own_ixss (nm : List Str) : ∀ l : List Tg, (ownOfs nm l).map (·.2) = ixss l
  | [] => rfl
  | g :: l => by rw [ownOfs, List.map_append, own_ixs nm g, own_ixss nm l]; rfl
end
end
section
variable {X : Cx} {N : Nms} {Γ : Ctx} {k : Nat} {W : WX}
theorem drop_at {α : Type} {l : List α} {i : Nat} {x : α} (e : l[i]? = some x) : l.drop i = x :: l.drop (i + 1) := by
  obtain ⟨hi, e'⟩ := List.getElem?_eq_some_iff.mp e
  rw [List.drop_eq_getElem_cons hi, e']
/-- a walk's step: the object walked is as it was -/
theorem gd_lc {K : PySem.W.Frag} {mg : Mg} {σ : St} {ρ : List Addr} {I : Addr → Prop} {h hc : Hs} {H : Hp} {α β : Type} {g : Option (Nat × HOb)} {o : Out α} {f : α → Hs → Out β} {k : β → Hs → List Addr → (Addr → Prop) → Hp → Prop}
    (n : Nx K mg W σ ρ I h H ((if gdB g hc then o else .bad).bind f) k) : gdB g hc = true ∧ Nx K mg W σ ρ I h H (o.bind f) k := by
  cases z : gdB g hc with
  | true => rw [z] at n; exact ⟨rfl, n⟩
  | false => rw [z] at n; exact n.elim
/-- the loop of a comprehension -/
theorem lc_loop {g : TG} {tt : TT} {te : TE} {vs : List Nat} {F : T → Hs → Out (Option T)} {f : Slots → Hs → Out Itm} {σ : St} {H : Hp} {Q : VK} {ρ : List Addr} {I : Addr → Prop} {h : Hs} {σT : Slots} {K : PySem.W.Frag} {mg : Mg}
    (hr : HR K mg ρ I h H) (sr : SR K mg ρ I h H σT σ) (n : Nx K mg W σ ρ I h H ((f σT h).bind fun p h1 => (lcL F p.g p.ts [] h1).bind fun l h2 => .ok (.al l) h2) fun r h' ρ' I' H' => ∀ v, RO K mg ρ' I' h' H' H σT σ v r → Q v H')
    (turn : ∀ ρc Ic hc Hc t x (P : VK) (P' : Hp → Prop), HR K mg ρc Ic hc Hc → SR K mg ρc Ic hc Hc σT σ → Rep K mg ρc Ic Hc x t → (∀ {W' : WX} {σ' : St}, Nx K mg W' σ' ρc Ic hc Hc (F t hc) fun o h4 ρ4 I4 H4 => match o with
      | some t' => ∀ y, Rep K mg ρ4 I4 H4 y t' → P y H4
      | none => P' H4) → g x (L2.wipe σ vs) Hc fun σ2 H2 => L2.wipe σ2 vs = L2.wipe σ vs ∧ tt σ2 H2 fun b H3 => if b = true then te σ2 H3 P else P' H3)
    (hF : ∀ t h, noex (F t h) = F t h) : tLc (tIt K mg W true f) g tt te vs σ H Q := by
  refine ⟨ρ, I, σT, h, hr, sr, n.bind.imp fun p h1 ρ1 I1 H1 x1 r1 n1 J C st wk D hD => ?_⟩
  obtain ⟨ts, gd⟩ := p
  have s1 := sr.ext hr x1
  have hD0 : H D = none := none_back x1 hD
  -- the state in a turn
  refine ⟨fun i m Hc => m = ts.length - i ∧ i ≤ ts.length ∧ ∃ ρc Ic hc acc, Ext ρ1 I1 h1 H1 ρc Ic hc Hc ∧ HR K mg ρc Ic hc Hc ∧ RO K mg ρc Ic hc Hc H1 σT σ (.ref D) (.al acc) ∧
    Nx K mg W σ ρ1 I1 h1 H1 ((lcL F gd (ts.drop i) acc hc).bind fun l h2 => .ok (.al l) h2) fun r h' ρ' I' H' => ∀ v, RO K mg ρ' I' h' H' H σT σ v r → Q v H', ⟨ts.length, ?_⟩, ?_⟩
  · refine ⟨by omega, Nat.zero_le _, ρ1, I1, h1, [], ext_new _ hD, hr_new _ r1 hD, ⟨D, [], rfl, hD, upd_same, fun z => not_none (r1.idom D z) hD, fun z => not_none (live_some r1 z) hD, trivial⟩, ?_⟩
    exact n1
  · rintro i m Hc ⟨rfl, hi', ρc, Ic, hc, acc, xc, rc, oc, nc⟩
    have cC : gdB gd hc = true → C ρc Ic hc Hc := fun gg => by
      unfold Stay at st
      rw [if_pos rfl] at st
      exact st _ _ _ _ xc rc gg
    by_cases hlt : i < ts.length
    · rw [List.drop_eq_getElem_cons hlt] at nc
      obtain ⟨gg, nc⟩ := gd_lc nc
      refine .inr ⟨wk.go i ρc Ic hc Hc hlt (cC gg), fun H' => ∃ ρc Ic hc acc, Ext ρ1 I1 h1 H1 ρc Ic hc H' ∧ HR K mg ρc Ic hc H' ∧ RO K mg ρc Ic hc H' H1 σT σ (.ref D) (.al acc) ∧
        Nx K mg W σ ρ1 I1 h1 H1 ((lcL F gd (ts.drop (i + 1)) acc hc).bind fun l h2 => .ok (.al l) h2) fun r h' ρ' I' H' => ∀ v, RO K mg ρ' I' h' H' H σT σ v r → Q v H', fun H' ⟨ρ2, I2, h2, acc2, a1, a2, a3, a4⟩ => ⟨ts.length - (i + 1), by omega, rfl, hlt, ρ2, I2, h2, acc2, a1, a2, a3, a4⟩, ?_⟩
      intro x H' y
      obtain ⟨I2, t, xy, ry, et, rt⟩ := wk.yld i x ρc Ic hc Hc H' rc (cC gg) hlt y
      have et' : ts[i] = t := by rw [List.getElem?_eq_getElem hlt] at et; exact Option.some.inj et
      rw [et'] at nc
      have xcy := xc.trans xy
      have ocy := oc.ext rc xy
      refine turn ρc I2 hc H' t x _ _ ry (s1.ext r1 xcy) rt ?_
      intro W' σ'
      cases eF : F t hc with
      | bad => rw [eF] at nc; exact nc.elim
      | ex y h4 =>
        have z := hF t hc
        rw [eF] at z
        cases z
      | ok o h4 =>
        rw [eF] at nc
        intro ρ4 I4 H4 x4 r4
        have o4 := ocy.ext ry x4
        cases o with
        | none => exact ⟨ρ4, I4, h4, acc, xcy.trans x4, r4, o4, nc⟩
        | some t' =>
          intro y q
          have n5 : Nx K mg W σ ρ1 I1 h1 H1 ((if acc.length < SL then lcL F gd (ts.drop (i + 1)) (acc ++ [t']) h4 else .bad).bind _) _ := nc
          split at n5
          · rename_i hz
            obtain ⟨a, ws, ea, na, p, ni, nl, w⟩ := o4
            cases ea
            exact ⟨ws, p, by rw [w.length, sizeLine_eq]; exact hz, ρ4, I4, h4, acc ++ [t'], ext_at _ (xcy.trans x4) hD, hr_at _ r4 ni nl, ⟨D, ws ++ [y], rfl, hD, upd_same, ni, nl, Reps.mono (kp_at _ ni) (w.append (ws := [y]) (m := [t']) ⟨q, trivial⟩)⟩, n5⟩
          · exact n5.elim
    · have e : i = ts.length := by omega
      subst e
      rw [List.drop_length] at nc
      obtain ⟨gg, nc⟩ := gd_lc nc
      exact .inl ⟨wk.stop ρc Ic hc Hc (cC gg), nc ρc Ic Hc xc rc (.ref D) (oc.back x1.dom)⟩
theorem wipe_get (σ : St) (j : Nat) : ∀ vs : List Nat, (L2.wipe σ vs)[j]? = if j ∈ vs then (if j < σ.length then some none else none) else σ[j]?
  | [] => by simp [L2.wipe]
  | v :: vs => by
    show ((L2.wipe σ vs).set v none)[j]? = _
    rw [List.getElem?_set, wipe_get σ j vs, wipe_length]
    by_cases e : v = j
    · subst e; simp
    · have e' : ¬ j = v := fun z => e z.symm
      simp [e, e']
theorem wipe_idem (σ : St) (vs : List Nat) : L2.wipe (L2.wipe σ vs) vs = L2.wipe σ vs := by
  apply List.ext_getElem?
  intro j
  rw [wipe_get, wipe_get, wipe_length]
  split <;> rfl
theorem blk_loc (X : Cx) (s : Shared) (H : Hp) (scope : Scope) (C : Addr) (cl : List (Str × Addr)) (fp : List Addr) (x : Str) (m : locB scope x = true) :
    Loc (X.blk s H scope (compEnvC scope cl C X.env) fp).env.scope x ∧ ((X.blk s H scope (compEnvC scope cl C X.env) fp).fn x = true ∨ (X.blk s H scope (compEnvC scope cl C X.env) fp).env.scope.names.lookup x = some .local) := by
  rcases loc_of m with z | z
  · have q : (relS scope X.env.scope).names.lookup x = some .local := lookup_relS_keep (sc := X.env.scope) (by decide) z
    exact ⟨.inl q, .inr q⟩
  · have q : (relS scope X.env.scope).names.lookup x = some .cell := lookup_relS_keep (sc := X.env.scope) (by decide) z
    exact ⟨.inr q, .inl (by show (scope.names.lookup x == some .cell) = true; rw [z]; rfl)⟩
theorem noex_noex {α : Type} (o : Out α) : noex (noex o) = noex o := by cases o <;> rfl
theorem lc_imp {elt : E} {tg : Tg} {it : It} {cond : C} {K : PySem.W.Frag} {mg : Mg} {nm : List Str} {σ : St} {H : Hp} {Q : VK} (q : tD K mg W (evE Γ (.lc elt tg it cond)) σ H Q) :
    tLc (tIt K mg W true (evIt Γ true it)) (tTg K mg tg.ixs tg) (tB K mg (fun _ _ _ _ => False) (evC Γ cond)) (tD K mg (fun _ _ _ _ => False) (evE Γ elt)) ((ownOf nm tg).map (·.2)) σ H Q := by
  obtain ⟨ρ, I, σT, h, hr, sr, n⟩ := q
  rw [evE] at n
  rw [own_ixs]
  refine lc_loop hr sr n ?_ fun t h => noex_noex _
  intro ρc Ic hc Hc t x P P' rc sc rt nF
  cases z : asgT tg t (wipeT σT tg.ixs) with
  | none =>
    have n3 := nF (W' := W) (σ' := σ)
    rw [z] at n3
    exact n3.elim
  | some σ2 =>
    refine ⟨ρc, Ic, wipeT σT tg.ixs, hc, t, σ2, rc, sc.wipe tg.ixs, PkG.of rt tg, z, fun σ' sr' ew => ⟨ew.trans ?_, ?_⟩⟩
    · exact wipe_idem σ tg.ixs
    · have n3 := nF (W' := fun _ _ _ _ => False) (σ' := σ')
      rw [z] at n3
      have n4 := n3.noex (W' := fun _ _ _ _ => False) (σ' := σ')
      refine ⟨ρc, Ic, σ2, hc, rc, sr', n4.bind.imp fun b h3 ρ3 I3 H3 x3 r3 n5 => ?_⟩
      have s3 := sr'.ext rc x3
      cases b with
      | false => exact n5 ρ3 I3 H3 .refl r3
      | true =>
        rw [if_pos rfl] at n5
        refine ⟨ρ3, I3, σ2, h3, r3, s3, n5.bind.imp' fun r h4 ρ4 I4 H4 x4 r4 n6 y o4 => ?_⟩
        cases e : frz r with
        | none => have n7 := n6 ρ4 I4 H4 x4 r4; rw [e] at n7; exact n7.elim
        | some t' =>
          obtain ⟨I5, x5, r5, q5⟩ := o4.keep x4 r4 e
          have n7 := n6 ρ4 I5 H4 x5 r5
          rw [e] at n7
          exact n7 ρ4 I5 H4 .refl r5 y q5
theorem lc_hg (G : Gd X N Γ k W) (hh : N.hot = false) {tg : Tg} {pt : Expr} {scope : Scope} (mt : mTg scope X.N tg pt = true) : ∀ (s : Shared) (H : Hp) (C : Addr) (cl : List (Str × Addr)) (fp : List Addr), PG (X.blk s H scope (compEnvC scope cl C X.env) fp) pt (tTg X.K X.M tg.ixs tg) := fun s H C cl fp =>
    by
    rw [← G.blkM hh s H scope (compEnvC scope cl C X.env) fp]
    exact s_tg (X := X.blk s H scope (compEnvC scope cl C X.env) fp) (sc := scope) (G.calm hh) G.nd (blk_loc X s H scope C cl fp) tg.ixs tg pt mt fun _ z => z
theorem s_lc (G : Gd X N Γ k W) (hh : N.hot = false) {elt : E} {tg : Tg} {it : It} {cond : C} {pe pt pi : Expr} {ifs : List Expr} {scope : Scope} {pos : Pos} (ok : BlkOk X.N X.env.scope scope (ownOf X.N tg)) (mt : mTg scope X.N tg pt = true)
    (hi : PI X pt pi (tIt X.K X.M W true (evIt Γ true it))) (hs : notSet pi = true)
    (ht : ∀ (s : Shared) (H : Hp) (C : Addr) (cl : List (Str × Addr)) (fp : List Addr), PTs (X.blk s H scope (compEnvC scope cl C X.env) fp) ifs (tB X.K X.M (fun _ _ _ _ => False) (evC Γ cond)))
    (he : ∀ (s : Shared) (H : Hp) (C : Addr) (cl : List (Str × Addr)) (fp : List Addr), PE (X.blk s H scope (compEnvC scope cl C X.env) fp) pe (tD X.K X.M (fun _ _ _ _ => False) (evE Γ elt))) :
    PE X (.ListComp pe [⟨pt, pi, ifs, 0⟩] scope pos) (tD X.K X.M W (evE Γ (.lc elt tg it cond))) :=
  PE.imp (pe_lc (G.calm hh) G.nd hi ok (lc_hg G hh mt) ht he (not_folded hs)) fun σ H Q q => lc_imp q
theorem s_setLc (G : Gd X N Γ k W) (hh : N.hot = false) {elt : E} {tg : Tg} {it : It} {cond : C} {pe pt pi : Expr} {ifs : List Expr} {scope : Scope} {pos spos py : Pos} {j : Nat} {y : Str} (hy : X.N[j]? = some y) (hyl : X.env.scope.names.lookup y = some .local)
    (hsw : swapsWith (.ListComp pe [⟨pt, pi, ifs, 0⟩] scope pos) (some (.Name y py)) spos.line X.env = pure true) (ok : BlkOk X.N X.env.scope scope (ownOf X.N tg)) (mt : mTg scope X.N tg pt = true)
    (hi : PI X pt pi (tIt X.K X.M W true (evIt Γ true it))) (hs : notSet pi = true)
    (ht : ∀ (s : Shared) (H : Hp) (C : Addr) (cl : List (Str × Addr)) (fp : List Addr), PTs (X.blk s H scope (compEnvC scope cl C X.env) fp) ifs (tB X.K X.M (fun _ _ _ _ => False) (evC Γ cond)))
    (he : ∀ (s : Shared) (H : Hp) (C : Addr) (cl : List (Str × Addr)) (fp : List Addr), PE (X.blk s H scope (compEnvC scope cl C X.env) fp) pe (tD X.K X.M (fun _ _ _ _ => False) (evE Γ elt))) :
    PS X (.Assign [.Name y py] (.ListComp pe [⟨pt, pi, ifs, 0⟩] scope pos) spos) (tAsg (tD X.K X.M W (evE Γ (.lc elt tg it cond))) (gName j)) :=
  PS.imp (ps_setLc (G.calm hh) G.nd hy hyl hsw hi ok (lc_hg G hh mt) ht he (not_folded hs)) fun D σ H q => lc_imp q
end
end VY
namespace VY
open PySem PySem.Spec
open PyProof.Rows hiding St
open L2
def tNub (K : PySem.W.Frag) (ta : TE) : TE := fun σ H Q => ta σ H fun x H1 => ∃ (l : Addr) (ns : List Int), x = .ref l ∧ SqL K H1 l (ns.map V.int) ∧ ns.length ≤ 4000 ∧ Q (.int ((firstMet (fun i => ns.getD i 0) ns.length).length : Nat)) H1
theorem pe_nub {X : Cx} {a : Expr} {ta : TE} {p p2 q pos : Pos} (hg : Gl X "len") (hm : X.mg "len" = none) (hg2 : Gl X "set") (hm2 : X.mg "set" = none) (ha : PE X a ta) (hc : X.calm = true) (na : notStar a = true) :
    PE X (.Call (.Name "len" p) [.Call (.Name "set" p2) [a] [] q] [] pos) (tNub X.K ta) := by
  refine ⟨fun pins s σ H Q inv hh => ?_⟩
  have st := star_eq (es := []) (env := X.env) na
  refine Call_ (ld_blt inv hg hm boot_len (PyProof.Rows.callWith_builtin1 (PyProof.Rows.args_cons ?_ rfl) rfl rfl))
  refine Call_ (ld_blt inv hg2 hm2 boot_set (PyProof.Rows.callWith_type1 (PyProof.Rows.args_cons (thn (ha.run pins s σ H _ inv hh) ?_) st) st rfl))
  rintro v s1 ⟨x, H1, J, rx, l, ns, rfl, hl, hz, hq⟩
  cases rx
  obtain ⟨its, vals, at_, _⟩ := J.list hl
  have sz : its.toArray.size = ns.length := by rw [List.size_toArray, ← vals.length, List.length_map]
  refine PyProof.Rows.args_nil (call_set_list (J.ok.hd hc) at_.isList (by simpa using RZ.intsAre_vals vals) (by rw [sz]; unfold scanBound; omega) fun h2 tk made kept => PyProof.Rows.args_nil ?_)
  rw [sz] at made
  obtain ⟨o, es, ep, t, ho, hex, hd, _, _, _, hf, hn⟩ := made
  have J2 : Inv X pins σ H1 { s1 with heap := h2, toks := tk } := J.kept fun b o e => kept b o (Heap.lt_size e) e
  have few : ∀ i : Nat, (firstMet (fun i => ns.getD i 0) i).length ≤ i := fun i => by
    induction i with
    | zero => exact Nat.le_refl _
    | succ i ih =>
      rw [firstMet_succ]
      unfold step_dedup
      split
      · omega
      · rw [List.length_append, List.length_singleton]; omega
  have fw := few ns.length
  exact call_len_set ho hex hd hf (by rw [hn] <;> omega) ⟨.int (firstMet (fun i => ns.getD i 0) ns.length).length, H1, J2.tok _, ⟨_, by rw [hn]⟩, hq⟩
theorem firstMet_nub (ns : List Int) : ∀ i, i ≤ ns.length → firstMet (fun i => ns.getD i 0) i = nubI (ns.take i)
  | 0, _ => by simp [nubI]; rfl
  | i + 1, h => by
    have hlt : i < ns.length := h
    rw [firstMet_succ, firstMet_nub ns i (Nat.le_of_lt hlt), List.take_succ, List.getElem?_eq_getElem hlt]
    unfold nubI step_dedup
    rw [List.foldl_append, List.getD_eq_getElem?_getD, List.getElem?_eq_getElem hlt]
    rfl
end VY
namespace VY
open PySem PySem.Spec
open PyProof.Rows hiding St
open L2
section
variable {K : PySem.W.Frag} {mg : Mg} {ρ ρ' ρ'' : List Addr} {I I' I'' : Addr → Prop} {h h' h'' : Hs} {H H' H'' H0 : Hp}
/-- the n-th object is another one -/
theorem hr_set {n : Nat} {a : Addr} {u u' : HOb} {o : HO} (r : HR K mg ρ I h H) (ea : ρ[n]? = some a) (eh : h[n]? = some u) (nd : u ≠ .dead) (nd' : u' ≠ .dead)
    (q : ∀ H', (∀ b, I b → H' b = H b) → H' a = some o → RepO K mg ρ I H' a u') : HR K mg ρ I (h.set n u') (upd H a o) := by
  have hn : n < h.length := (List.getElem?_eq_some_iff.mp eh).1
  have la : Live ρ h a := ⟨n, u, ea, eh, nd⟩
  have ni : ¬ I a := r.dis a la
  have lv : ∀ b, Live ρ (h.set n u') b → Live ρ h b := fun b ⟨m, w, e1, e2, d⟩ => by
    by_cases c : n = m
    · subst c; rw [ea] at e1; cases e1; exact la
    · rw [List.getElem?_set_ne c] at e2; exact ⟨m, w, e1, e2, d⟩
  have kp : Kp ρ I H ρ I (upd H a o) := kp_at o ni
  refine ⟨by rw [List.length_set]; exact r.len, fun m m' b w w' e1 e2 e3 e4 d d' => ?_, fun b l => r.dis b (lv b l), fun b i => upd_dom (r.idom b i), fun m w b e1 e2 => ?_⟩
  · by_cases c : n = m <;> by_cases c' : n = m'
    · exact c.symm.trans c'
    · subst c
      rw [List.getElem?_set_ne c'] at e4
      exact r.inj n m' b u w' e1 e2 eh e4 nd d'
    · subst c'
      rw [List.getElem?_set_ne c] at e3
      exact r.inj m n b w u e1 e2 e3 eh d nd
    · rw [List.getElem?_set_ne c] at e3
      rw [List.getElem?_set_ne c'] at e4
      exact r.inj m m' b w w' e1 e2 e3 e4 d d'
  · by_cases c : n = m
    · subst c
      rw [List.getElem?_set_self hn] at e1
      cases e1
      rw [ea] at e2
      cases e2
      exact q _ (fun b i => upd_ne fun z => ni (z ▸ i)) upd_same
    · rw [List.getElem?_set_ne c] at e1
      refine (r.obj m w b e1 e2).mono kp fun d => upd_ne fun z => ?_
      subst z
      exact c (r.inj n m b u w ea e2 eh e1 nd d)
/-- a thing is an object of the heap from now on -/
theorem hr_push {a : Addr} {u : HOb} {K : PySem.W.Frag} {mg : Mg} {ρ : List Addr} {I : Addr → Prop} {h : Hs} {H : Hp} (r : HR K mg ρ I h H) (p : RepO K mg ρ I H a u) (ni : ¬ I a) (nl : ¬ Live ρ h a) :
    HR K mg (ρ ++ [a]) I (h ++ [u]) H ∧ (∀ b, Live (ρ ++ [a]) (h ++ [u]) b → Live ρ h b ∨ b = a) := by
  have ix : ∀ {n : Nat} {b : Addr}, (ρ ++ [a])[n]? = some b → (n < ρ.length ∧ ρ[n]? = some b) ∨ (n = ρ.length ∧ b = a) := fun {n b} e => by
    by_cases hn : n < ρ.length
    · rw [List.getElem?_append_left hn] at e; exact .inl ⟨hn, e⟩
    · rw [List.getElem?_append_right (by omega)] at e
      have z : n - ρ.length = 0 := by
        have := (List.getElem?_eq_some_iff.mp e).1
        simp at this
        omega
      rw [z] at e
      cases e
      exact .inr ⟨by omega, rfl⟩
  have jx : ∀ {n : Nat} {o : HOb}, n < ρ.length → (h ++ [u])[n]? = some o → h[n]? = some o := fun {n o} hn e => by
    rw [List.getElem?_append_left (by rw [← r.len]; exact hn)] at e; exact e
  have kx : ∀ {o : HOb}, (h ++ [u])[ρ.length]? = some o → o = u := fun {o} e => by
    rw [r.len, List.getElem?_append_right (Nat.le_refl _), Nat.sub_self] at e
    cases e; rfl
  have kp : Kp ρ I H (ρ ++ [a]) I H := ⟨fun n b e => by rw [List.getElem?_append_left (List.getElem?_eq_some_iff.mp e).1]; exact e, fun _ e => e, fun _ _ => rfl⟩
  have lv : ∀ b, Live (ρ ++ [a]) (h ++ [u]) b → Live ρ h b ∨ b = a := fun b ⟨n, o, e1, e2, d⟩ => by
    rcases ix e1 with ⟨hn, e⟩ | ⟨_, e⟩
    · exact .inl ⟨n, o, e, jx hn e2, d⟩
    · exact .inr e
  refine ⟨⟨by rw [List.length_append, List.length_append, r.len]; rfl, fun n m b o o' e1 e2 e3 e4 d d' => ?_, fun b l i => (lv b l).elim (fun z => r.dis b z i) fun z => ni (z ▸ i), r.idom, fun n o b e1 e2 => ?_⟩, lv⟩
  · rcases ix e1 with ⟨hn, f1⟩ | ⟨hn, f1⟩ <;> rcases ix e2 with ⟨hm, f2⟩ | ⟨hm, f2⟩
    · exact r.inj n m b o o' f1 f2 (jx hn e3) (jx hm e4) d d'
    · subst f2; exact (nl ⟨n, o, f1, jx hn e3, d⟩).elim
    · subst f1; exact (nl ⟨m, o', f2, jx hm e4, d'⟩).elim
    · omega
  · rcases ix e2 with ⟨hn, f1⟩ | ⟨hn, f1⟩
    · exact (r.obj n o b (jx hn e1) f1).mono kp fun _ => rfl
    · subst f1 hn
      rw [kx e1]
      exact p.mono kp fun _ => rfl
theorem live_set {n : Nat} {a : Addr} {u u' : HOb} (ea : ρ[n]? = some a) (eh : h[n]? = some u) (nd : u ≠ .dead) : ∀ b, Live ρ (h.set n u') b → Live ρ h b := fun b ⟨m, w, e1, e2, d⟩ => by
  by_cases c : n = m
  · subst c; rw [ea] at e1; cases e1; exact ⟨n, u, ea, eh, nd⟩
  · rw [List.getElem?_set_ne c] at e2; exact ⟨m, w, e1, e2, d⟩
/-- an expression changes an object -/
theorem ext_setE {n : Nat} {a : Addr} {u u' : HOb} {o : HO} (ea : ρ[n]? = some a) (eh : h[n]? = some u) (nd : u ≠ .dead) : Ext ρ I h H ρ I (h.set n u') (upd H a o) where
  pre := fun _ _ e => e
  sub := fun _ e => e
  keep := fun b d l => upd_ne fun z => by subst z; exact l ⟨n, u, ea, eh, nd⟩
  dom := fun b d => upd_dom d
  inew := fun b e => .inl e
  lnew := fun b l => .inl (live_set ea eh nd b l)
/-- a thing that stands since then is an object now -/
theorem ext_push {a : Addr} {u : HOb} (x : Ext ρ I h H ρ' I' h' H') (e : H a = none) (lv : ∀ b, Live (ρ' ++ [a]) (h' ++ [u]) b → Live ρ' h' b ∨ b = a) : Ext ρ I h H (ρ' ++ [a]) I' (h' ++ [u]) H' where
  pre := fun n b q => by rw [List.getElem?_append_left (List.getElem?_eq_some_iff.mp (x.pre n b q)).1]; exact x.pre n b q
  sub := x.sub
  keep := x.keep
  dom := x.dom
  inew := x.inew
  lnew := fun b l => (lv b l).elim (x.lnew b) fun z => .inr (z ▸ e)
theorem kp_push {a : Addr} : Kp ρ I H (ρ ++ [a]) I H := ⟨fun n b e => by rw [List.getElem?_append_left (List.getElem?_eq_some_iff.mp e).1]; exact e, fun _ e => e, fun _ _ => rfl⟩
end
theorem mt_reverse {X : Cx} : MtR X "list.reverse" (fun x xs H Q => ∃ a vs, x = .ref a ∧ xs = [] ∧ H a = some (.lst vs) ∧ Q .non (upd H a (.lst vs.reverse))) := by
  intro pins s σ H x xs v us Q I rx rxs hh
  obtain ⟨a, vs, rfl, rfl, ha, q⟩ := hh
  cases rx
  cases rxs
  obtain ⟨z, its, n, r, hl, e⟩ := I.lstM ha
  refine call_meets PySem.F.slot_list_reverse ⟨_, e, rfl⟩ PySem.F.entry_list_reverse (PySem.F.args_list_reverse_1 _) (AutoSeq1.list_reverse_list_0 a its.toArray n (by rw [List.size_toArray]; omega)) ⟨e, ?_⟩
  exact ⟨V.non, _, I.lset (its' := its.reverse) ha e (by simp) r.reverse (by rw [List.length_reverse]; exact z), rfl, q⟩
end VY
namespace VY
open PySem PySem.Spec
open PyProof.Rows hiding St
open L2
theorem Reps.reverse {K : PySem.W.Frag} {mg : Mg} {ρ : List Addr} {I : Addr → Prop} {H : Hp} : ∀ {vs : List V} {l : List T}, Reps K mg ρ I H vs l → Reps K mg ρ I H vs.reverse l.reverse
  | [], [], _ => trivial
  | v :: vs, t :: l, ⟨a, b⟩ => by
    rw [List.reverse_cons, List.reverse_cons]
    exact (Reps.reverse b).append (ws := [v]) (m := [t]) ⟨a, trivial⟩
section
variable {X : Cx} {N : Nms} {Γ : Ctx} {k : Nat} {W : WX}
/-- each part has its reading -/
def AllE (X : Cx) (W : WX) (Γ : Ctx) : List E → List Expr → Prop
  | [], [] => True
  | e :: es, x :: xs => PE X x (tD X.K X.M W (evE Γ e)) ∧ AllE X W Γ es xs
  | _, _ => False
theorem AllE.one {es : List E} {x : Expr} (a : AllE X W Γ es [x]) : ∃ e, es = [e] ∧ PE X x (tD X.K X.M W (evE Γ e)) := by
  match es, a with
  | [e], a => exact ⟨e, rfl, a.1⟩
  | _ :: _ :: _, a => exact a.2.elim
theorem AllE.two {es : List E} {x y : Expr} (a : AllE X W Γ es [x, y]) : ∃ e f, es = [e, f] ∧ PE X x (tD X.K X.M W (evE Γ e)) ∧ PE X y (tD X.K X.M W (evE Γ f)) := by
  match es, a with
  | [e, f], a => exact ⟨e, f, rfl, a.1, a.2.1⟩
  | [_], a => exact a.2.elim
  | _ :: _ :: _ :: _, a => exact a.2.2.elim
/-- one part, then what is made of it -/
theorem op1 {o : Op} {e : E} {σ : St} {H : Hp} {Q : VK} (q : tD X.K X.M W (evE Γ (.op o [e])) σ H Q) :
    tD X.K X.M W (evE Γ e) σ H fun v H1 => ∃ ρ I h σT r, HR X.K X.M ρ I h H1 ∧ SR X.K X.M ρ I h H1 σT σ ∧ RO X.K X.M ρ I h H1 H σT σ v r ∧
      Nx X.K X.M W σ ρ I h H1 (opX Γ.cs σT o [r] h) fun r h' ρ' I' H' => ∀ v, RO X.K X.M ρ' I' h' H' H1 σT σ v r → Q v H' := by
  obtain ⟨ρ, I, σT, h, hr, sr, n⟩ := q
  rw [evE, evRs] at n
  refine ⟨ρ, I, σT, h, hr, sr, n.bind.bind.imp fun r h1 ρ1 I1 H1 x1 r1 n1 v o1 => ?_⟩
  rw [evRs] at n1
  have n2 : Nx X.K X.M W σ ρ1 I1 h1 H1 (opX Γ.cs σT o [r] h1) _ := n1 ρ1 I1 H1 .refl r1
  exact ⟨ρ1, I1, h1, σT, r, r1, sr.ext hr x1, o1, n2.imp fun r h' ρ' I' H' x' r' n' v o => n' v (o.back x1.dom)⟩
theorem s_rev {e : E} {pe : Expr} {k' : Nat} {p1 p2 p3 pos : Pos} (he : PE X pe (tD X.K X.M W (evE Γ e))) : PE X (.Subscript pe (.Slice none none (some (.UnaryOp .USub (.Constant (.int 1) k' p1) p2)) p3) pos) (tD X.K X.M W (evE Γ (.op .rev [e]))) := by
  refine PE.imp (pe_revL he) fun σ H Q q => ?_
  obtain ⟨ρ, I, σT, h, hr, sr, n⟩ := op1 q
  refine ⟨ρ, I, σT, h, hr, sr, n.imp fun r h1 ρ1 I1 H1 x1 r1 n1 v o1 => ?_⟩
  obtain ⟨ρ2, I2, h2, σ2, r', hr2, sr2, o2, n2⟩ := n1 v o1
  have n3 : Nx X.K X.M W σ ρ2 I2 h2 H1 (match peek σ2 h2 r' with | some (.lst l) => Out.ok (R.al l.reverse) h2 | some (.slst l) => .ok (R.al l.reverse) h2 | _ => .bad) _ := n2
  have pk := fun t e => o2.pk (t := t) sr2 hr2 e
  split at n3
  · rename_i l e
    obtain ⟨a, vs, rfl, p, w⟩ := pk _ e
    exact ⟨a, vs, rfl, SqL.of p, fun q hq => n3 ρ2 I2 _ (ext_new _ hq) (hr_new _ hr2 hq) (.ref q) ⟨q, vs.reverse, rfl, hq, upd_same, fun z => not_none (hr2.idom q z) hq, fun z => not_none (live_some hr2 z) hq, (w.reverse).mono (kp_new _ hr2 hq)⟩⟩
  · rename_i l e
    obtain ⟨a, vs, rfl, p, w⟩ := pk _ e
    exact ⟨a, vs, rfl, seq_of p, fun q hq => n3 ρ2 I2 _ (ext_new _ hq) (hr_new _ hr2 hq) (.ref q) ⟨q, vs.reverse, rfl, hq, upd_same, fun z => not_none (hr2.idom q z) hq, fun z => not_none (live_some hr2 z) hq, (w.reverse).mono (kp_new _ hr2 hq)⟩⟩
  · exact n3.elim
theorem s_lns (G : Gd X N Γ k W) (hh : N.hot = false) {e : E} {pe : Expr} {p p2 q pos : Pos} (hg : glbB X.env.scope "len" = true) (hg2 : glbB X.env.scope "set" = true) (na : notStar pe = true) (he : PE X pe (tD X.K X.M W (evE Γ e))) :
    PE X (.Call (.Name "len" p) [.Call (.Name "set" p2) [pe] [] q] [] pos) (tD X.K X.M W (evE Γ (.op .lns [e]))) := by
  refine PE.imp (pe_nub (glb_of hg).1 (G.bl .len) (glb_of hg2).1 (G.fr _ (by decide +kernel)) he (G.calm hh) na) fun σ H Q q => ?_
  obtain ⟨ρ, I, σT, h, hr, sr, n⟩ := op1 q
  refine ⟨ρ, I, σT, h, hr, sr, n.imp fun r h1 ρ1 I1 H1 x1 r1 n1 v o1 => ?_⟩
  obtain ⟨ρ2, I2, h2, σ2, r', hr2, sr2, o2, n2⟩ := n1 v o1
  have n3 : Nx X.K X.M W σ ρ2 I2 h2 H1 (match peek σ2 h2 r' with | some (.lst l) => lift ((intsOf l).bind fun ns => if ns.length ≤ 4000 then some (R.v (.int (nubI ns).length)) else none) h2 | _ => .bad) _ := n2
  have pk := fun t e => o2.pk (t := t) sr2 hr2 e
  split at n3
  · rename_i l e
    obtain ⟨a, vs, rfl, p, w⟩ := pk _ e
    obtain ⟨r, er, g⟩ := n3.lift
    obtain ⟨ns, en, er⟩ := Option.bind_eq_some_iff.mp er
    obtain ⟨c, rfl⟩ := ite_some er
    rw [ints_vs w en] at p
    refine ⟨a, ns, rfl, SqL.of p, c, ?_⟩
    rw [firstMet_nub ns ns.length (Nat.le_refl _), List.take_length]
    exact g ρ2 I2 H1 .refl hr2 _ rfl
  · exact n3.elim
/-- two parts, then what is made of them -/
theorem op2 {o : Op} {a b : E} {σ : St} {H : Hp} {Q : VK} (q : tD X.K X.M W (evE Γ (.op o [a, b])) σ H Q) :
    tD X.K X.M W (evE Γ a) σ H fun v H1 => tD X.K X.M W (evE Γ b) σ H1 fun u H2 => ∃ ρ I h σT r1 r2, HR X.K X.M ρ I h H2 ∧ SR X.K X.M ρ I h H2 σT σ ∧ RO X.K X.M ρ I h H2 H σT σ v r1 ∧ RO X.K X.M ρ I h H2 H σT σ u r2 ∧
      Nx X.K X.M W σ ρ I h H2 (opX Γ.cs σT o [r1, r2] h) fun r h' ρ' I' H' => ∀ v, RO X.K X.M ρ' I' h' H' H2 σT σ v r → Q v H' := by
  obtain ⟨ρ, I, σT, h, hr, sr, n⟩ := q
  rw [evE, evRs] at n
  refine ⟨ρ, I, σT, h, hr, sr, n.bind.bind.imp fun r1 h1 ρ1 I1 H1 x1 hr1 n1 v o1 => ?_⟩
  rw [evRs] at n1
  have s1 := sr.ext hr x1
  refine ⟨ρ1, I1, σT, h1, hr1, s1, n1.bind.bind.imp fun r2 h2 ρ2 I2 H2 x2 hr2 n2 u o2 => ?_⟩
  rw [evRs] at n2
  have n3 : Nx X.K X.M W σ ρ2 I2 h2 H2 (opX Γ.cs σT o [r1, r2] h2) _ := (n2 ρ2 I2 H2 .refl hr2) ρ2 I2 H2 .refl hr2
  exact ⟨ρ2, I2, h2, σT, r1, r2, hr2, s1.ext hr1 x2, o1.ext hr1 x2, o2.back x1.dom, n3.imp fun r h' ρ' I' H' x' r' n' v o => n' v (o.back fun a d => x2.dom a (x1.dom a d))⟩
theorem Nx.nb {K : PySem.W.Frag} {mg : Mg} {W : WX} {σ : St} {ρ : List Addr} {I : Addr → Prop} {h : Hs} {H : Hp} {α : Type} {o : Out α} {kk : α → Hs → List Addr → (Addr → Prop) → Hp → Prop} (n : Nx K mg W σ ρ I h H o kk) : o ≠ .bad := fun e => by
  subst e
  exact n
theorem fdv_inv {C : Cs} {σ : Slots} {r1 r2 : R} {h : Hs} (hn : opX C σ .fdv [r1, r2] h ≠ .bad) : ∃ i j, r1 = .v (.int i) ∧ r2 = .v (.int j) := by
  cases r1 with
  | al _ => exact (hn rfl).elim
  | bw _ => exact (hn rfl).elim
  | v t => cases r2 with
    | al _ => cases t <;> exact (hn rfl).elim
    | bw _ => cases t <;> exact (hn rfl).elim
    | v u => cases t <;> cases u <;> first | exact ⟨_, _, rfl, rfl⟩ | exact (hn rfl).elim
theorem s_fdv (G : Gd X N Γ k W) (hh : N.hot = false) {a b : E} {pa pb : Expr} {pos : Pos} (ha : PE X pa (tD X.K X.M W (evE Γ a))) (hb : PE X pb (tD X.K X.M W (evE Γ b))) : PE X (.BinOp pa .FloorDiv pb pos) (tD X.K X.M W (evE Γ (.op .fdv [a, b]))) := by
  refine ⟨fun pins s σ H Q I q => ?_⟩
  have q2 : tD X.K X.M W (evE Γ a) σ H fun v H1 => tD X.K X.M W (evE Γ b) σ H1 fun u H2 => ∃ i j, v = .int i ∧ u = .int j ∧ ((j = 0 ∧ ∀ d, W (.type "ZeroDivisionError") d σ H2) ∨ ∃ r, fdivT i j = some r ∧ Q (.int r) H2) := by
    obtain ⟨ρ, I, σT, h, hr, sr, n⟩ := op2 q
    refine ⟨ρ, I, σT, h, hr, sr, n.imp fun r1 h1 ρ1 I1 H1 x1 hr1 n1 v o1 => ?_⟩
    obtain ⟨ρ', I', σ', h', hr', sr', n'⟩ := n1 v o1
    refine ⟨ρ', I', σ', h', hr', sr', n'.imp fun r2 h2 ρ2 I2 H2 x2 hr2 n2 u o2 => ?_⟩
    obtain ⟨ρ3, I3, h3, σ3, r1, r2, hr3, sr3, o1, o2, n3⟩ := n2 u o2
    obtain ⟨i, j, rfl, rfl⟩ := fdv_inv n3.nb
    have n3 : Nx X.K X.M W σ ρ3 I3 h3 H2 (if j = 0 then Out.ex (.blt "ZeroDivisionError") h3 else lift ((fdivT i j).map fun r => R.v (.int r)) h3) _ := n3
    refine ⟨i, j, o1, o2, ?_⟩
    split at n3
    · rename_i hz
      exact .inl ⟨hz, fun d => n3 _ d ρ3 I3 H2 .refl hr3 rfl⟩
    · obtain ⟨r, er, g⟩ := n3.lift
      obtain ⟨z, ez, rfl⟩ := Option.map_eq_some_iff.mp er
      exact .inr ⟨z, ez, g ρ3 I3 H2 .refl hr3 _ rfl⟩
  refine wpAny_BinOp (binT ha hb I q2 fun v u s2 x y H2 J rx ry r => ?_)
  obtain ⟨i, j, rfl, rfl, ⟨hz, w⟩ | ⟨z, ez, q⟩⟩ := r
  · obtain ⟨t, rfl⟩ := (show ∃ t, v = Value.int i t from rx)
    obtain ⟨t', rfl⟩ := (show ∃ t, u = Value.int j t from ry)
    exact AutoIntOps.floordiv_0 (by rw [hz]; rfl) ⟨J.ok.hd (G.calm hh), fun h' tk e hx => takes_new (t' := tk) G.tk J hx w⟩
  · unfold fdivT at ez
    split at ez
    · cases ez
      exact op_fdivW pins s2 σ H2 _ _ v u Q J rx ry ⟨i, j, rfl, rfl, by assumption, q⟩
    · split at ez
      · cases ez
        exact op_fdivN pins s2 σ H2 _ _ v u Q J rx ry ⟨i, j, rfl, rfl, by assumption, q⟩
      · cases ez
/-- the receiver, then the rest -/
theorem mth1 {m : Mt} {o : E} {es : List E} {σ : St} {H : Hp} {Q : VK} (q : tD X.K X.M W (evE Γ (.mth m o es)) σ H Q) :
    tD X.K X.M W (evE Γ o) σ H fun v H1 => ∃ ρ I h σT x, HR X.K X.M ρ I h H1 ∧ SR X.K X.M ρ I h H1 σT σ ∧ RO X.K X.M ρ I h H1 H σT σ v x ∧ mtOk σT h m x = true ∧
      tRs X.K X.M W (evRs Γ es) σ H1 fun vs H2 => ∃ ρ2 I2 h2 rs, HR X.K X.M ρ2 I2 h2 H2 ∧ SR X.K X.M ρ2 I2 h2 H2 σT σ ∧ RO X.K X.M ρ2 I2 h2 H2 H σT σ v x ∧ ROs X.K X.M ρ2 I2 h2 H2 H σT σ vs rs ∧ (∀ a, (H a).isSome → (H2 a).isSome) ∧
        Nx X.K X.M W σ ρ2 I2 h2 H2 (mtX σT x m rs h2) fun r h' ρ' I' H' => ∀ v, RO X.K X.M ρ' I' h' H' H σT σ v r → Q v H' := by
  obtain ⟨ρ, I, σT, h, hr, sr, n⟩ := q
  rw [evE] at n
  refine ⟨ρ, I, σT, h, hr, sr, n.bind.imp fun x h1 ρ1 I1 H1 x1 hr1 n1 v o1 => ?_⟩
  have s1 := sr.ext hr x1
  cases ok : mtOk σT h1 m x with
  | false => rw [ok] at n1; exact n1.elim
  | true =>
    rw [ok] at n1
    have n1 : Nx X.K X.M W σ ρ1 I1 h1 H1 ((evRs Γ es σT h1).bind fun rs h2 => mtX σT x m rs h2) _ := n1
    refine ⟨ρ1, I1, h1, σT, x, hr1, s1, o1, ok, ρ1, I1, σT, h1, hr1, s1, n1.bind.imp fun rs h2 ρ2 I2 H2 x2 hr2 n2 vs ros => ?_⟩
    exact ⟨ρ2, I2, h2, rs, hr2, s1.ext hr1 x2, o1.ext hr1 x2, ros.back x1.dom, fun a d => x2.dom a (x1.dom a d), n2⟩
theorem ros0 {K : PySem.W.Frag} {mg : Mg} {ρ : List Addr} {I : Addr → Prop} {h : Hs} {H H0 : Hp} {σT : Slots} {σ : St} {vs : List V} (q : ROs K mg ρ I h H H0 σT σ vs []) : vs = [] := by
  cases vs with
  | nil => rfl
  | cons => exact q.elim
theorem ros1 {K : PySem.W.Frag} {mg : Mg} {ρ : List Addr} {I : Addr → Prop} {h : Hs} {H H0 : Hp} {σT : Slots} {σ : St} {vs : List V} {r : R} (q : ROs K mg ρ I h H H0 σT σ vs [r]) : ∃ v, vs = [v] ∧ RO K mg ρ I h H H0 σT σ v r := by
  match vs, q with
  | [v], q => exact ⟨v, rfl, q.1⟩
  | _ :: _ :: _, q => exact q.2.elim
theorem ros2 {K : PySem.W.Frag} {mg : Mg} {ρ : List Addr} {I : Addr → Prop} {h : Hs} {H H0 : Hp} {σT : Slots} {σ : St} {vs : List V} {r r' : R} (q : ROs K mg ρ I h H H0 σT σ vs [r, r']) : ∃ v v', vs = [v, v'] ∧ RO K mg ρ I h H H0 σT σ v r ∧ RO K mg ρ I h H H0 σT σ v' r' := by
  match vs, q with
  | [v, v'], q => exact ⟨v, v', rfl, q.1, q.2.1⟩
  | [_], q => exact q.2.elim
  | _ :: _ :: _ :: _, q => exact q.2.2.elim
theorem findIdx_some {ds : List PyData} {d : PyData} {j : Nat} (e : ds.findIdx? (fun z => PyData.eqv z d) = some j) : ∃ z, ds[j]? = some z ∧ PyData.eqv z d = true ∧ ∀ (m : Nat) (z' : PyData), m < j → ds[m]? = some z' → PyData.eqv z' d = false := by
  rw [List.findIdx?_eq_some_iff_getElem] at e
  obtain ⟨hj, h1, h2⟩ := e
  refine ⟨ds[j], List.getElem?_eq_getElem hj, h1, fun m z' hm hz => ?_⟩
  have hl : m < ds.length := by omega
  rw [List.getElem?_eq_getElem hl] at hz
  cases hz
  simpa using h2 m hm
theorem few_ok {env : Env} {cp : Pos} {xs : List Expr} (ns : xs.all notStar = true) (hf : xs.length < 30) : ((backTo cp (starEach xs env)).all (fun x => !x.1) && (backToKw cp (keywordEach [] env)).all (fun x => x.1.isSome)
      && decide (xs.length + ([] : List Keyword).length + (if ([] : List Keyword).isEmpty then 0 else 1) < 30)) = true := by
  have h1 : (backTo cp (starEach xs env)).all (fun x => !x.1) = true := by
    have := star_any (env := env) (pos := cp) ns
    rw [List.all_eq_not_any_not]
    simpa using this
  have h2 : (backToKw cp (keywordEach [] env)).all (fun x => x.1.isSome) = true := rfl
  rw [h1, h2]
  simpa using hf
/-- of a kind -/
def IsTy (X : Cx) (T' : String) (x : V) (H : Hp) : Prop := ∀ (pins : List (Addr × Obj)) (σ : St) (s : Shared) (v : Value), Inv X pins σ H s → RelV x v → s.TypeIs v T' ∧ ∀ a, v = .ref a → ∃ o, s.heap.get? a = some o ∧ o.dict = none
def tMt0 (X : Cx) (T' : String) (r : V → List V → Hp → VK → Prop) (to : TE) : TE := fun σ H Q => to σ H fun x H1 => IsTy X T' x H1 ∧ r x [] H1 Q
def tMt (X : Cx) (T' : String) (r : V → List V → Hp → VK → Prop) (to : TE) (t : TA) : TE := fun σ H Q => to σ H fun x H1 => IsTy X T' x H1 ∧ t σ H1 fun xs H2 => r x xs H2 Q
theorem pe_mt0 {o : Expr} {to : TE} {name : Str} {apos cpos : Pos} {T' id : String} {r : V → List V → Hp → VK → Prop} (pa : PlainAttrs T') (slot : Slot T' name id) (hty : typeOf (.builtin id) = pure (.type "method_descriptor")) (hm : MtR X id r) (ho : PE X o to)
    (hbase : attributeBase o name X.env (eval o X.env) = eval o X.env) (hline : (apos.endLine == cpos.line) = true) : PE X (.Call (.Attribute o name apos) [] [] cpos) (tMt0 X T' r to) := by
  refine ⟨fun pins s σ H Q I q => ?_⟩
  refine wpAny_Call_method0_late hbase hline (thn (ho.run pins s σ H _ I q) fun v s1 ⟨x, H1, I1, r1, ty, q1⟩ => ?_)
  obtain ⟨h1, h2⟩ := ty pins σ s1 v I1 r1
  exact ⟨T', id, pa, slot, hty, h1, h2, Calls.callWith_builtin rfl (PySem.evalArgs_none (hm pins s1 σ H1 x [] v [] Q I1 r1 .nil q1))⟩
theorem pe_mtN {o e : Expr} {es : List Expr} {to : TE} {t : TA} {name : Str} {apos cpos : Pos} {T' id : String} {r : V → List V → Hp → VK → Prop} (pa : PlainAttrs T') (slot : Slot T' name id) (hty : typeOf (.builtin id) = pure (.type "method_descriptor")) (hm : MtR X id r) (ho : PE X o to) (ha : PA X (e :: es) t)
    (hbase : attributeBase o name X.env (eval o X.env) = eval o X.env)
    (hfew : ((backTo cpos (starEach (e :: es) X.env)).all (fun x => !x.1) && (backToKw cpos (keywordEach [] X.env)).all (fun x => x.1.isSome)
      && decide ((e :: es).length + ([] : List Keyword).length + (if ([] : List Keyword).isEmpty then 0 else 1) < 30)) = true)
    (hline : (apos.endLine == cpos.line) = true) (hs : starEach (e :: es) X.env = (false, eval e X.env) :: starEach es X.env) (hplain : (backTo cpos (starEach es X.env)).any (·.1) = false) :
    PE X (.Call (.Attribute o name apos) (e :: es) [] cpos) (tMt X T' r to t) := by
  refine ⟨fun pins s σ H Q I q => ?_⟩
  refine wpAny_Call_method_late hbase hfew hline rfl (thn (ho.run pins s σ H _ I q) fun v s1 ⟨x, H1, I1, r1, ty, q1⟩ => ?_)
  obtain ⟨h1, h2⟩ := ty pins σ s1 v I1 r1
  refine ⟨T', id, pa, slot, hty, h1, h2, ?_⟩
  have hA := ha.run cpos pins s1 σ H1 _ I1 q1
  rw [hs] at hA ⊢
  refine Calls.callWith_builtin (by show (false || (backTo cpos (starEach es X.env)).any (·.1)) = false; rw [hplain] <;> rfl) (Calls.evalArgs_plain ?_)
  exact thn hA fun us s2 ⟨vs, H2, I2, r2, q2⟩ => hm pins s2 σ H2 x vs v us Q I2 r1 r2 q2
/-- a method by its rule -/
theorem mth_gen {m : Mt} {o : E} {es : List E} {pe : Expr} {xs : List Expr} {ap cp : Pos} {T' id : String} {r : V → List V → Hp → VK → Prop} (pa : PlainAttrs T') (slot : Slot T' m.name id) (hty : typeOf (.builtin id) = pure (.type "method_descriptor")) (hm : MtR X id r)
    (ho : PE X pe (tD X.K X.M W (evE Γ o))) (hes : PA X xs (tRs X.K X.M W (evRs Γ es))) (ns : xs.all notStar = true) (hl : (ap.endLine == cp.line) = true) (hb : baseOk pe = true) (hf : xs.length < 30) (he : xs = [] → es = [])
    (ty : ∀ {σ : St} {ρ : List Addr} {I : Addr → Prop} {h : Hs} {H H0 : Hp} {σT : Slots} {v : V} {x : R}, HR X.K X.M ρ I h H → SR X.K X.M ρ I h H σT σ → RO X.K X.M ρ I h H H0 σT σ v x → mtOk σT h m x = true → IsTy X T' v H)
    (go : ∀ {σ : St} {ρ : List Addr} {I : Addr → Prop} {h : Hs} {H H0 : Hp} {σT : Slots} {v : V} {x : R} {vs : List V} {rs : List R} {Q : VK}, HR X.K X.M ρ I h H → SR X.K X.M ρ I h H σT σ → RO X.K X.M ρ I h H H0 σT σ v x → ROs X.K X.M ρ I h H H0 σT σ vs rs → (∀ a, (H0 a).isSome → (H a).isSome) →
      Nx X.K X.M W σ ρ I h H (mtX σT x m rs h) (fun r h' ρ' I' H' => ∀ v, RO X.K X.M ρ' I' h' H' H0 σT σ v r → Q v H') → r v vs H Q) :
    PE X (.Call (.Attribute pe m.name ap) xs [] cp) (tD X.K X.M W (evE Γ (.mth m o es))) := by
  cases xs with
  | nil =>
    refine PE.imp (pe_mt0 pa slot hty hm ho (base_of hb) hl) fun σ H Q q => ?_
    obtain ⟨ρ, I, σT, h, hr, sr, n⟩ := mth1 q
    refine ⟨ρ, I, σT, h, hr, sr, n.imp fun x h1 ρ1 I1 H1 x1 hr1 n1 v o1 => ?_⟩
    obtain ⟨ρ2, I2, h2, σ2, x2, hr2, sr2, o2, ok, q3⟩ := n1 v o1
    refine ⟨ty hr2 sr2 o2 ok, ?_⟩
    cases he rfl
    obtain ⟨ρ3, I3, σ3, h3, hr3, sr3, n3⟩ := q3
    rw [evRs] at n3
    obtain ⟨ρ5, I5, h5, rs5, hr5, sr5, o5, ros5, d5, n5⟩ := n3 ρ3 I3 _ .refl hr3 [] trivial
    exact go hr5 sr5 o5 ros5 d5 n5
  | cons px pxs =>
    have ns' : (notStar px && pxs.all notStar) = true := by rw [← List.all_cons]; exact ns
    refine PE.imp (pe_mtN pa slot hty hm ho hes (base_of hb) (few_ok ns hf) hl (star_eq (and_tt ns').1) (star_any (and_tt ns').2)) fun σ H Q q => ?_
    obtain ⟨ρ, I, σT, h, hr, sr, n⟩ := mth1 q
    refine ⟨ρ, I, σT, h, hr, sr, n.imp fun x h1 ρ1 I1 H1 x1 hr1 n1 v o1 => ?_⟩
    obtain ⟨ρ2, I2, h2, σ2, x2, hr2, sr2, o2, ok, ρ3, I3, σ3, h3, hr3, sr3, n3⟩ := n1 v o1
    refine ⟨ty hr2 sr2 o2 ok, ρ3, I3, σ3, h3, hr3, sr3, n3.imp fun rs h4 ρ4 I4 H4 x4 hr4 n4 vs ros => ?_⟩
    obtain ⟨ρ5, I5, h5, rs5, hr5, sr5, o5, ros5, d5, n5⟩ := n4 vs ros
    exact go hr5 sr5 o5 ros5 d5 n5
theorem mt_dget2 {X : Cx} (hu : X.A.units + 1 < cLine) : MtR X "dict.get" (fun x xs H Q => ∃ a y z o, x = .ref a ∧ xs = [y, z] ∧ DGet H a y o ∧ Q (o.getD z) H) := by
  intro pins s σ H x xs v us Q I rx rxs hh
  obtain ⟨a, y, z, o, rfl, rfl, g, q⟩ := hh
  cases rx
  obtain ⟨u, w, rfl, ry, rz⟩ := rxs.two
  exact d_get2 hu I g ry rz fun w' s4 I4 rw' => ⟨_, H, I4, rw', q⟩
/-- a list's kind -/
theorem ty_list {σ : St} {ρ : List Addr} {I : Addr → Prop} {h : Hs} {H H0 : Hp} {σT : Slots} {v : V} {x : R} (hr : HR X.K X.M ρ I h H) (sr : SR X.K X.M ρ I h H σT σ) (o : RO X.K X.M ρ I h H H0 σT σ v x)
    (ok : (match peek σT h x with | some (.lst _) => true | some (.slst _) => true | _ => false) = true) : IsTy X "list" v H := by
  intro pins σ s u J ru
  refine tyV_is J ru ?_
  split at ok
  · rename_i l e
    obtain ⟨b, ws, rfl, p, _⟩ := o.pk sr hr e
    exact .inl ⟨rfl, ws, SqL.of p⟩
  · rename_i l e
    obtain ⟨b, ws, rfl, p, _⟩ := o.pk sr hr e
    exact .inl ⟨rfl, ws, seq_of p⟩
  · cases ok
theorem ty_dict {σ : St} {ρ : List Addr} {I : Addr → Prop} {h : Hs} {H H0 : Hp} {σT : Slots} {v : V} {x : R} (hr : HR X.K X.M ρ I h H) (sr : SR X.K X.M ρ I h H σT σ) (o : RO X.K X.M ρ I h H H0 σT σ v x)
    (ok : (match peek σT h x with | some (.dct _) => true | _ => false) = true) : IsTy X "dict" v H := by
  intro pins σ s u J ru
  split at ok
  · rename_i l e
    obtain ⟨b, ws, rfl, p, _⟩ := o.pk sr hr e
    cases ru
    obtain ⟨t1, t2, _⟩ := isD_at J (.inl ⟨ws, p⟩)
    exact ⟨t1, t2⟩
  · cases ok
theorem MtR.or {id : String} {r r' : V → List V → Hp → VK → Prop} (a : MtR X id r) (b : MtR X id r') : MtR X id fun x xs H Q => r x xs H Q ∨ r' x xs H Q :=
  fun pins s σ H x xs v us Q I rx rxs h => h.elim (a pins s σ H x xs v us Q I rx rxs) (b pins s σ H x xs v us Q I rx rxs)
theorem mt_appendR : MtR X "list.append" (fun x xs H Q => ∃ a vs y, x = .ref a ∧ xs = [y] ∧ H a = some (.lst vs) ∧ vs.length < sizeLine ∧ Q .non (upd H a (.lst (vs ++ [y])))) := by
  intro pins s σ H x xs v us Q I rx rxs hh
  obtain ⟨a, vs, y, rfl, rfl, ha, hz, q⟩ := hh
  cases rx
  obtain ⟨u, rfl, ru⟩ := rxs.one
  obtain ⟨z, its, n, r, hl, e⟩ := I.lstM ha
  refine call_meets PySem.F.slot_list_append ⟨_, e, rfl⟩ PySem.F.entry_list_append (PySem.F.args_list_append_2 _ _) (PySem.list_append a its.toArray n u (by rw [List.size_toArray]; omega)) ⟨e, ?_⟩
  refine ⟨V.non, _, I.lset (its' := its ++ [u]) ha e (by simp) (r.append (.cons ru .nil)) ?_, rfl, q⟩
  rw [List.length_append, List.length_singleton]
  omega
theorem ty_set {σ : St} {ρ : List Addr} {I : Addr → Prop} {h : Hs} {H H0 : Hp} {σT : Slots} {v : V} {x : R} (eM : X.M = X.M0) (hr : HR X.K X.M ρ I h H) (sr : SR X.K X.M ρ I h H σT σ) (o : RO X.K X.M ρ I h H H0 σT σ v x)
    (ok : mtOk σT h .add x = true) : IsTy X "set" v H := by
  intro pins σ s u J ru
  have ok : (match (generalizing := false) x with | .v (.ref _) => (match peek σT h x with | some (.kst _) => true | some (.tst _) => true | _ => false) | _ => false) = true := ok
  split at ok
  · split at ok
    · rename_i l e
      obtain ⟨b, rfl, nd, p⟩ := o.pk sr hr e
      cases ru
      have hS := setK_get J p
      exact ⟨hS.typeIs, hS.noDict⟩
    · rename_i l e
      obtain ⟨b, L, rfl, _, _, p, _⟩ := o.pk sr hr e
      cases ru
      obtain ⟨es, ep, t, R⟩ := setU_get J p
      obtain ⟨ob, ho, ⟨c1, c2, c3⟩, _⟩ := R.obj
      exact ⟨⟨ob, ho, c1⟩, fun a ea => by cases ea; exact ⟨ob, ho, c2⟩⟩
    · cases ok
  · cases ok
theorem reps_strs {K : PySem.W.Frag} {mg : Mg} {ρ : List Addr} {I : Addr → Prop} {H : Hp} : ∀ (l : List Str), Reps K mg ρ I H (l.map V.str) (l.map T.str)
  | [] => trivial
  | _ :: l => ⟨rfl, reps_strs l⟩
theorem strs_vs {K : PySem.W.Frag} {mg : Mg} {ρ : List Addr} {I : Addr → Prop} {H : Hp} : ∀ {vs : List V} {l : List T} {ys : List Str}, Reps K mg ρ I H vs l → strsOf l = some ys → vs = ys.map V.str
  | [], [], _, _, e => by cases e; rfl
  | v :: vs, t :: l, ys, ⟨a, b⟩, e => by
    cases t <;> try cases e
    rw [strsOf] at e
    obtain ⟨ys', e1, rfl⟩ := Option.map_eq_some_iff.mp e
    rw [List.map_cons, strs_vs b e1]
    exact congrArg (· :: _) a
theorem s_mth (G : Gd X N Γ k W) (hh : N.hot = false) {m : Mt} {o : E} {es : List E} {pe : Expr} {xs : List Expr} {ap cp : Pos} (ho : PE X pe (tD X.K X.M W (evE Γ o))) (a : AllE X W Γ es xs) (hes : PA X xs (tRs X.K X.M W (evRs Γ es))) (ns : xs.all notStar = true)
    (hl : (ap.endLine == cp.line) = true) (hb : baseOk pe = true) (hf : xs.length = m.ar) : PE X (.Call (.Attribute pe m.name ap) xs [] cp) (tD X.K X.M W (evE Γ (.mth m o es))) := by
  have lt : xs.length < 30 := by rw [hf]; cases m <;> decide
  have he : xs = [] → es = [] := fun z => by
    subst z
    cases es with
    | nil => rfl
    | cons => exact a.elim
  cases m with
  | index =>
    refine mth_gen PySem.F.plainAttrs_list PySem.F.slot_list_index PySem.F.type_list_index (mt_indexD G.hu) ho hes ns hl hb lt he (fun hr sr o ok => ty_list hr sr o ok) ?_
    intro σ ρ I h H H0 σT v x vs rs Q hr sr o ros d n
    match rs, ros, n with
    | [], _, n => exact n.elim
    | _ :: _ :: _, _, n => exact n.elim
    | [y], ros, n =>
      obtain ⟨u, rfl, oy⟩ := ros1 ros
      have fin : ∀ (b : Addr) (ws : List V) (l : List T) (t : T), SqL X.K H b ws → Reps X.K X.M ρ I H ws l → Pk X.K X.M ρ I H u t → ∀ {kk : R → Hs → List Addr → (Addr → Prop) → Hp → Prop}, Nx X.K X.M W σ ρ I h H (lift ((idxT t l).map fun (j : Nat) => R.v (.int j)) h) kk →
          (∀ j : Nat, kk (.v (.int j)) h ρ I H → Q (.int j) H) → rIndexD X.K (.ref b) [u] H Q := fun b ws l t s w p kk n fq => by
        obtain ⟨r, er, g⟩ := n.lift
        obtain ⟨j, ej, rfl⟩ := Option.map_eq_some_iff.mp er
        unfold idxT at ej
        cases z : toD t with
        | none => rw [z] at ej; cases ej
        | some d =>
          cases z' : toDs l with
          | none => rw [z, z'] at ej; cases ej
          | some ds =>
            rw [z, z'] at ej
            simp only [] at ej
            split at ej
            · rename_i c
              obtain ⟨zz, h1, h2, h3⟩ := findIdx_some ej
              exact ⟨b, u, d, ds, j, zz, rfl, rfl, .lst s (w.dp z'), p.dp z, (and_tt c).2, (and_tt c).1, h1, h2, h3, fq j (g ρ I H .refl hr)⟩
            · cases ej
      have n : Nx X.K X.M W σ ρ I h H (match peek σT h x, peek σT h y with
        | some (.lst l), some t => lift ((idxT t l).map fun (j : Nat) => R.v (.int j)) h
        | some (.slst l), some t => lift ((idxT t l).map fun (j : Nat) => R.v (.int j)) h
        | _, _ => .bad) _ := n
      split at n
      · rename_i l t e1 e2
        obtain ⟨b, ws, rfl, p, w⟩ := o.pk sr hr e1
        exact fin b ws l t (SqL.of p) w (oy.pk sr hr e2) n fun j q => q _ rfl
      · rename_i l t e1 e2
        obtain ⟨b, ws, rfl, p, w⟩ := o.pk sr hr e1
        exact fin b ws l t (seq_of p) w (oy.pk sr hr e2) n fun j q => q _ rfl
      · exact n.elim
  | get =>
    refine mth_gen PySem.F.plainAttrs_dict PySem.F.slot_dict_get PySem.F.type_dict_get (mt_dget2 (by have := G.hu; omega)) ho hes ns hl hb lt he (fun hr sr o ok => ty_dict hr sr o ok) ?_
    intro σ ρ I h H H0 σT v x vs rs Q hr sr o ros d n
    match rs, ros, n with
    | [], _, n => exact n.elim
    | [r], _, n => exact (by cases r <;> exact (show False from n).elim)
    | .al _ :: _ :: [], _, n => exact n.elim
    | .bw _ :: _ :: [], _, n => exact n.elim
    | r :: _ :: _ :: _, _, n => exact (by cases r <;> exact (show False from n).elim)
    | [.v y, z], ros, n =>
      obtain ⟨u, w, rfl, oy, oz⟩ := ros2 ros
      have n : Nx X.K X.M W σ ρ I h H (match peek σT h x, keyT y with
        | some (.dct l), some k => (match lookT l k with
          | some t => Out.ok (R.v t) h
          | none => .ok z h)
        | _, _ => .bad) _ := n
      split at n
      · rename_i l kk e1 e2
        obtain ⟨b, ov, rfl, dg, g1, g2⟩ := dget_of (o.pk sr hr e1) oy e2
        refine ⟨b, u, w, ov, rfl, rfl, dg, ?_⟩
        split at n
        · rename_i t et
          obtain ⟨w', rfl, rw'⟩ := g1 t et
          exact n ρ I H .refl hr w' rw'
        · rename_i et
          rw [g2 et]
          exact n ρ I H .refl hr w oz
      · exact n.elim
  | reverse =>
    refine mth_gen PySem.F.plainAttrs_list PySem.F.slot_list_reverse PySem.F.type_list_reverse mt_reverse ho hes ns hl hb lt he (fun {σ ρ I h H H0 σT v x} hr sr oo ok => ?_) ?_
    · unfold mtOk at ok
      simp only [] at ok
      split at ok
      · refine ty_list hr sr oo ?_
        split at ok
        · rename_i e; rw [e]
        · cases ok
      · cases ok
    · intro σ ρ I h H H0 σT v x vs rs Q hr sr o ros d n
      match rs, ros, n with
      | _ :: _, _, n => exact n.elim
      | [], ros, n =>
        cases ros0 ros
        have hx : ∃ m, x = .v (.ref m) := by
          cases x with
          | v t => cases t <;> first | exact ⟨_, rfl⟩ | exact n.elim
          | al _ => exact n.elim
          | bw _ => exact n.elim
        obtain ⟨m, rfl⟩ := hx
        have n : Nx X.K X.M W σ ρ I h H (match h[m]? with
            | some (.lst l) => Out.ok (R.v .non) (h.set m (.lst l.reverse))
            | _ => .bad) _ := n
        · split at n
          · rename_i l e
            obtain ⟨b, rfl, eb⟩ := (show ∃ a, v = .ref a ∧ ρ[m]? = some a from o)
            obtain ⟨ws, p, w⟩ := hr.obj m _ b e eb
            have nd : HOb.lst l ≠ .dead := fun z => by cases z
            have nd' : HOb.lst l.reverse ≠ .dead := fun z => by cases z
            exact ⟨b, ws, rfl, rfl, p, n ρ I _ (ext_setE eb e nd) (hr_set hr eb e nd nd' fun H' kp up => ⟨_, up, Reps.mono ⟨fun _ _ e => e, fun _ e => e, kp⟩ w.reverse⟩) _ rfl⟩
          · exact n.elim
  | append =>
    refine mth_gen PySem.F.plainAttrs_list PySem.F.slot_list_append PySem.F.type_list_append mt_appendR ho hes ns hl hb lt he (fun {_ _ _ h _ _ σT _ x} hr sr o ok => ty_list hr sr o (by
      have ok : (match (generalizing := false) x with | .v (.ref _) => (match peek σT h x with | some (.lst _) => true | _ => false) | _ => false) = true := ok
      split at ok
      · split at ok
        · rename_i e; rw [e]
        · cases ok
      · cases ok)) ?_
    intro σ ρ I h H H0 σT v x vs rs Q hr sr o ros d n
    match rs, ros, n with
    | [], _, n => exact n.elim
    | r1 :: _ :: _, _, n => exact (by cases r1 <;> exact (show False from n).elim)
    | [.al _], _, n => exact n.elim
    | [.bw _], _, n => exact n.elim
    | [.v t], ros, n =>
      obtain ⟨u, rfl, oy⟩ := ros1 ros
      replace n : Nx X.K X.M W σ ρ I h H (match (generalizing := false) x with
        | .v (.ref n) => (match h[n]? with
          | some (.lst l) => if l.length < SL then Out.ok (R.v .non) (h.set n (.lst (l ++ [t]))) else .bad
          | _ => .bad)
        | _ => .bad) _ := n
      split at n
      · rename_i m _
        split at n
        · rename_i l el
          split at n
          · rename_i hz
            obtain ⟨a, rfl, ea⟩ := (show ∃ a, v = .ref a ∧ ρ[m]? = some a from o)
            obtain ⟨ws, p, w⟩ := hr.obj m _ a el ea
            have oy' : Rep X.K X.M ρ I H u t := oy
            refine ⟨a, ws, u, rfl, rfl, p, by rw [w.length, sizeLine_eq]; exact hz, ?_⟩
            refine n ρ I _ (ext_setE ea el (fun z => nomatch z)) (hr_set hr ea el (fun z => nomatch z) (fun z => nomatch z) fun H' kk e => ⟨ws ++ [u], e, ?_⟩) .non rfl
            exact (Reps.mono ⟨fun _ _ z => z, fun _ z => z, kk⟩ w).append (ws := [u]) (m := [t]) ⟨oy'.mono ⟨fun _ _ z => z, fun _ z => z, kk⟩, trivial⟩
          · exact n.elim
        · exact n.elim
      · exact n.elim
  | add =>
    have eM := G.M hh
    refine mth_gen PySem.F.plainAttrs_set PySem.F.slot_set_add PySem.F.type_set_add (MtR.or mt_saddK (mt_addU (by have := G.hu; omega))) ho hes ns hl hb lt he (fun hr sr o ok => ty_set eM hr sr o ok) ?_
    intro σ ρ I h H H0 σT v x vs rs Q hr sr o ros d n
    match rs, ros, n with
    | [], _, n => exact n.elim
    | r1 :: _ :: _, _, n => exact (by cases r1 <;> exact (show False from n).elim)
    | [.al _], _, n => exact n.elim
    | [.bw _], _, n => exact n.elim
    | [.v t], ros, n =>
      obtain ⟨u, rfl, oy⟩ := ros1 ros
      have oy' : Rep X.K X.M ρ I H u t := oy
      replace n : Nx X.K X.M W σ ρ I h H (match (generalizing := false) x with
        | .v (.ref n) => (match h[n]? with
          | some (.set l) => (match keyT t with
            | some k => if l.length < 4000 then Out.ok (R.v .non) (h.set n (.set (if memK k l then l else l ++ [k]))) else .bad
            | none => .bad)
          | some (.tst l) => (match (match t with | .tup ts => keysT ts | _ => none) with
            | some k => if l.length < 300 then .ok (.v .non) (h.set n (.tst (if memKs k l then l else l ++ [k]))) else .bad
            | none => .bad)
          | _ => .bad)
        | _ => .bad) _ := n
      split at n
      · rename_i m _
        obtain ⟨a, rfl, ea⟩ := (show ∃ a, v = .ref a ∧ ρ[m]? = some a from o)
        split at n
        · rename_i l el
          split at n
          · rename_i kk ek
            split at n
            · rename_i hz
              obtain ⟨nd, p⟩ := hr.obj m _ a el ea
              refine .inl ⟨a, kk, _, _, rfl, by rw [key_v oy' ek], p, by have : (PySem.scanBound : Nat) = 4096 := rfl; omega, ?_⟩
              refine n ρ I _ (ext_setE ea el (fun z => nomatch z)) (hr_set hr ea el (fun z => nomatch z) (fun z => nomatch z) fun H' kk2 e => ?_) .non rfl
              by_cases hm : memK kk l = true
              · rw [if_pos hm]
                refine ⟨nd, ?_⟩
                rw [e]
                congr 1
                congr 1
                · funext j
                  by_cases hj : j = kk
                  · subst hj
                    have hm' : (l.any fun k2 => decide (k2 = j)) = true := hm
                    rw [hm', Bool.true_or]
                  · rw [decide_eq_false hj, Bool.or_false]
                · exact if_pos hm
              · rw [if_neg hm]
                have hm' : (l.any fun k2 => decide (k2 = kk)) = false := Bool.eq_false_iff.mpr hm
                refine ⟨?_, ?_⟩
                · rw [List.nodup_append]
                  refine ⟨nd, by simp, fun a ha b hb => ?_⟩
                  simp at hb
                  subst hb
                  intro e
                  subst e
                  have := List.any_eq_false.mp hm' a ha
                  simp at this
                · rw [e]
                  congr 1
                  congr 1
                  · funext j
                    rw [List.any_append]
                    congr 1
                    simp [eq_comm]
                  · rw [if_neg (by rw [hm']; simp), List.length_append]; rfl
            · exact n.elim
          · exact n.elim
        · rename_i l el
          split at n
          · rename_i kk ek
            split at n
            · rename_i hz
              cases t <;> try cases ek
              rename_i ts
              obtain ⟨b, ws, rfl, sb, wb⟩ := (show ∃ b ws, u = .ref b ∧ ((I b ∧ Rd H b (.tup ws)) ∨ StT X.K b ws) ∧ Reps X.K X.M ρ I H ws ts from oy')
              have ews := keys_v wb ek
              subst ews
              obtain ⟨L, m1, m2, p, el2⟩ := hr.obj m _ a el ea
              refine .inr ⟨a, b, kk, L, rfl, rfl, sb.elim (fun u => .inl u.2) .inr, p, fun p hp => (el2 p hp).elim (fun u => .inl u.2) .inr, by rw [m2]; exact Nat.lt_trans hz (by decide), fun L' l1 l2 => ?_⟩
              refine n ρ I _ (ext_setE ea el (fun z => nomatch z)) (hr_set hr ea el (fun z => nomatch z) (fun z => nomatch z) fun H' kk2 e => ?_) .non rfl
              have kp : Kp ρ I H ρ I H' := ⟨fun _ _ z => z, fun _ z => z, kk2⟩
              by_cases hm : memKs kk l = true
              · rw [if_pos hm]
                have hin : kk ∈ ksU L := (m1 kk).mp (by simpa [memKs] using hm)
                rw [l1 hin] at e
                exact ⟨L, m1, m2, e, fun p hp => elt_mono kp (el2 p hp)⟩
              · rw [if_neg hm]
                have hin : kk ∉ ksU L := fun z => hm (by simpa [memKs] using (m1 kk).mpr z)
                have pm := l2 hin
                refine ⟨L', fun j => ?_, ?_, e, fun p hp => ?_⟩
                · have e2 : j ∈ ksU L' ↔ j ∈ ksU ((b, kk) :: L) := (pm.map (·.2)).mem_iff
                  rw [e2, List.mem_append, m1 j]
                  simp [ksU, or_comm]
                · rw [pm.length_eq, List.length_cons, List.length_append, m2]; rfl
                · rcases List.mem_cons.mp (pm.mem_iff.mp hp) with z | z
                  · subst z
                    exact elt_mono kp sb
                  · exact elt_mono kp (el2 p z)
            · exact n.elim
          · exact n.elim
        · exact n.elim
      · exact n.elim
  | join =>
    refine mth_gen PySem.F.plainAttrs_str PySem.F.slot_str_join PySem.F.type_str_join mt_join ho hes ns hl hb lt he ?_ ?_
    · intro σ ρ I h H H0 σT v x hr sr o ok pins σ s u J ru
      have ok : (match (generalizing := false) x with | .v (.str _) => true | _ => false) = true := ok
      split at ok
      · cases (show v = .str _ from o)
        obtain ⟨t, rfl⟩ := ru
        exact ⟨typeIs_str s _ t, fun a e => nomatch e⟩
      · cases ok
    intro σ ρ I h H H0 σT v x vs rs Q hr sr o ros d n
    match rs, ros, n with
    | [], _, n => exact n.elim
    | _ :: _ :: _, _, n => exact n.elim
    | [y], ros, n =>
      obtain ⟨u, rfl, oy⟩ := ros1 ros
      replace n : Nx X.K X.M W σ ρ I h H (match (generalizing := false) x, peek σT h y with
        | .v (.str a), some (.tup l) => lift ((strsOf l).bind fun ys => if (ys.map (·.length)).sum + ys.length * a.length ≤ SL then some (R.v (.str (Txt.join a ys))) else none) h
        | .v (.str a), some (.lst l) => lift ((strsOf l).bind fun ys => if (ys.map (·.length)).sum + ys.length * a.length ≤ SL then some (R.v (.str (Txt.join a ys))) else none) h
        | _, _ => .bad) _ := n
      split at n
      · rename_i a l e _
        cases (show v = .str a from o)
        obtain ⟨b, ws, rfl, p, w⟩ := oy.pk sr hr e
        obtain ⟨r, er, g⟩ := n.lift
        obtain ⟨ys, ey, er⟩ := Option.bind_eq_some_iff.mp er
        obtain ⟨c, rfl⟩ := ite_some er
        rw [strs_vs w ey] at p
        exact ⟨a, b, ys, rfl, rfl, .inr (p.elim (fun u => .inl u.2) .inr), c, g ρ I H .refl hr _ rfl⟩
      · rename_i a l e _
        cases (show v = .str a from o)
        obtain ⟨b, ws, rfl, p, w⟩ := oy.pk sr hr e
        obtain ⟨r, er, g⟩ := n.lift
        obtain ⟨ys, ey, er⟩ := Option.bind_eq_some_iff.mp er
        obtain ⟨c, rfl⟩ := ite_some er
        rw [strs_vs w ey] at p
        exact ⟨a, b, ys, rfl, rfl, .inl (SqL.of p), c, g ρ I H .refl hr _ rfl⟩
      · exact n.elim
  | split =>
    refine mth_gen PySem.F.plainAttrs_str PySem.F.slot_str_split PySem.F.type_str_split mt_split ho hes ns hl hb lt he ?_ ?_
    · intro σ ρ I h H H0 σT v x hr sr o ok pins σ s u J ru
      have ok : (match (generalizing := false) x with | .v (.str _) => true | _ => false) = true := ok
      split at ok
      · cases (show v = .str _ from o)
        obtain ⟨t, rfl⟩ := ru
        exact ⟨typeIs_str s _ t, fun a e => nomatch e⟩
      · cases ok
    intro σ ρ I h H H0 σT v x vs rs Q hr sr o ros d n
    match rs, ros, n with
    | [], _, n => exact n.elim
    | .al _ :: _ :: _, _, n => exact n.elim
    | .bw _ :: _ :: _, _, n => exact n.elim
    | .v t :: _ :: _, _, n => exact (by cases t <;> exact (show False from n).elim)
    | [.al _], _, n => exact n.elim
    | [.bw _], _, n => exact n.elim
    | [.v t], ros, n =>
      cases t <;> try exact (show False from n).elim
      rename_i b
      obtain ⟨u, rfl, oy⟩ := ros1 ros
      cases (show u = .str b from oy)
      replace n : Nx X.K X.M W σ ρ I h H (match (generalizing := false) x with
        | .v (.str a) => if (b.length == 0) = false ∧ a.length + 2 ≤ SL then Out.ok (R.al ((Txt.split a b).map .str)) h else .bad
        | _ => .bad) _ := n
      split at n
      · rename_i a _
        cases (show v = .str a from o)
        split at n
        · rename_i c
          refine ⟨a, b, rfl, rfl, c.1, by rw [sizeLine_eq]; exact c.2, fun p hp => ?_⟩
          have w : Reps X.K X.M ρ I H ((Txt.split a b).map V.str) ((Txt.split a b).map T.str) := reps_strs _
          have x0 : (H0 p).isSome = false := by
            cases z : (H0 p).isSome with
            | false => rfl
            | true => have := d p z; rw [hp] at this; cases this
          have h0 : H0 p = none := by
            cases e : H0 p with
            | none => rfl
            | some q => rw [e] at x0; cases x0
          exact n ρ I _ (ext_new _ hp) (hr_new _ hr hp) _ ⟨p, _, rfl, h0, upd_same, fun z => not_none (hr.idom p z) hp, fun z => not_none (live_some hr z) hp, w.mono (kp_new _ hr hp)⟩
        · exact n.elim
      · exact n.elim
  | rmpre =>
    refine mth_gen PySem.F.plainAttrs_str PySem.F.slot_str_removeprefix PySem.F.type_str_removeprefix mt_removeprefix ho hes ns hl hb lt he ?_ ?_
    · intro σ ρ I h H H0 σT v x hr sr o ok pins σ s u J ru
      have ok : (match (generalizing := false) x with | .v (.str _) => true | _ => false) = true := ok
      split at ok
      · cases (show v = .str _ from o)
        obtain ⟨t, rfl⟩ := ru
        exact ⟨typeIs_str s _ t, fun a e => nomatch e⟩
      · cases ok
    intro σ ρ I h H H0 σT v x vs rs Q hr sr o ros d n
    match rs, ros, n with
    | [], _, n => exact n.elim
    | .al _ :: _ :: _, _, n => exact n.elim
    | .bw _ :: _ :: _, _, n => exact n.elim
    | .v t :: _ :: _, _, n => exact (by cases t <;> exact (show False from n).elim)
    | [.al _], _, n => exact n.elim
    | [.bw _], _, n => exact n.elim
    | [.v t], ros, n =>
      cases t <;> try exact (show False from n).elim
      rename_i b
      obtain ⟨u, rfl, oy⟩ := ros1 ros
      cases (show u = .str b from oy)
      replace n : Nx X.K X.M W σ ρ I h H (match (generalizing := false) x with
        | .v (.str a) => if a.length ≤ SL then Out.ok (R.v (.str (Txt.removeprefix a b))) h else .bad
        | _ => .bad) _ := n
      split at n
      · rename_i a _
        cases (show v = .str a from o)
        split at n
        · rename_i c
          exact ⟨a, b, rfl, rfl, by rw [sizeLine_eq]; exact c, n ρ I H .refl hr _ rfl⟩
        · exact n.elim
      · exact n.elim
def trsOf (X : Cx) (W : WX) (Γ : Ctx) : List E → List (TE × TE)
  | k :: v :: es => (tD X.K X.M W (evE Γ k), tD X.K X.M W (evE Γ v)) :: trsOf X W Γ es
  | _ => []
/-- pairs in turn -/
def flatP : List (V × V) → List V
  | [] => []
  | (x, y) :: r => x :: y :: flatP r
theorem pairs_run {σ : St} {σT : Slots} : ∀ (es : List E) {ρ : List Addr} {I : Addr → Prop} {h : Hs} {H : Hp} {kk : List T → Hs → List Addr → (Addr → Prop) → Hp → Prop} {Q : List (V × V) → Hp → Prop}, es.length % 2 = 0 → HR X.K X.M ρ I h H → SR X.K X.M ρ I h H σT σ → Nx X.K X.M W σ ρ I h H (evEs Γ es σT h) kk →
    (∀ ps H2 ρ2 I2 h2 ts, Ext ρ I h H ρ2 I2 h2 H2 → HR X.K X.M ρ2 I2 h2 H2 → Reps X.K X.M ρ2 I2 H2 (flatP ps) ts → kk ts h2 ρ2 I2 H2 → Q ps H2) → tPairs (trsOf X W Γ es) σ H Q
  | [], ρ, I, h, H, kk, Q, _, hr, sr, n, k => by
    rw [evEs] at n
    exact k [] H ρ I h [] .refl hr trivial (n ρ I H .refl hr)
  | [_], ρ, I, h, H, kk, Q, e, _, _, _, _ => by simp at e
  | a :: b :: es, ρ, I, h, H, kk, Q, he, hr, sr, n, k => by
    rw [evEs] at n
    refine ⟨ρ, I, σT, h, hr, sr, n.bind.imp' fun x h1 ρ1 I1 H1 x1 hr1 n0 v o1 => ?_⟩
    cases e : frz x with
    | none => have n1 := n0 ρ1 I1 H1 x1 hr1; rw [e] at n1; exact n1.elim
    | some t =>
      obtain ⟨J1, y1, q1, r1⟩ := o1.keep x1 hr1 e
      have n1 := n0 ρ1 J1 H1 y1 q1
      rw [e, evEs] at n1
      have sr1 := sr.ext hr y1
      refine ⟨ρ1, J1, σT, h1, q1, sr1, n1.bind.bind.imp' fun x' h2 ρ2 I2 H2 x2 hr2 m0 u o2 => ?_⟩
      cases e' : frz x' with
      | none => have m1 := m0 ρ2 I2 H2 x2 hr2; rw [e'] at m1; exact m1.elim
      | some t' =>
        obtain ⟨J2, y2, q2, r2⟩ := o2.keep x2 hr2 e'
        have m1 := m0 ρ2 J2 H2 y2 q2
        rw [e'] at m1
        have sr2 := sr1.ext q1 y2
        refine pairs_run es (by simp at he; omega) q2 sr2 m1.bind fun ps H3 ρ3 I3 h3 ts y3 q3 rp k3 => ?_
        exact k ((v, u) :: ps) H3 ρ3 I3 h3 (t :: t' :: ts) ((y1.trans y2).trans y3) q3 ⟨(r1.mono (y2.kp q1)).mono (y3.kp q2), r2.mono (y3.kp q2), rp⟩ ((k3 ρ3 I3 H3 .refl q3) ρ3 I3 H3 .refl q3)
theorem Nx.bind0 {K : PySem.W.Frag} {mg : Mg} {W : WX} {σ : St} {ρ : List Addr} {I : Addr → Prop} {h : Hs} {H : Hp} {α β : Type} {o : Out α} {g : α → Hs → Out β} {kk : β → Hs → List Addr → (Addr → Prop) → Hp → Prop} (n : Nx K mg W σ ρ I h H (o.bind g) kk) :
    Nx K mg W σ ρ I h H o fun a h' _ _ _ => Nx K mg W σ ρ I h H (g a h') kk := by
  cases o with
  | ok a h1 => exact fun _ _ _ _ _ => n
  | ex x h1 => exact n
  | bad => exact n
theorem pairs_at {K : PySem.W.Frag} {mg : Mg} {ρ : List Addr} {I : Addr → Prop} {H : Hp} : ∀ {ps : List (V × V)} {ts : List T} {kvs : List (Key × T)}, pairsT ts = some kvs → Reps K mg ρ I H (flatP ps) ts →
    ∃ ws : List (Key × V), ps = ws.map (fun kv => (kV kv.1, kv.2)) ∧ RepD K mg ρ I H ws kvs
  | [], [], kvs, e, _ => by cases e; exact ⟨[], rfl, trivial⟩
  | (x, y) :: ps, k :: t :: ts, kvs, e, ⟨r1, r2, r⟩ => by
    rw [pairsT] at e
    cases ek : keyT k with
    | none => rw [ek] at e; cases e
    | some kk =>
      cases er : pairsT ts with
      | none => rw [ek, er] at e; cases e
      | some m =>
        rw [ek, er] at e
        cases e
        obtain ⟨ws, e1, e2⟩ := pairs_at er r
        exact ⟨(kk, y) :: ws, by rw [keyT_kV r1 ek, e1]; rfl, rfl, r2, e2⟩
/-- a new dict -/
theorem s_dsp {es : List E} {keys : List (Option Expr)} {values : List Expr} {pos : Pos} (P : PPs X pos keys values (trsOf X W Γ es)) (hall : keys.all (·.isSome) = true) (hl : keys.length = values.length) (h0 : keys ≠ []) (h15 : keys.length ≤ 15) (he : es.length % 2 = 0) :
    PE X (.Dict keys values pos) (tD X.K X.M W (evE Γ (.dsp es))) := by
  refine PE.imp (pe_disp P hall hl h0 h15) fun σ H Q q => ?_
  obtain ⟨ρ, I, σT, h, hr, sr, n⟩ := q
  rw [evE] at n
  intro p hp
  have x0 : Ext ρ I h H ρ I h (upd H p (.dK [])) := ext_new _ hp
  have hr0 := hr_new (.dK []) hr hp
  have n0 := n.bind0.from x0
  refine pairs_run es he hr0 (sr.ext hr x0) n0 fun ps H2 ρ2 I2 h2 ts x2 hr2 rp k2 => ?_
  have nl : ¬ Live ρ h p := fun z => not_none (live_some hr z) hp
  have hp2 : H2 p = some (.dK []) := (x2.keep p (isSome_of upd_same) nl).trans upd_same
  split at k2
  · rename_i kvs ek
    split at k2
    · rename_i c
      obtain ⟨ws, e1, e3⟩ := pairs_at ek rp
      refine ⟨hp2, ws, e1, by rw [e3.len]; exact c.1, ?_⟩
      have ni2 : ¬ I2 p := fun z => by
        rcases x2.inew p z with i | i | i
        · exact not_none (hr.idom p i) hp
        · rw [upd_same] at i; cases i
        · exact nl i
      have nl2 : ¬ Live ρ2 h2 p := fun z => by
        rcases x2.lnew p z with i | i
        · exact nl i
        · rw [upd_same] at i; cases i
      have kp := kp_at (ρ := ρ2) (I := I2) (H := H2) (.dK (mergeK [] ws)) ni2
      have hr3 := hr_at (.dK (mergeK [] ws)) hr2 ni2 nl2
      have w3 : RepD X.K X.M ρ2 I2 (upd H2 p (.dK (mergeK [] ws))) (mergeK [] ws) (mergeT [] kvs) := (RepD.merge e3 (show RepD X.K X.M ρ2 I2 H2 [] [] from trivial)).mono kp
      obtain ⟨hr4, lv⟩ := hr_push hr3 (u := .dct (mergeT [] kvs)) ⟨_, upd_same, w3⟩ ni2 nl2
      have x3 : Ext ρ I h H ρ2 I2 h2 (upd H2 p (.dK (mergeK [] ws))) := by
        have x := x0.trans x2
        refine ⟨x.pre, x.sub, fun b d l => ?_, fun b d => upd_dom (x.dom b d), x.inew, x.lnew⟩
        rw [upd_ne (fun z => by subst z; exact not_none d hp)]
        exact x.keep b d l
      refine k2 _ _ _ (ext_push x3 hp lv) hr4 _ ?_
      exact ⟨p, rfl, by rw [← hr2.len, List.getElem?_append_right (Nat.le_refl _), Nat.sub_self]; rfl⟩
    · exact k2.elim
  · exact k2.elim
theorem s_set0 (G : Gd X N Γ k W) (hh : N.hot = false) {p pos : Pos} (hg : glbB X.env.scope "set" = true) : PE X (.Call (.Name "set" p) [] [] pos) (tD X.K X.M W (evE Γ (.op .set0 []))) := by
  refine PE.imp (pe_callTy0 (T := "set") cr_set0K (glb_of hg).1 (G.fr _ (by decide +kernel)) (by decide +kernel)) ?_
  rintro σ H Q ⟨ρ, I, σT, h, hr, sr, n⟩
  have n : Nx X.K X.M W σ ρ I h H (Out.ok (R.v (.ref h.length)) (h ++ [HOb.set []])) _ := n
  refine ⟨rfl, fun p hp => ?_⟩
  have eM := G.M hh
  have r1 := hr_new (SetK X.prog X.w p (fun _ => false) 0) hr hp
  have ni : ¬ I p := fun z => not_none (hr.idom p z) hp
  have nl : ¬ Live ρ h p := fun z => not_none (live_some hr z) hp
  obtain ⟨r2, lv⟩ := hr_push (u := .set []) r1 ⟨List.nodup_nil, upd_same⟩ ni nl
  exact n _ _ _ (ext_push (ext_new _ hp) hp lv) r2 _ ⟨p, rfl, by rw [← hr.len, List.getElem?_append_right (Nat.le_refl _), Nat.sub_self]; rfl⟩
theorem s_tset0 (G : Gd X N Γ k W) (hh : N.hot = false) {p pos : Pos} (hg : glbB X.env.scope "set" = true) : PE X (.Call (.Name "set" p) [] [] pos) (tD X.K X.M W (evE Γ (.op .tset0 []))) := by
  refine PE.imp (pe_callTy0 (T := "set") cr_set0U (glb_of hg).1 (G.fr _ (by decide +kernel)) (by decide +kernel)) ?_
  rintro σ H Q ⟨ρ, I, σT, h, hr, sr, n⟩
  have n : Nx X.K X.M W σ ρ I h H (Out.ok (R.v (.ref h.length)) (h ++ [HOb.tst []])) _ := n
  refine ⟨rfl, fun p hp => ?_⟩
  have r1 := hr_new (SetU X.prog X.w p []) hr hp
  have ni : ¬ I p := fun z => not_none (hr.idom p z) hp
  have nl : ¬ Live ρ h p := fun z => not_none (live_some hr z) hp
  obtain ⟨r2, lv⟩ := hr_push (u := .tst []) r1 ⟨[], fun k => by simp [ksU], rfl, upd_same, fun p hp => nomatch hp⟩ ni nl
  exact n _ _ _ (ext_push (ext_new _ hp) hp lv) r2 _ ⟨p, rfl, by rw [← hr.len, List.getElem?_append_right (Nat.le_refl _), Nat.sub_self]; rfl⟩
theorem s_lrg (G : Gd X N Γ k W) (hh : N.hot = false) {e : E} {pe : Expr} {p p2 q pos : Pos} (hg : glbB X.env.scope "list" = true) (hg2 : glbB X.env.scope "range" = true) (na : notStar pe = true) (he : PE X pe (tD X.K X.M W (evE Γ e))) :
    PE X (.Call (.Name "list" p) [.Call (.Name "range" p2) [pe] [] q] [] pos) (tD X.K X.M W (evE Γ (.op .lrg [e]))) := by
  refine PE.imp (pe_listRg (G.calm hh) (glb_of hg).1 (G.bl .list) (prg_1 (glb_of hg2).1 (G.fr _ (by decide +kernel)) he (star_eq na))) fun σ H Q q => ?_
  obtain ⟨ρ, I, σT, h, hr, sr, n⟩ := op1 q
  refine ⟨ρ, I, σT, h, hr, sr, n.imp fun r h1 ρ1 I1 H1 x1 r1 n1 v o1 => ?_⟩
  obtain ⟨ρ2, I2, h2, σ2, r', hr2, sr2, o2, n2⟩ := n1 v o1
  cases r' with
  | al _ => exact n2.elim
  | bw _ => exact n2.elim
  | v t =>
    cases t <;> try exact (show False from n2).elim
    rename_i j
    have n3 : Nx X.K X.M W σ ρ2 I2 h2 H1 (if 0 ≤ j ∧ j ≤ 16777216 then lift ((rngT 0 j).map R.al) h2 else .bad) _ := n2
    split at n3
    · rename_i hj
      obtain ⟨r, er, g⟩ := n3.lift
      obtain ⟨ts, et, rfl⟩ := Option.map_eq_some_iff.mp er
      obtain ⟨⟨_, _, c1, c2⟩, rfl⟩ := rng_inv et
      refine ⟨j, o2, RgOk.of_le (Int.le_refl _) hj.2 (by omega) hj.1, fun q hq => ?_⟩
      have reps : ∀ (l : List Nat), Reps X.K X.M ρ2 I2 (upd H1 q (.lst (rgV 0 j))) (l.map fun (i : Nat) => V.int (0 + (i : Nat))) (l.map fun (k : Nat) => T.int (0 + (k : Int))) := fun l => by
        induction l with
        | nil => exact trivial
        | cons i l ih => exact ⟨rfl, ih⟩
      exact g ρ2 I2 _ (ext_new _ hq) (hr_new _ hr2 hq) (.ref q) ⟨q, rgV 0 j, rfl, hq, upd_same, fun z => not_none (hr2.idom q z) hq, fun z => not_none (live_some hr2 z) hq, reps _⟩
    · exact n3.elim
theorem repF_look {K : PySem.W.Frag} {mg : Mg} {ρ : List Addr} {I : Addr → Prop} {H : Hp} {f : Str} : ∀ {vs : List (Str × V)} {fs : List (Str × T)}, RepF K mg ρ I H vs fs → (∀ t, fs.lookup f = some t → ∃ v, vs.lookup f = some v ∧ Rep K mg ρ I H v t) ∧ (fs.lookup f = none → vs.lookup f = none)
  | [], [], _ => ⟨fun t e => (nomatch e), fun _ => rfl⟩
  | (g, v) :: vs, (g', t') :: fs, ⟨e, a, b⟩ => by
    have e : g = g' := e
    subst e
    by_cases c : f = g
    · subst c
      simp only [List.lookup, beq_self_eq_true]
      exact ⟨fun t e => by cases e; exact ⟨v, rfl, a⟩, fun e => nomatch e⟩
    · have cb : (f == g) = false := by simpa using c
      simp only [List.lookup, cb]
      exact repF_look b
theorem s_at (G : Gd X N Γ k W) {f : Str} {e : E} {pe : Expr} {pos : Pos} (hb : baseOk pe = true) (he : PE X pe (tD X.K X.M W (evE Γ e))) : PE X (.Attribute pe f pos) (tD X.K X.M W (evE Γ (.op (.at f) [e]))) := by
  refine PE.imp (pe_fld he (base_of hb)) fun σ H Q q => ?_
  obtain ⟨ρ, I, σT, h, hr, sr, n⟩ := op1 q
  refine ⟨ρ, I, σT, h, hr, sr, n.imp fun r h1 ρ1 I1 H1 x1 r1 n1 v o1 => ?_⟩
  obtain ⟨ρ2, I2, h2, σ2, r', hr2, sr2, o2, n2⟩ := n1 v o1
  have fin : ∀ {a C : Addr} {dx : Addr} {ws : List (Str × V)} {c : Str} {fs : List (Str × T)}, v = .ref a → X.mg c = some (.ref C) → H1 a = some (.ins C dx ws) → RepF X.K X.M ρ2 I2 H1 ws fs → Nx X.K X.M W σ ρ2 I2 h2 H1 (if Γ.cs.at_ c f then lift ((fs.lookup f).map R.v) h2 else .bad) (fun r h' ρ' I' H' => ∀ v, RO X.K X.M ρ' I' h' H' H1 σ2 σ v r → Q v H') →
      ∃ a C dx fs v', v = .ref a ∧ H1 a = some (.ins C dx fs) ∧ Cls X.K C ∧ NoAttr X.K C f ∧ fs.lookup f = some v' ∧ Q v' H1 := fun {a C dx ws c fs} ev hm ha w n => by
    split at n
    · rename_i hc
      obtain ⟨C', hm', cl, na⟩ := G.at_ c f hc
      rw [hm] at hm'
      cases hm'
      obtain ⟨r, er, g⟩ := n.lift
      obtain ⟨t, et, rfl⟩ := Option.map_eq_some_iff.mp er
      obtain ⟨v', l, rp⟩ := (repF_look w).1 t et
      exact ⟨a, C, dx, ws, v', ev, ha, cl, na, l, g ρ2 I2 H1 .refl hr2 v' rp⟩
    · exact n.elim
  cases r' with
  | al _ => exact n2.elim
  | bw _ => exact n2.elim
  | v t =>
    cases t <;> try exact (show False from n2).elim
    · rename_i m
      obtain ⟨a, ev, ea⟩ := (show ∃ a, v = .ref a ∧ ρ2[m]? = some a from o2)
      have n3 : Nx X.K X.M W σ ρ2 I2 h2 H1 (match h2[m]? with | some (.ins c fs) => if Γ.cs.at_ c f then lift ((fs.lookup f).map R.v) h2 else .bad | _ => .bad) _ := n2
      split at n3
      · rename_i c fs el
        obtain ⟨C, dx, ws, hm, ha, w⟩ := hr2.obj m _ a el ea
        exact fin ev hm ha w n3
      · exact n3.elim
    · rename_i c fs
      obtain ⟨a, C, dx, ws, ev, i, hm, ha, w⟩ := (show ∃ a C dx ws, v = .ref a ∧ I2 a ∧ X.mg c = some (.ref C) ∧ H1 a = some (.ins C dx ws) ∧ RepF X.K X.M ρ2 I2 H1 ws fs from o2)
      exact fin ev hm ha w n2
theorem s_op (G : Gd X N Γ k W) (hh : N.hot = false) {o : Op} {es : List E} {pe : Expr} {xs : List Expr} (hs : shp X.env.scope o pe = some xs) (a : AllE X W Γ es xs) : PE X pe (tD X.K X.M W (evE Γ (.op o es))) := by
  cases o with
  | rev =>
    have hs : shpRev pe = some xs := hs
    unfold shpRev at hs
    split at hs
    · split at hs
      · rename_i hi
        subst hi
        cases hs
        obtain ⟨e, rfl, he⟩ := a.one
        exact s_rev he
      · cases hs
    · cases hs
  | lns =>
    have hs : shpLns X.env.scope pe = some xs := hs
    unfold shpLns at hs
    split at hs
    · split at hs
      · rename_i hi
        cases hs
        have q := and_tt hi
        have q1 := and_tt q.1
        have q2 := and_tt q1.1
        have q3 := and_tt q2.1
        cases of_decide_eq_true q3.1
        cases of_decide_eq_true q3.2
        obtain ⟨e, rfl, he⟩ := a.one
        exact s_lns G hh q2.2 q1.2 q.2 he
      · cases hs
    · cases hs
  | fdv =>
    have hs : shpFdv pe = some xs := hs
    unfold shpFdv at hs
    split at hs
    · cases hs
      obtain ⟨e, f, rfl, he, hf⟩ := a.two
      exact s_fdv G hh he hf
    · cases hs
  | set0 =>
    have hs : shpSet X.env.scope pe = some xs := hs
    unfold shpSet at hs
    split at hs
    · split at hs
      · rename_i hi
        cases hs
        have q := and_tt hi
        cases of_decide_eq_true q.1
        cases es with
        | nil => exact s_set0 G hh q.2
        | cons => exact a.elim
      · cases hs
    · cases hs
  | tset0 =>
    have hs : shpSet X.env.scope pe = some xs := hs
    unfold shpSet at hs
    split at hs
    · split at hs
      · rename_i hi
        cases hs
        have q := and_tt hi
        cases of_decide_eq_true q.1
        cases es with
        | nil => exact s_tset0 G hh q.2
        | cons => exact a.elim
      · cases hs
    · cases hs
  | lrg =>
    have hs : shpLrg X.env.scope pe = some xs := hs
    unfold shpLrg at hs
    split at hs
    · split at hs
      · rename_i hi
        cases hs
        have q := and_tt hi
        have q1 := and_tt q.1
        have q2 := and_tt q1.1
        have q3 := and_tt q2.1
        cases of_decide_eq_true q3.1
        cases of_decide_eq_true q3.2
        obtain ⟨e, rfl, he⟩ := a.one
        exact s_lrg G hh q2.2 q1.2 q.2 he
      · cases hs
    · cases hs
  | «at» f =>
    have hs : shpAt f pe = some xs := hs
    unfold shpAt at hs
    split at hs
    · split at hs
      · rename_i hi
        cases hs
        have q := and_tt hi
        cases of_decide_eq_true q.1
        obtain ⟨e, rfl, he⟩ := a.one
        exact s_at G q.2 he
      · cases hs
    · cases hs
end
end VY
namespace VY
open PySem PySem.Spec
open PyProof.Rows hiding St
open L2
/-- a dict that nobody else holds -/
def DO (K : PySem.W.Frag) (mg : Mg) (ρ : List Addr) (I : Addr → Prop) (h : Hs) (H : Hp) (D : Addr) (acc : List (Key × T)) : Prop :=
  ∃ ws, H D = some (.dK ws) ∧ ¬ I D ∧ ¬ Live ρ h D ∧ RepD K mg ρ I H ws acc
section
variable {X : Cx} {N : Nms} {Γ : Ctx} {k : Nat} {W : WX}
theorem DO.ext {K : PySem.W.Frag} {mg : Mg} {ρ ρ' : List Addr} {I I' : Addr → Prop} {h h' : Hs} {H H' : Hp} {D : Addr} {acc : List (Key × T)} (o : DO K mg ρ I h H D acc) (hr : HR K mg ρ I h H) (x : Ext ρ I h H ρ' I' h' H') : DO K mg ρ' I' h' H' D acc := by
  obtain ⟨ws, p, ni, nl, w⟩ := o
  refine ⟨ws, (x.keep D (isSome_of p) nl).trans p, fun z => ?_, fun z => ?_, w.mono (x.kp hr)⟩
  · rcases x.inew D z with u | u | u
    · exact ni u
    · rw [u] at p; cases p
    · exact nl u
  · rcases x.lnew D z with u | u
    · exact nl u
    · rw [u] at p; cases p
theorem dc_imp {ke ve : E} {tg : Tg} {it : It} {K : PySem.W.Frag} {mg : Mg} {nm : List Str} {σ : St} {H : Hp} {Q : VK} (q : tD K mg W (evE Γ (.dc ke ve tg it)) σ H Q) :
    tDc (tIt K mg W true (evIt Γ true it)) (tTg K mg tg.ixs tg) (tB K mg (fun _ _ _ _ => False) (evC Γ .yes)) (tD K mg (fun _ _ _ _ => False) (evE Γ ke)) (tD K mg (fun _ _ _ _ => False) (evE Γ ve)) ((ownOf nm tg).map (·.2)) σ H Q := by
  obtain ⟨ρ, I, σT, h, hr, sr, n⟩ := q
  rw [evE] at n
  rw [own_ixs]
  refine ⟨ρ, I, σT, h, hr, sr, n.bind.imp fun p h1 ρ1 I1 H1 x1 r1 n1 J C st wk D hD => ?_⟩
  obtain ⟨ts, gd⟩ := p
  have s1 := sr.ext hr x1
  have hD0 : H D = none := none_back x1 hD
  generalize eF : (fun x h' => noex (match asgT tg x (wipeT σT tg.ixs) with
        | some σ2 => (evE Γ ke σ2 h').bind fun r h2 => (evE Γ ve σ2 h2).bind fun q h3 => lift (kvR r q) h3
        | none => .bad)) = F at n1
  refine ⟨fun i m Hc => m = ts.length - i ∧ i ≤ ts.length ∧ ∃ ρc Ic hc acc, Ext ρ1 I1 h1 H1 ρc Ic hc Hc ∧ HR K mg ρc Ic hc Hc ∧ DO K mg ρc Ic hc Hc D acc ∧
    Nx K mg W σ ρ1 I1 h1 H1 ((dcL F gd (ts.drop i) acc hc).bind fun l h2 => .ok (.v (.ref h2.length)) (h2 ++ [.dct l])) fun r h' ρ' I' H' => ∀ v, RO K mg ρ' I' h' H' H σT σ v r → Q v H', ⟨ts.length, ?_⟩, ?_⟩
  · refine ⟨by omega, Nat.zero_le _, ρ1, I1, h1, [], ext_new _ hD, hr_new _ r1 hD, ⟨[], upd_same, fun z => not_none (r1.idom D z) hD, fun z => not_none (live_some r1 z) hD, trivial⟩, ?_⟩
    exact n1
  · rintro i m Hc ⟨rfl, hi', ρc, Ic, hc, acc, xc, rc, oc, nc⟩
    have cC : gdB gd hc = true → C ρc Ic hc Hc := fun gg => by
      unfold Stay at st
      rw [if_pos rfl] at st
      exact st _ _ _ _ xc rc gg
    by_cases hlt : i < ts.length
    · rw [List.drop_eq_getElem_cons hlt] at nc
      obtain ⟨gg, nc⟩ := gd_lc nc
      refine .inr ⟨wk.go i ρc Ic hc Hc hlt (cC gg), fun H' => ∃ ρc Ic hc acc, Ext ρ1 I1 h1 H1 ρc Ic hc H' ∧ HR K mg ρc Ic hc H' ∧ DO K mg ρc Ic hc H' D acc ∧
        Nx K mg W σ ρ1 I1 h1 H1 ((dcL F gd (ts.drop (i + 1)) acc hc).bind fun l h2 => .ok (.v (.ref h2.length)) (h2 ++ [.dct l])) fun r h' ρ' I' H' => ∀ v, RO K mg ρ' I' h' H' H σT σ v r → Q v H', fun H' ⟨ρ2, I2, h2, acc2, a1, a2, a3, a4⟩ => ⟨ts.length - (i + 1), by omega, rfl, hlt, ρ2, I2, h2, acc2, a1, a2, a3, a4⟩, ?_⟩
      intro x H' y
      obtain ⟨I2, t, xy, ry, et, rt⟩ := wk.yld i x ρc Ic hc Hc H' rc (cC gg) hlt y
      have et' : ts[i] = t := by rw [List.getElem?_eq_getElem hlt] at et; exact Option.some.inj et
      rw [et'] at nc
      have xcy := xc.trans xy
      have ocy := oc.ext rc xy
      have scy := s1.ext r1 xcy
      have hF : F t hc = noex (match asgT tg t (wipeT σT tg.ixs) with
        | some σ2 => (evE Γ ke σ2 hc).bind fun r h2 => (evE Γ ve σ2 h2).bind fun q h3 => lift (kvR r q) h3
        | none => .bad) := by rw [← eF]
      replace nc : Nx K mg W σ ρ1 I1 h1 H1 (((F t hc).bind fun kv h1 => if acc.length < SL then dcL F gd (ts.drop (i + 1)) (putT acc kv.1 kv.2) h1 else .bad).bind fun l h2 => Out.ok (R.v (T.ref (List.length h2))) (h2 ++ [HOb.dct l])) _ := nc
      rw [hF] at nc
      clear hF eF n1 n
      cases z : asgT tg t (wipeT σT tg.ixs) with
      | none => rw [z] at nc; exact nc.elim
      | some σ2 =>
        rw [z] at nc
        refine ⟨ρc, I2, wipeT σT tg.ixs, hc, t, σ2, ry, scy.wipe tg.ixs, PkG.of rt tg, z, fun σ' sr' ew => ⟨ew.trans (wipe_idem σ tg.ixs), ?_⟩⟩
        refine ⟨ρc, I2, σ2, hc, ry, sr', fun ρ3 I3 H3 x3 r3 => ?_⟩
        simp only [↓reduceIte]
        dsimp only at nc
        have s3 := sr'.ext ry x3
        refine ⟨ρ3, I3, σ2, hc, r3, s3, ?_⟩
        cases ek : evE Γ ke σ2 hc with
        | bad => rw [ek] at nc; exact nc.elim
        | ex y h4 => rw [ek] at nc; exact nc.elim
        | ok rk h4 =>
          rw [ek] at nc
          intro ρ4 I4 H4 x4 r4 vk ok
          have s4 := s3.ext r3 x4
          refine ⟨ρ4, I4, σ2, h4, r4, s4, ?_⟩
          replace nc : Nx K mg W σ ρ1 I1 h1 H1 (((noex ((evE Γ ve σ2 h4).bind fun q h3 => lift (kvR rk q) h3)).bind fun kv h1 => if acc.length < SL then dcL F gd (ts.drop (i + 1)) (putT acc kv.1 kv.2) h1 else .bad).bind fun l h2 => Out.ok (R.v (T.ref (List.length h2))) (h2 ++ [HOb.dct l])) _ := nc
          cases ev : evE Γ ve σ2 h4 with
          | bad => rw [ev] at nc; exact nc.elim
          | ex y h5 => rw [ev] at nc; exact nc.elim
          | ok rv h5 =>
            rw [ev, Out.bind_ok] at nc
            intro ρ5 I5 H5 x5 r5 vv ov
            cases ekv : kvR rk rv with
            | none => rw [ekv] at nc; exact nc.elim
            | some kv =>
              rw [ekv] at nc
              obtain ⟨kk, tv⟩ := kv
              have ekv' : ∃ kt, rk = .v kt ∧ keyT kt = some kk ∧ frz rv = some tv := by
                cases rk with
                | v kt =>
                  have e2 : (match keyT kt, frz rv with | some k, some t => some (k, t) | _, _ => none) = some (kk, tv) := ekv
                  cases e3 : keyT kt with
                  | none => rw [e3] at e2; cases e2
                  | some k' =>
                    cases e4 : frz rv with
                    | none => rw [e3, e4] at e2; cases e2
                    | some t' => rw [e3, e4] at e2; cases e2; exact ⟨kt, rfl, e3, rfl⟩
                | al _ => cases ekv
                | bw _ => cases ekv
              obtain ⟨kt, rfl, ekt, efv⟩ := ekv'
              obtain ⟨I6, x6, r6, q6⟩ := ov.keep x5 r5 efv
              replace nc : Nx K mg W σ ρ1 I1 h1 H1 ((if acc.length < SL then dcL F gd (ts.drop (i + 1)) (putT acc kk tv) h5 else .bad).bind fun l h2 => Out.ok (R.v (T.ref (List.length h2))) (h2 ++ [HOb.dct l])) _ := nc
              split at nc
              · rename_i hz
                have o6 := ((ocy.ext ry x3).ext r3 x4).ext r4 x6
                obtain ⟨ws, p, ni, nl, w⟩ := o6
                refine ⟨ws, kk, key_v ok ekt, p, by rw [w.len, sizeLine_eq]; exact hz, ρ5, I6, h5, putT acc kk tv, ext_at _ (((xcy.trans x3).trans x4).trans x6) hD, hr_at _ r6 ni nl, ⟨_, upd_same, ni, nl, ?_⟩, nc⟩
                exact RepD.mono (kp_at _ ni) (RepD.put kk q6 w)
              · exact nc.elim
    · have e : i = ts.length := by omega
      subst e
      rw [List.drop_length] at nc
      obtain ⟨gg, nc⟩ := gd_lc nc
      refine .inl ⟨wk.stop ρc Ic hc Hc (cC gg), ?_⟩
      obtain ⟨ws, p, ni, nl, w⟩ := oc
      obtain ⟨r2, lv⟩ := hr_push (u := .dct acc) rc ⟨ws, p, w⟩ ni nl
      refine nc (ρc ++ [D]) Ic Hc (ext_push xc hD lv) r2 (.ref D) ⟨D, rfl, ?_⟩
      rw [List.getElem?_append_right (by rw [rc.len]; exact Nat.le_refl _), rc.len, Nat.sub_self]
      rfl
theorem s_dc (G : Gd X N Γ k W) (hh : N.hot = false) {ke ve : E} {tg : Tg} {it : It} {pk pv pt pi : Expr} {scope : Scope} {pos : Pos} (ok : BlkOk X.N X.env.scope scope (ownOf X.N tg)) (mt : mTg scope X.N tg pt = true)
    (hi : PI X pt pi (tIt X.K X.M W true (evIt Γ true it))) (hs : notSet pi = true)
    (ht : ∀ (s : Shared) (H : Hp) (C : Addr) (cl : List (Str × Addr)) (fp : List Addr), PTs (X.blk s H scope (compEnvC scope cl C X.env) fp) [] (tB X.K X.M (fun _ _ _ _ => False) (evC Γ .yes)))
    (hk : ∀ (s : Shared) (H : Hp) (C : Addr) (cl : List (Str × Addr)) (fp : List Addr), PE (X.blk s H scope (compEnvC scope cl C X.env) fp) pk (tD X.K X.M (fun _ _ _ _ => False) (evE Γ ke)))
    (he : ∀ (s : Shared) (H : Hp) (C : Addr) (cl : List (Str × Addr)) (fp : List Addr), PE (X.blk s H scope (compEnvC scope cl C X.env) fp) pv (tD X.K X.M (fun _ _ _ _ => False) (evE Γ ve))) :
    PE X (.DictComp pk pv [⟨pt, pi, [], 0⟩] scope pos) (tD X.K X.M W (evE Γ (.dc ke ve tg it))) :=
  PE.imp (pe_dc (G.calm hh) G.nd hi ok (lc_hg G hh mt) ht hk he (not_folded hs)) fun σ H Q q => dc_imp q
end
end VY
namespace VY
open PySem PySem.Spec
open PyProof.Rows hiding St
open L2
theorem call_att {M : Model} {A : Around} {E : Value → Shared → Prop} {s : Shared} {Q : Value → Shared → Prop} {o : Expr} {name : Str} {apos pos : Pos} {args : List Expr} {env : Env}
    (hbase : attributeBase o name env (eval o env) = eval o env)
    (hfew : ((backTo pos (starEach args env)).all (fun x => !x.1) && (backToKw pos (keywordEach [] env)).all (fun x => x.1.isSome)
      && decide (args.length + ([] : List Keyword).length + (if ([] : List Keyword).isEmpty then 0 else 1) < 30)) = true)
    (hline : (apos.endLine == pos.line) = true)
    (h : wpAny M A (eval o env) (fun ov s1 => wpAny M A (getMethod ov name (do return (← importBound o env).getD true)) (fun fx s2 => wpAny M A (callWith pos fx.1 fx.2 (backTo pos (starEach args env)) []) Q E s2) E s1) E s) :
    wpAny M A (eval (.Call (.Attribute o name apos) args [] pos) env) Q E s := by
  rw [arm_eval_Call, hbase]
  refine wpAny_bind (wpAny_mono h (fun ov s₁ h₁ => ?_) fun _ _ e => e)
  refine wpAny_bind (wpAny_standAt ?_)
  have hform : methodCallForm (args.length + ([] : List Keyword).length) (backTo pos (starEach args env)) (backToKw pos (keywordEach [] env)) = true := hfew
  have hpos : methodCallPos true o env apos pos = pure pos := by unfold methodCallPos; simp [hline]
  unfold methodCall
  rw [hform]
  refine wpAny_bind (wpAny_holding (wpAny_mono h₁ (fun fx s2 h2 => ?_) fun _ _ e => e))
  exact wpAny_bind (wpAny_of_eq hpos h2)
section
variable {X : Cx} {N : Nms} {Γ : Ctx} {k : Nat} {W : WX}
/-- a def called: what the interpreter does -/
theorem spd_of {X : Cx} {W : WX} {call : List T → Hs → Out R} {n : Nat} {σ : St} {ρ : List Addr} {I : Addr → Prop} {h : Hs} {H H0 : Hp} {σT : Slots} {ts : List T} {vs : List V} {Q : VK} {E : XK} {mg : Mg} (r : HR X.K mg ρ I h H) (q : Reps X.K mg ρ I H vs ts) (hl : ∀ ts h, call ts h ≠ .bad → ts.length = n) (d : ∀ a, (H0 a).isSome → (H a).isSome) (hE : ∀ cls dd H', W cls dd σ H' → E cls dd H')
    (nx : Nx X.K mg W σ ρ I h H (call ts h) fun r h' ρ' I' H' => ∀ v, RO X.K mg ρ' I' h' H' H0 σT σ v r → Q v H') : spD X.K mg call n vs H Q E := by
  have nb : call ts h ≠ .bad := fun z => by rw [z] at nx; exact nx
  refine ⟨by rw [q.length, hl ts h nb], ρ, I, h, ts, r, q, ?_⟩
  cases e : call ts h with
  | bad => exact (nb e).elim
  | ok r h2 =>
    rw [e] at nx
    exact fun ρ2 I2 H2 x2 r2 v o => nx ρ2 I2 H2 x2 r2 v (o.any.back d)
  | ex y h2 =>
    rw [e] at nx
    exact fun cls dd ρ2 I2 H2 x2 r2 z => hE _ _ _ (nx cls dd ρ2 I2 H2 x2 r2 z)
theorem s_mcl (G : Gd X N Γ k W) (hh : N.hot = false) {m : Str} {o : E} {es : List E} {pe : Expr} {xs : List Expr} {ap cp : Pos} (ho : PE X pe (tD X.K X.M W (evE Γ o))) (hes : PA X xs (tEs X.K X.M W (evEs Γ es))) (ns : xs.all notStar = true) (he : xs = [] → es = [])
    (hl : (ap.endLine == cp.line) = true) (hb : baseOk pe = true) (hf : xs.length < 30) : PE X (.Call (.Attribute pe m ap) xs [] cp) (tD X.K X.M W (evE Γ (.mcl m o es))) := by
  refine ⟨fun pins s σ H Q I q => ?_⟩
  obtain ⟨ρ, I0, σT, h, hr, sr, n⟩ := q
  rw [evE] at n
  refine call_att (base_of hb) (few_ok ns hf) hl ?_
  refine thn (ho.run pins s σ H (fun v H1 => ∃ ρ1 I1 h1 x, Ext ρ I0 h H ρ1 I1 h1 H1 ∧ HR X.K X.M ρ1 I1 h1 H1 ∧ RO X.K X.M ρ1 I1 h1 H1 H σT σ v x ∧ Nx X.K X.M W σ ρ1 I1 h1 H1 (match x with
    | .v (.ref n) => (match h1[n]? with
      | some (.ins c fs) => if (fs.lookup m).isNone then (match Γ.cs.mt c m with
        | some f => (evEs Γ es σT h1).bind fun ts h2 => Γ.call f (.ref n :: ts) h2
        | none => .bad) else .bad
      | _ => .bad)
    | _ => .bad) fun r h' ρ' I' H' => ∀ v, RO X.K X.M ρ' I' h' H' H σT σ v r → Q v H') I ⟨ρ, I0, σT, h, hr, sr, n.bind.imp fun x h1 ρ1 I1 H1 x1 r1 n1 v o1 => ⟨ρ1, I1, h1, x, x1, r1, o1, n1⟩⟩) fun u s1 ⟨v, H1, J1, rv, ρ1, I1, h1, x, x1, r1, o1, n1⟩ => ?_
  cases x with
  | al _ => exact n1.elim
  | bw _ => exact n1.elim
  | v t =>
    cases t <;> try exact (show False from n1).elim
    rename_i nn
    obtain ⟨a, rfl, ea⟩ := (show ∃ a, v = .ref a ∧ ρ1[nn]? = some a from o1)
    cases rv
    replace n1 : Nx X.K X.M W σ ρ1 I1 h1 H1 (match h1[nn]? with
      | some (.ins c fs) => if (fs.lookup m).isNone then (match Γ.cs.mt c m with
        | some f => (evEs Γ es σT h1).bind fun ts h2 => Γ.call f (.ref nn :: ts) h2
        | none => .bad) else .bad
      | _ => .bad) _ := n1
    split at n1
    · rename_i c fs el
      obtain ⟨C, dx, ws, hm, ha, w⟩ := r1.obj nn _ a el ea
      split at n1
      · rename_i hn
        split at n1
        · rename_i f ef
          obtain ⟨C', fa, fd, ps, hm', cl, mth, bd, F, hlen⟩ := G.mt c m f ef
          have hm2 : X.mg c = some (.ref C) := hm
          rw [hm2] at hm'
          cases hm'
          have hnone : ws.lookup m = none := (repF_look w).2 (by simpa using hn)
          refine getmeth_ok J1 ha cl mth hnone ?_
          have s1' := sr.ext hr x1
          have step : tEs X.K X.M W (evEs Γ es) σ H1 fun vs H2 => spD X.K X.M (Γ.call f) ps.length (.ref a :: vs) H2 Q (WE W σ) := by
            refine ⟨ρ1, I1, σT, h1, r1, s1', n1.bind.imp fun ts h2 ρ2 I2 H2 x2 r2 n2 vs q => ?_⟩
            have rp : Rep X.K X.M ρ2 I2 H2 (.ref a) (.ref nn) := ⟨a, rfl, x2.pre _ _ ea⟩
            exact spd_of (X := X) (H0 := H) (σT := σT) r2 (vs := .ref a :: vs) (ts := .ref nn :: ts) ⟨rp, q⟩ hlen (fun a d => x2.dom a (x1.dom a d)) (fun _ _ _ z => z) n2
          have F' : FnOk X.prog X.w X.K X.mg X.base (CX X.prog X.w) k fa fd ps (spD X.K X.M (Γ.call f) ps.length) := by rw [G.M hh]; exact F
          cases xs with
          | nil =>
            cases he rfl
            obtain ⟨ρ3, I3, σ3, h3, r3, s3, n3⟩ := step
            have q := n3 ρ3 I3 _ .refl r3 [] trivial
            exact PySem.W.callWith_K0 (first := [.ref a]) J1.kIn mth.kp (run_fnSD (E := WE W) (dvs := []) (us := [.ref a]) (vs := [.ref a]) F' (G.room hh) bd .nil (passAt G.tk σ) J1 (.cons rfl .nil) q)
          | cons p ps' =>
            have ns' : (notStar p && ps'.all notStar) = true := by rw [← List.all_cons]; exact ns
            refine PySem.W.callWith_K (first := [.ref a]) (h₀ := X.base) J1.ok.mod.kin mth.kp (thn (hes.run cp pins s1 σ H1 _ J1 step) fun us s2 ⟨vs, H2, J2, r, q2⟩ => ⟨J2.kIn, ?_⟩) (star_eq (and_tt ns').1) (star_any (and_tt ns').2)
            exact run_fnSD (E := WE W) (dvs := []) (us := .ref a :: us) (vs := .ref a :: vs) F' (G.room hh) bd .nil (passAt G.tk σ) J2 (.cons rfl r) (by rw [List.append_nil]; exact q2)
        · exact n1.elim
      · exact n1.elim
    · exact n1.elim
/-- C(e, ..) where what is raised is wished for at the caller's slots -/
theorem run_makeSD {CX : CXT} {j : Nat} {C f : Addr} {fd : FuncData} {ps : List Str} {sp : Sp} {E : St → XK} {pins : List (Addr × Obj)} {σ : St} {H : Hp} {s : Shared} {Q : VK} {us : List Value} {vs : List V} (M : Mk X.K C f) (F : FnOk X.prog X.w X.K X.mg X.base CX j f fd ps sp) (hr : Room (j + 1) X.A) (hb : Binds X.K fd ps [])
    (hx : PassesAt CX X σ (E σ)) (I : L2.Inv X pins σ H s) (r : Vals vs us)
    (h : ∀ x dx, H x = none → H dx = none → dx ≠ x → sp (.ref x :: vs) (upd (upd H dx (.own x)) x (.ins C dx [])) (fun v H2 => v = .non ∧ Q (.ref x) H2) (E σ)) :
    wpAny (model X.prog X.w) X.A (call (.ref C) us) (EP X pins σ Q) X.xe s := by
  have hq := h (s.heap.objs.size + 1) s.heap.objs.size (I.hok.fresh (Nat.le_succ _)) (I.hok.fresh (Nat.le_refl _)) (Nat.ne_of_lt (Nat.lt_succ_self _))
  have I2 := Inv.made (C := C) I
  have r2 : Vals (V.ref (s.heap.objs.size + 1) :: vs) (Value.ref (s.heap.objs.size + 1) :: us) := .cons rfl r
  have hl : (Value.ref (s.heap.objs.size + 1) :: us ++ []).length = ps.length := by
    have e := r2.length
    rw [F.len _ _ _ _ hq] at e
    rw [List.append_nil]
    exact e.symm
  have hb2 := hb _ (Value.ref (s.heap.objs.size + 1) :: us) I2.kIn hl
  rw [List.append_nil] at hb2
  refine wpAny_call (make_map (f := f) I.kIn M.makes M.init (beq_iff_eq.mp M.fn) (codeAny_mono (F.run _ X.stack _ _ ⟨Value.ref (s.heap.objs.size + 1) :: us, []⟩ (Value.ref (s.heap.objs.size + 1) :: us) _ _ (E σ) (hr.make C us [])
    (I2.env0.make C us []) hb2 r2 hq) fun r s' hq' => ?_))
  cases r with
  | error e => exact hx pins _ _ e s' I2 hq'
  | ok fl =>
    cases fl with
    | ret u =>
      obtain ⟨v, H', I3, rv, ev, q3⟩ := I2.after hq'
      subst ev
      exact ⟨rv, ⟨V.ref (s.heap.objs.size + 1), H', I3, rfl, q3⟩⟩
    | next => exact False.elim hq'
    | brk => exact False.elim hq'
    | cont => exact False.elim hq'
theorem s_new (G : Gd X N Γ k W) (hh : N.hot = false) {c : Str} {es : List E} {xs : List Expr} {p pos : Pos} (hg : glbB X.env.scope c = true) (hes : PA X xs (tEs X.K X.M W (evEs Γ es))) (ns : xs.all notStar = true) (he : xs = [] → es = []) :
    PE X (.Call (.Name c p) xs [] pos) (tD X.K X.M W (evE Γ (.new c es))) := by
  refine ⟨fun pins s σ H Q I q => ?_⟩
  obtain ⟨ρ, I0, σT, h, hr, sr, n⟩ := q
  rw [evE] at n
  cases ef : Γ.cs.ini c with
  | none =>
    rw [ef] at n
    exact n.elim
  | some f =>
    rw [ef] at n
    obtain ⟨C, fa, fd, ps, j, hm, mk, bd, rm, F, hlen⟩ := G.ini c f ef
    have step : tEs X.K X.M W (evEs Γ es) σ H fun vs H1 => ∀ x dx, H1 x = none → H1 dx = none → dx ≠ x → spD X.K X.M (Γ.make f) ps.length (.ref x :: vs) (upd (upd H1 dx (.own x)) x (.ins C dx [])) (fun v H2 => v = .non ∧ Q (.ref x) H2) (WE W σ) := by
      refine ⟨ρ, I0, σT, h, hr, sr, n.bind.imp fun ts h1 ρ1 I1 H1 x1 r1 n1 vs q => fun x dx hx hdx hne => ?_⟩
      have hx' : upd H1 dx (.own x) x = none := by rw [upd_ne (Ne.symm hne)]; exact hx
      have r2 := hr_new (.own x) r1 hdx
      have e2 : Ext ρ1 I1 h1 H1 ρ1 I1 h1 (upd H1 dx (.own x)) := ext_new _ hdx
      have r3 := hr_new (.ins C dx []) r2 hx'
      have e3 : Ext ρ1 I1 h1 H1 ρ1 I1 h1 (upd (upd H1 dx (.own x)) x (.ins C dx [])) := e2.trans (ext_new _ hx')
      have ni : ¬ I1 x := fun z => not_none (r1.idom x z) hx
      have nl : ¬ Live ρ1 h1 x := fun z => not_none (live_some r1 z) hx
      obtain ⟨r4, lv⟩ := hr_push (u := .ins c []) r3 ⟨C, dx, [], hm, upd_same, trivial⟩ ni nl
      have e4 : Ext ρ1 I1 h1 H1 (ρ1 ++ [x]) I1 (h1 ++ [HOb.ins c []]) (upd (upd H1 dx (.own x)) x (.ins C dx [])) := ext_push e3 hx lv
      have rp : Rep X.K X.M (ρ1 ++ [x]) I1 (upd (upd H1 dx (.own x)) x (.ins C dx [])) (.ref x) (.ref h1.length) := ⟨x, rfl, by rw [← r1.len, List.getElem?_append_right (Nat.le_refl _), Nat.sub_self]; rfl⟩
      have n2 := (n1.from e4).bind
      refine spd_of (X := X) (W := W) (H0 := H1) (σT := σT) (σ := σ) r4 (vs := .ref x :: vs) (ts := .ref h1.length :: ts) ⟨rp, q.mono (e4.kp r1)⟩ hlen e4.dom (fun _ _ _ z => z) (n2.imp fun r h2 ρ5 I5 H5 x5 r5 n3 v o => ?_)
      cases r with
      | al _ => exact n3.elim
      | bw _ => exact n3.elim
      | v t =>
        cases t <;> try exact (show False from n3).elim
        refine ⟨o, ?_⟩
        have n4 : Nx X.K X.M W σ ρ5 I5 h2 H5 (Out.ok (R.v (.ref h1.length)) h2) _ := n3
        exact n4 ρ5 I5 H5 .refl r5 _ ⟨x, rfl, x5.pre _ _ (by rw [← r1.len, List.getElem?_append_right (Nat.le_refl _), Nat.sub_self]; rfl)⟩
    have F' : FnOk X.prog X.w X.K X.mg X.base (CX X.prog X.w) j fa fd ps (spD X.K X.M (Γ.make f) ps.length) := by rw [G.M hh]; exact F
    refine wpAny_Call_Name_kw (ld_glob I (glb_of hg).1 hm ?_ (plain_dbg (glb_of hg).2).1)
    cases xs with
    | nil =>
      cases he rfl
      obtain ⟨ρ3, I3, σ3, h3, r3, s3, n3⟩ := step
      have q := n3 ρ3 I3 _ .refl r3 [] trivial
      exact PySem.W.callWith_K0 I.kIn mk.kp (run_makeSD (E := WE W) (us := []) mk F' (rm hh) bd (passAt G.tk σ) I .nil q)
    | cons p ps' =>
      have ns' : (notStar p && ps'.all notStar) = true := by rw [← List.all_cons]; exact ns
      refine PySem.W.callWith_K (h₀ := X.base) I.ok.mod.kin mk.kp (thn (hes.run pos pins s σ H _ I step) fun us s1 ⟨vs, H1, I1, r, q⟩ => ⟨I1.kIn, ?_⟩) (star_eq (and_tt ns').1) (star_any (and_tt ns').2)
      exact run_makeSD (E := WE W) mk F' (rm hh) bd (passAt G.tk σ) I1 r q
theorem s_prE {e : E} {pe : Expr} (he : PE X pe (tD X.K X.M W (evE Γ e))) : PE X pe (tD X.K X.M W (evE Γ (.pr e))) := by
  refine PE.imp he fun σ H Q q => ?_
  obtain ⟨ρ, I, σT, h, hr, sr, n⟩ := q
  rw [evE] at n
  refine ⟨ρ, I, σT, h, hr, sr, ?_⟩
  cases ee : evE Γ e σT h with
  | bad => rw [ee] at n; exact n.elim
  | ex y h1 => rw [ee] at n; exact n
  | ok r h1 =>
    rw [ee, Out.bind_ok] at n
    intro ρ1 I1 H1 x1 r1 v o1
    cases r with
    | v t => exact n.elim
    | bw i => exact n.elim
    | al l =>
      obtain ⟨a, vs, rfl, na, p, ni, nl, w⟩ := o1
      obtain ⟨r2, lv⟩ := hr_push (u := .lst l) r1 ⟨vs, p, w⟩ ni nl
      have n2 : Nx X.K X.M W σ ρ I h H (Out.ok (R.v (.ref h1.length)) (h1 ++ [HOb.lst l])) _ := n
      exact n2 _ _ _ (ext_push x1 na lv) r2 _ ⟨a, rfl, by rw [← r1.len, List.getElem?_append_right (Nat.le_refl _), Nat.sub_self]; rfl⟩
theorem s_xf (G : Gd X N Γ k W) {i : Nat} {f x : Str} {p pos : Pos} (hi : X.N[i]? = some x) (hv : visB X.env.scope x = true) (hp : plainN x = true) : PE X (.Attribute (.Name x p) f pos) (tD X.K X.M W (evE Γ (.xf i f))) := by
  refine ⟨fun pins s σ H Q I q => ?_⟩
  have q0 := q
  obtain ⟨ρ, I0, σT, h, hr, sr, n⟩ := q
  rw [evE] at n
  split at n
  · rename_i c fs e
    split at n
    · rename_i fns ef
      split at n
      · rename_i hf
        obtain ⟨a, oe, C, hx, es, hm, hc, dd, vs, hd, id, hdd, w⟩ := sr.xns i c fs e
        obtain ⟨r, er, g⟩ := n.lift
        obtain ⟨t, et, rfl⟩ := Option.map_eq_some_iff.mp er
        obtain ⟨v', l, rp⟩ := (repF_look w).1 t et
        obtain ⟨⟨X0, pn, eX⟩, hfl⟩ := G.xk a oe hx
        obtain ⟨⟨C', hm', _, xf, fn, _⟩, _⟩ := G.xs c fns ef
        have hm2 : X.mg c = some (.ref C) := hm
        rw [hm2] at hm'
        cases hm'
        have fin : Q v' H := g ρ I0 H .refl hr v' rp
        have hno := fn f hf
        have pv : PE X (.Name x p) _ := pe_var (pos := p) hi (vis_of hv) (plain_dbg hp).1 (plain_dbg hp).2
        subst eX
        exact (pe_xf (X := X0) (a := a) (C := C) (oe := oe) (cls := oe.cls) (d := oe.dict) (pn := pn) (n := f) xf hno ⟨rfl, rfl⟩ hfl pv).run pins s σ H Q I ⟨.ref a, es, rfl, hc, dd, vs, v', hd, hdd, l, fin⟩
      · exact n.elim
    · exact n.elim
  · exact n.elim
end
end VY
namespace VY
open PySem PySem.Spec
open PyProof.Rows hiding St
open L2
section
variable {X : Cx} {N : Nms} {Γ : Ctx} {k : Nat} {W : WX}
/-- a def called from within a builtin -/
theorem run_fnIn {CX : CXT} {j : Nat} {f : Addr} {fd : FuncData} {ps : List Str} {sp : Sp} {E : L2.St → XK} {A' : Around} {pins : List (Addr × Obj)} {σ : L2.St} {H : Hp} {s : Shared} {Q : VK} {us : List Value} {vs : List V} (F : FnOk X.prog X.w X.K X.mg X.base CX j f fd ps sp) (hr : Room j A') (e0 : Env0 X.prog X.w X.K X.mg X.base A' X.stack s H) (hb : Binds X.K fd ps []) (hx : PassesAt CX X σ (E σ))
    (I : L2.Inv X pins σ H s) (r : Vals vs us) (h : sp vs H Q (E σ)) : wpAny (model X.prog X.w) A' (call (.ref f) us) (EP X pins σ Q) X.xe s := by
  have hl : (us ++ []).length = ps.length := by
    rw [List.append_nil, ← r.length]
    exact F.len _ _ _ _ h
  have b := hb s us I.kIn hl
  rw [List.append_nil] at b
  refine wpAny_call (codeAny_mono (F.run A' X.stack s H ⟨us, []⟩ us vs Q (E σ) hr e0 b r h) fun z s2 q => ?_)
  match z, q with
  | .error e, q => exact hx pins H s e s2 I q
  | .ok (.ret u), q => exact I.after q
/-- an instance, as the library's lemmas on special methods want it -/
theorem inst_at {P : Program} {w : World} {H : Hp} {h : Heap} {a C dx : Addr} {fs : List (Str × V)} (hok : HOk P w H h) (e : H a = some (.ins C dx fs)) : ∃ od, PySem.W.InstAt h a (PySem.W.instObj C dx) C od := by
  obtain ⟨mA, O, _⟩ := ins_get hok e
  obtain ⟨od, ho, _⟩ := lookIn_ns O.ns
  exact ⟨some od, O.obj, rfl, rfl, ho⟩
/-- what is wanted of a text that comes -/
def TxQ (X : Cx) (W : WX) (σ : L2.St) (ρ : List Addr) (I : Addr → Prop) (h : Hs) (H : Hp) (o : Out Str) (Q : Str → Hp → Prop) : Prop := Nx X.K X.M W σ ρ I h H o fun y _ _ _ H' => Q y H'
/-- an own def's text -/
theorem ins_text (G : Gd X N Γ k W) (hh : N.hot = false) {σ : L2.St} {σT : Slots} {ρ : List Addr} {I : Addr → Prop} {h : Hs} {H : Hp} {n : Nat} {a : Addr} {Q : Str → Hp → Prop} (hr : HR X.K X.M ρ I h H) (ea : ρ[n]? = some a) (nx : TxQ X W σ ρ I h H (soR Γ (.v (.ref n)) h) Q) :
    ∃ C dx ws fa, H a = some (.ins C dx ws) ∧ Meth X.K C "__str__" fa ∧ PySem.W.findIn X.K (.ref C) "__format__" = some (some (.builtin "object.__format__")) ∧ PySem.W.mroIn X.K C (.type "object") = some true ∧
      ∀ (A' : Around) (pins : List (Addr × Obj)) (s : Shared), A'.handled = X.A.handled → A'.depth = X.A.depth → A'.frames = X.A.frames → A'.units ≤ X.A.units + 4 → L2.Inv X pins σ H s →
        wpAny (model X.prog X.w) A' (call (.ref fa) [.ref a]) (EP X pins σ fun v H' => ∃ y : Str, v = .str y ∧ y.length ≤ SL ∧ Q y H') X.xe s := by
  have nx : Nx X.K X.M W σ ρ I h H (match h[n]? with
    | some (.ins c _) => (match Γ.cs.mt c "__str__" with
      | some f => (Γ.make f [.ref n] h).bind fun q h1 => (match q with
        | .v (.str y) => if y.length ≤ SL then Out.ok y h1 else .bad
        | _ => .bad)
      | none => .bad)
    | _ => .bad) _ := nx
  split at nx
  · rename_i c fs el
    obtain ⟨C, dx, ws, hm, ha, w⟩ := hr.obj n _ a el ea
    split at nx
    · rename_i f ef
      obtain ⟨C', fa, fd, ps, j, hm', mth, bd, rm, F, hlen, fm, mr⟩ := G.sm c f ef
      have hm2 : X.mg c = some (.ref C) := hm
      rw [hm2] at hm'
      cases hm'
      refine ⟨C, dx, ws, fa, ha, mth, fm, mr, fun A' pins s e1 e2 e3 e4 J => ?_⟩
      have F' : FnOk X.prog X.w X.K X.mg X.base (CX X.prog X.w) j fa fd ps (spD X.K X.M (Γ.make f) ps.length) := by rw [G.M hh]; exact F
      have rp : Rep X.K X.M ρ I H (.ref a) (.ref n) := ⟨a, rfl, ea⟩
      have r0 := rm hh
      have e0 := J.env0
      refine run_fnIn (E := WE W) (vs := [.ref a]) F' ⟨by rw [e1]; exact r0.hd, by have := r0.dp; rw [e2]; omega, by have := r0.un; omega⟩ ⟨by rw [e3]; exact e0.frames, e0.mod, e0.bs, e0.bsz, e0.funs, e0.frf, e0.hok, e0.bare⟩ bd (passAt G.tk σ) J (.cons rfl .nil) ?_
      refine spd_of (X := X) (H0 := H) (σT := []) hr (vs := [.ref a]) (ts := [.ref n]) ⟨rp, trivial⟩ hlen (fun a d => d) (fun _ _ _ z => z) (nx.bind.imp fun q h1 ρ1 I1 H1 x1 r1 n1 v o => ?_)
      split at n1
      · rename_i y
        split at n1
        · rename_i ly
          cases (show v = .str y from o)
          exact ⟨y, rfl, ly, n1 ρ1 I1 H1 .refl r1⟩
        · exact n1.elim
      · exact n1.elim
    · exact nx.elim
  · exact nx.elim
theorem back_of {pins : List (Addr × Obj)} {σ : L2.St} {Q : Str → Hp → Prop} {Q2 : Value → Shared → Prop} (q2 : ∀ (y : Str) H' t s', L2.Inv X pins σ H' s' → y.length ≤ SL → Q y H' → Q2 (.str y t) s') {v : Value} {s' : Shared} (z : EP X pins σ (fun v H' => ∃ y : Str, v = .str y ∧ y.length ≤ SL ∧ Q y H') v s') : PySem.W.StrBack Q2 v s' := by
  obtain ⟨x, H', J, rv, y, rfl, l, q⟩ := z
  obtain ⟨t, rfl⟩ := rv
  exact q2 y H' t s' J l q
/-- str(x) -/
theorem so_run (G : Gd X N Γ k W) (hh : N.hot = false) {σ : L2.St} {σT : Slots} {ρ : List Addr} {I : Addr → Prop} {h : Hs} {H H0 : Hp} {x : R} {v : V} {u : Value} {Q : Str → Hp → Prop} {pins : List (Addr × Obj)} {s : Shared} (hr : HR X.K X.M ρ I h H) (o : RO X.K X.M ρ I h H H0 σT σ v x) (ru : RelV v u) (J : L2.Inv X pins σ H s) (nx : TxQ X W σ ρ I h H (soR Γ x h) Q) :
    wpAny (model X.prog X.w) X.A (call (.type "str") [u]) (EP X pins σ fun v H' => ∃ y : Str, v = .str y ∧ Q y H') X.xe s := by
  cases x with
  | al _ => exact nx.elim
  | bw _ => exact nx.elim
  | v t =>
    cases t <;> try exact (show False from nx).elim
    case int i =>
      cases (show v = .int i from o)
      have nx : Nx X.K X.M W σ ρ I h H (if i.natAbs.log2 < 1920 then Out.ok (toString i : Str) h else .bad) _ := nx
      split at nx
      · rename_i l
        exact call_str_int pins s σ H [.int i] [u] _ J (.cons ru .nil) ⟨i, rfl, l, _, rfl, nx ρ I H .refl hr⟩
      · exact nx.elim
    case ref n =>
      obtain ⟨a, rfl, ea⟩ := (show ∃ a, v = .ref a ∧ ρ[n]? = some a from o)
      cases ru
      obtain ⟨C, dx, ws, fa, ha, mth, fm, mr, run⟩ := ins_text G hh (σT := σT) hr ea nx
      obtain ⟨od, ia⟩ := inst_at J.hok ha
      have hu := G.hu
      refine PySem.W.kso_call (by show X.A.units + 1 + 1 < cLine; omega) J.kIn ia mth.at_ mth.fn (wpAny_mono (run X.A.in1.in1 pins s rfl rfl rfl (by show X.A.units + 1 + 1 ≤ _; omega) J) (fun v s' z => back_of (fun y H' t s' J' l q => ⟨.str y, H', J', ⟨t, rfl⟩, y, rfl, q⟩) z) fun _ _ z => z)
/-- {x} -/
theorem fm_run (G : Gd X N Γ k W) (hh : N.hot = false) {σ : L2.St} {σT : Slots} {ρ : List Addr} {I : Addr → Prop} {h : Hs} {H H0 : Hp} {x : R} {v : V} {u : Value} {Q : Str → Hp → Prop} {pins : List (Addr × Obj)} {s : Shared} (hr : HR X.K X.M ρ I h H) (o : RO X.K X.M ρ I h H H0 σT σ v x) (ru : RelV v u) (J : L2.Inv X pins σ H s) (nx : TxQ X W σ ρ I h H (fmR Γ x h) Q) :
    wpAny (model X.prog X.w) X.A (formatField u Str.empty) (EP X pins σ fun v H' => ∃ y : Str, v = .str y ∧ Q y H') X.xe s := by
  cases x with
  | al _ => exact nx.elim
  | bw _ => exact nx.elim
  | v t =>
    cases t <;> try exact (show False from nx).elim
    case str y =>
      cases (show v = .str y from o)
      have nx : Nx X.K X.M W σ ρ I h H (if y.length ≤ SL then Out.ok y h else .bad) _ := nx
      split at nx
      · rename_i l
        have q := nx ρ I H .refl hr
        obtain ⟨t, rfl⟩ := ru
        exact wpAny_formatField_str ⟨.str y, H, J, ⟨t, rfl⟩, y, rfl, q⟩ ⟨.str y, H, J.tok _, ⟨_, rfl⟩, y, rfl, q⟩ (by rw [sizeLine_eq]; exact l)
      · exact nx.elim
    case int i =>
      cases (show v = .int i from o)
      have nx : Nx X.K X.M W σ ρ I h H (if i.natAbs.log2 < 1920 then Out.ok (toString i : Str) h else .bad) _ := nx
      split at nx
      · rename_i l
        obtain ⟨t, rfl⟩ := ru
        exact wpAny_formatField_int l ⟨.str (toString i), H, J.tok _, ⟨_, rfl⟩, _, rfl, nx ρ I H .refl hr⟩
      · exact nx.elim
    case ref n =>
      obtain ⟨a, rfl, ea⟩ := (show ∃ a, v = .ref a ∧ ρ[n]? = some a from o)
      cases ru
      obtain ⟨C, dx, ws, fa, ha, mth, fm, mr, run⟩ := ins_text G hh (σT := σT) hr ea nx
      obtain ⟨od, ia⟩ := inst_at J.hok ha
      have hu := G.hu
      have J2 := J.tok (s.toks + 1)
      refine PySem.W.kfo_fieldS (by show X.A.units + 1 < cLine; omega) J.kIn ia fm mr mth.at_ mth.fn (wpAny_mono (run X.A.in1 pins { s with toks := s.toks + 1 } rfl rfl rfl (by show X.A.units + 1 ≤ _; omega) J2) (fun v s' z => back_of (fun y H' t s' J' l q => ⟨.str y, H', J', ⟨t, rfl⟩, y, rfl, q⟩) z) fun _ _ z => z)
theorem s_so (G : Gd X N Γ k W) (hh : N.hot = false) {e : E} {pe : Expr} {p cp : Pos} (hg : glbB X.env.scope "str" = true) (he : PE X pe (tD X.K X.M W (evE Γ e))) (ns : notStar pe = true) : PE X (.Call (.Name "str" p) [pe] [] cp) (tD X.K X.M W (evE Γ (.so e))) := by
  obtain ⟨hG, hp⟩ := glb_of hg
  refine ⟨fun pins s σ H Q I q => ?_⟩
  obtain ⟨ρ, I0, σT, h, hr, sr, n⟩ := q
  rw [evE] at n
  refine wpAny_Call_Name_kw (ld_blt (u := .type "str") I hG (G.bl .str) (by decide +kernel) ?_ (by decide) (plain_dbg hp).1)
  have pa := pa_cons he pa_nil (star_eq (es := []) (env := X.env) ns)
  refine PyProof.Rows.callWith_type1 (thn (pa.run cp pins s σ H (fun vs H1 => ∃ v ρ1 I1 h1 x H0 σT, vs = [v] ∧ HR X.K X.M ρ1 I1 h1 H1 ∧ RO X.K X.M ρ1 I1 h1 H1 H0 σT σ v x ∧ TxQ X W σ ρ1 I1 h1 H1 (soR Γ x h1) fun y H' => Q (.str y) H') I ?_) fun us s1 ⟨vs, H1, I1, r1, v, ρ1, J1, h1, x, H0, σ0, e, hr1, o1, n1⟩ => ?_) (star_eq ns) rfl
  · refine ⟨ρ, I0, σT, h, hr, sr, n.bind.imp fun x h1 ρ1 I1 H1 x1 r1 n1 v o => ⟨v, ρ1, I1, h1, x, H, σT, rfl, r1, o, n1.bind.imp fun y h2 ρ2 I2 H2 x2 r2 n2 => ?_⟩⟩
    have n3 : Nx X.K X.M W σ ρ2 I2 h2 H2 (Out.ok (R.v (.str y)) h2) _ := n2
    exact n3 ρ2 I2 H2 .refl r2 (.str y) rfl
  · subst e
    cases r1 with
    | cons ru rn =>
      cases rn
      exact wpAny_mono (so_run G hh hr1 o1 ru I1 n1) (fun u s2 ⟨v2, H2, J2, rv, y, ey, q2⟩ => by subst ey; exact ⟨.str y, H2, J2, rv, q2⟩) fun _ _ z => z
/-- a part's text -/
def tX (K : PySem.W.Frag) (mg : Mg) (W : WX) (f : Slots → Hs → Out Str) : TE := fun σ H Q => ∃ ρ I σT h, HR K mg ρ I h H ∧ SR K mg ρ I h H σT σ ∧ Nx K mg W σ ρ I h H (f σT h) fun y _ _ _ H' => Q (.str y) H'
theorem s_fm (G : Gd X N Γ k W) (hh : N.hot = false) {e : E} {pe : Expr} {pos : Pos} (he : PE X pe (tD X.K X.M W (evE Γ e))) : PE X (.FormattedValue pe (-1) none pos) (tX X.K X.M W fun σ h => (evE Γ e σ h).bind (fmR Γ)) := by
  refine ⟨fun pins s σ H Q I q => ?_⟩
  obtain ⟨ρ, I0, σT, h, hr, sr, n⟩ := q
  refine wpAny_FormattedValue_plain (thn (he.run pins s σ H (fun v H1 => ∃ ρ1 I1 h1 x H0 σT, HR X.K X.M ρ1 I1 h1 H1 ∧ RO X.K X.M ρ1 I1 h1 H1 H0 σT σ v x ∧ TxQ X W σ ρ1 I1 h1 H1 (fmR Γ x h1) fun y H' => Q (.str y) H') I ⟨ρ, I0, σT, h, hr, sr, n.bind.imp fun x h1 ρ1 I1 H1 x1 r1 n1 v o => ⟨ρ1, I1, h1, x, H, σT, r1, o, n1⟩⟩) fun u s1 ⟨v, H1, I1, ru, ρ1, J1, h1, x, H0, σ0, hr1, o1, n1⟩ => ?_)
  exact wpAny_mono (fm_run G hh hr1 o1 ru I1 n1) (fun u s2 ⟨v2, H2, J2, rv, y, ey, q2⟩ => by subst ey; exact ⟨.str y, H2, J2, rv, q2⟩) fun _ _ z => z
theorem s_fc {y : Str} {pe : Expr} (he : PE X pe (tD X.K X.M W (evE Γ (.c (.str y))))) : PE X pe (tX X.K X.M W fun σ h => (evE Γ (.c (.str y)) σ h).bind (fmR Γ)) := by
  refine PE.imp he fun σ H Q q => ?_
  obtain ⟨ρ, I0, σT, h, hr, sr, n⟩ := q
  refine ⟨ρ, I0, σT, h, hr, sr, ?_⟩
  simp only [evE, Out.bind_ok] at n ⊢
  have n : Nx X.K X.M W σ ρ I0 h H (if y.length ≤ SL then Out.ok y h else .bad) _ := n
  intro ρ1 I1 H1 x1 r1 v o
  cases (show v = .str y from o)
  split at n
  · exact n ρ1 I1 H1 x1 r1
  · exact n.elim
theorem Out.bind_assoc' {α β γ : Type} (o : Out α) (f : α → Hs → Out β) (g : β → Hs → Out γ) : (o.bind fun a h => (f a h).bind g) = (o.bind f).bind g := by cases o <;> rfl
theorem joins_run {σ : L2.St} {σT : Slots} {Q : Str → Hp → Prop} : ∀ (es : List E) {acc : Str} {ρ : List Addr} {I : Addr → Prop} {h : Hs} {H : Hp}, HR X.K X.M ρ I h H → SR X.K X.M ρ I h H σT σ → Nx X.K X.M W σ ρ I h H (evJ Γ es acc σT h) (fun y _ _ _ H' => Q y H') →
    tJs (es.map fun e => tX X.K X.M W fun σ h => (evE Γ e σ h).bind (fmR Γ)) acc σ H Q
  | [], acc, ρ, I, h, H, hr, sr, n => by
    rw [evJ] at n
    exact n ρ I H .refl hr
  | e :: es, acc, ρ, I, h, H, hr, sr, n => by
    rw [evJ, Out.bind_assoc'] at n
    refine ⟨ρ, I, σT, h, hr, sr, n.bind.imp fun y h1 ρ1 I1 H1 x1 r1 n1 => ?_⟩
    split at n1
    · rename_i l
      exact ⟨y, rfl, by rw [sizeLine_eq]; exact l, joins_run es r1 (sr.ext hr x1) n1⟩
    · exact n1.elim
theorem s_fs {es : List E} {ps : List Expr} {pos : Pos} (hp : PJ X ps (es.map fun e => tX X.K X.M W fun σ h => (evE Γ e σ h).bind (fmR Γ))) (ne : ps ≠ []) : PE X (.JoinedStr ps pos) (tD X.K X.M W (evE Γ (.fs es))) := by
  have fin : ∀ σ H Q, tD X.K X.M W (evE Γ (.fs es)) σ H Q → tJs (es.map fun e => tX X.K X.M W fun σ h => (evE Γ e σ h).bind (fmR Γ)) Str.empty σ H fun y H' => Q (.str y) H' := fun σ H Q q => by
    obtain ⟨ρ, I, σT, h, hr, sr, n⟩ := q
    rw [evE] at n
    refine joins_run es hr sr (n.bind.imp fun y h1 ρ1 I1 H1 x1 r1 n1 => ?_)
    have n2 : Nx X.K X.M W σ ρ1 I1 h1 H1 (Out.ok (R.v (.str y)) h1) _ := n1
    exact n2 ρ1 I1 H1 .refl r1 (.str y) rfl
  match ps, es, hp with
  | [], _, _ => exact (ne rfl).elim
  | [p], [e], .cons he .nil =>
    refine PE.imp (pe_joined1 he) fun σ H Q q => ?_
    obtain ⟨ρ, I, σT, h, hr, sr, n⟩ := fin σ H Q q
    refine ⟨ρ, I, σT, h, hr, sr, n.imp fun y h1 ρ1 I1 H1 x1 r1 n1 => ?_⟩
    obtain ⟨y2, e2, l, n2⟩ := n1
    cases e2
    have n3 : Q (.str (Str.empty ++ y)) H1 := n2
    rwa [show Str.empty ++ y = y from by show Str.mk (#[] ++ y.cps) = y; rw [Array.empty_append]] at n3
  | p1 :: p2 :: ps, es, hp => exact PE.imp (pe_joined hp) fin
end
end VY
namespace GQ
open PySem PySem.SeqAt
open AutoSeq1 (wpAny_loadPart')
open MeetsSeq MeetsSeq2 MeetsSeq3 SeqRoads2
section
variable {prog : Program} {w : World} {A : Around} {R : Result → Shared → Prop}
theorem ne_loopG (l b : Addr) (N : Nat) (I : Nat → Shared → Prop) (hl : ListI prog w A (fun e s' => R (.error e) s') l b N I)
    (fin : ∀ s, I N s → R (.ok (.ret (.bool false))) s) (k : Nat) :
    ∀ i : Nat, N - i = k → i ≤ N → ∀ s, I i s →
      wpAny (model prog w) A.in1 (Builtin.«list.__eq__.loop» ⟨[.ref l, .ref b, rawInt i, rawInt 3], []⟩) (FinOf prog w A R) (fun e s' => R (.error e) s') s := by
  induction k with
  | zero =>
    intro i hk hi s h
    obtain ⟨items, items2, n, n2, hl1, hb1, hs1, hs2, _⟩ := hl _ _ h
    have hi' : i = N := by omega
    have hR : R (.ok (.ret (.bool false))) s := fin s (hi' ▸ h)
    obtain ⟨hp, g, d, tk, os⟩ := s
    wp_walk using wpAny_loadPart' hl1, wpAny_loadPart' hb1
    have hi1 : items[((i : Nat) : Int).toNat]? = none := by simp; omega
    have hi2 : items2[((i : Nat) : Int).toNat]? = none := by simp; omega
    rw [hi1, hi2]
    wp_walk using wpAny_loadPart' hl1, wpAny_loadPart' hb1
    show R (.ok (.ret (.bool (items.size != items2.size)))) _
    rw [hs1, hs2]
    simpa using hR
  | succ k ih =>
    intro i hk hi s h
    obtain ⟨items, items2, n, n2, hl1, hb1, hs1, hs2, turn⟩ := hl _ _ h
    have hlt : i < items.size := by omega
    have hlt2 : i < items2.size := by omega
    have ht := turn hlt hlt2
    obtain ⟨hp, g, d, tk, os⟩ := s
    wp_walk using wpAny_loadPart' hl1, wpAny_loadPart' hb1
    have hi1 : items[((i : Nat) : Int).toNat]? = some items[i] := by simp [hlt]
    have hi2 : items2[((i : Nat) : Int).toNat]? = some items2[i] := by simp [hlt2]
    have hc : ((i : Int) + 1) = ((i + 1 : Nat) : Int) := by omega
    rw [hi1, hi2]
    refine wpAny_bind (wpAny_mono ht (fun r s2 h2 => ?_) fun _ _ x => x)
    obtain ⟨hr, h2⟩ := h2
    subst hr
    have hrec := ih (i + 1) (by omega) (by omega) s2 h2
    obtain ⟨hp2, g2, d2, tk2, os2⟩ := s2
    wp_walk
    rw [hc]
    exact ⟨plainId_quiet plain_eq_loop _, codeAny_builtin entry_eq_loop (by
      rw [Around.under_plainId plain_eq_loop _]
      exact hrec)⟩
theorem list_neG (l b : Addr) (N : Nat) (I : Nat → Shared → Prop) (hl : ListI prog w A (fun e s' => R (.error e) s') l b N I)
    (fin : ∀ s, I N s → R (.ok (.ret (.bool false))) s) {s : Shared} (h : I 0 s) :
    wpAny (model prog w) A.in1 (Builtin.«list.__ne__» ⟨[.ref l, .ref b], []⟩) (FinOf prog w A R) (fun e s' => R (.error e) s') s := by
  obtain ⟨items, items2, n, n2, hl1, hb1, hs1, hs2, _⟩ := hl _ _ h
  have hrec := ne_loopG (A := A) (R := R) l b N I hl fin _ 0 rfl (Nat.zero_le _) s h
  obtain ⟨hp, g, d, tk, os⟩ := s
  have f3 := AutoSeq1.sub_list_list
  have hne : ¬ (items.size != items2.size) = true := by simp [hs1, hs2]
  wp_walk using wpAny_loadPart' hl1, wpAny_loadPart' hb1
  exact ⟨plainId_quiet plain_eq_loop _, codeAny_builtin entry_eq_loop (by
    rw [Around.under_plainId plain_eq_loop _]
    exact hrec)⟩
end
section
variable {prog : Program} {w : World} {A : Around} {E : Value → Shared → Prop} {s : Shared}
theorem rc_listNeG {l b : Addr} {N : Nat} {Q : Value → Shared → Prop} (hu : A.units < cLine) (I : Nat → Shared → Prop) (hl : ListI prog w A E l b N I)
    (fin : ∀ s, I N s → Q (.bool false) s) (h : I 0 s) : wpAny (model prog w) A (richCompare .NotEq (.ref l) (.ref b)) Q E s := by
  obtain ⟨items, items2, n, n2, hl1, hb1, _, _, _⟩ := hl _ _ h
  refine wpAny_richCompare_same_room (op := .NotEq) ⟨_, hl1, rfl⟩ ⟨_, hb1, rfl⟩ F.slot_list_ne (call_here F.slot_list_ne ⟨_, hl1, rfl⟩ F.entry_list_ne (F.args_list_ne_2 _ _) ?_) hu
  exact list_neG (R := wants (fun v s' => v ≠ .notImplemented ∧ Q v s') E) l b N I hl (fun s' q => ⟨(fun x => nomatch x), fin s' q⟩) h
end
end GQ
namespace VY
open PySem PySem.Spec
open PyProof.Rows hiding St
open L2
section
variable {X : Cx} {N : Nms} {Γ : Ctx} {k : Nat} {W : WX}
theorem call_isC : CallR X (.builtin "isinstance") (fun xs H Q => ∃ a C dx ws, xs = [.ref a, .ref C] ∧ H a = some (.ins C dx ws) ∧ Q (.bl true) H) := by
  intro pins s σ H xs us Q I rs h
  obtain ⟨a, C, dx, ws, rfl, ha, q⟩ := h
  obtain ⟨u, w, rfl, ru, rw'⟩ := rs.two
  cases ru
  cases rw'
  obtain ⟨od, ia⟩ := inst_at I.hok ha
  exact PySem.W.isi_call I.kIn (fun M => ia.type) (by simp [PySem.W.isIn]) (fun z => nomatch z) ⟨.bl true, H, I, rfl, q⟩
theorem s_isC (G : Gd X N Γ k W) (hh : N.hot = false) {c : Str} {e : E} {pe : Expr} {p p2 cp : Pos} (hg : glbB X.env.scope "isinstance" = true) (hc : glbB X.env.scope c = true) (he : PE X pe (tD X.K X.M W (evE Γ e))) (ns : notStar pe = true) :
    PE X (.Call (.Name "isinstance" p) [pe, .Name c p2] [] cp) (tD X.K X.M W (evE Γ (.isC c e))) := by
  obtain ⟨hG, hp⟩ := glb_of hg
  obtain ⟨hG2, hp2⟩ := glb_of hc
  have hn : PE X (.Name c p2) (fun σ H Q => ∃ C, X.mg c = some (.ref C) ∧ Q (.ref C) H) := ⟨fun pins s σ H Q I ⟨C, hm, q⟩ => ld_glob I hG2 hm ⟨.ref C, H, I, rfl, q⟩ (plain_dbg hp2).1⟩
  have e2 := star_eq (es := [Expr.Name c p2]) (env := X.env) ns
  have pa := pa_cons he (pa_cons hn pa_nil) e2
  refine PE.imp (pe_callB (id := "isinstance") call_isC hG (G.bl .isinstance) (by decide +kernel) pa (by decide) (plain_dbg hp).1 e2 rfl) fun σ H Q q => ?_
  obtain ⟨ρ, I0, σT, h, hr, sr, n⟩ := q
  rw [evE] at n
  refine ⟨ρ, I0, σT, h, hr, sr, n.bind.imp fun x h1 ρ1 I1 H1 x1 r1 n1 v o => ?_⟩
  cases x with
  | al _ => exact n1.elim
  | bw _ => exact n1.elim
  | v t =>
    cases t <;> try exact (show False from n1).elim
    rename_i nn
    obtain ⟨a, rfl, ea⟩ := (show ∃ a, v = .ref a ∧ ρ1[nn]? = some a from o)
    replace n1 : Nx X.K X.M W σ ρ1 I1 h1 H1 (match h1[nn]? with
      | some (.ins d _) => if d = c then Out.ok (R.v (.bl true)) h1 else .bad
      | _ => .bad) _ := n1
    split at n1
    · rename_i d fs el
      split at n1
      · rename_i ed
        subst ed
        obtain ⟨C, dx, ws, hm, ha, w⟩ := r1.obj nn _ a el ea
        exact ⟨C, hm, a, C, dx, ws, rfl, ha, n1 ρ1 I1 H1 .refl r1 (.bl true) rfl⟩
      · exact n1.elim
    · exact n1.elim
def W0 : WX := fun _ _ _ _ => False
theorem tk0 : Takes X W0 := fun _ _ ⟨_, _, _, _, _, _, _, _, _, _, _, _, _, _, _, _, w⟩ => (show False from w).elim
theorem eqO_w {σ : L2.St} {ρ : List Addr} {I : Addr → Prop} {h : Hs} {H : Hp} {m n : Nat} {kk : Bool → Hs → List Addr → (Addr → Prop) → Hp → Prop} (nx : Nx X.K X.M W σ ρ I h H (eqO Γ m n h) kk) : Nx X.K X.M W0 σ ρ I h H (eqO Γ m n h) kk := by
  cases e : eqO Γ m n h with
  | ok b h1 => rw [e] at nx; exact nx
  | bad => rw [e] at nx; exact nx
  | ex y h1 =>
    exfalso
    unfold eqO at e
    (repeat' split at e) <;> cases e
theorem eqO_live {σ : L2.St} {ρ : List Addr} {I : Addr → Prop} {h : Hs} {H : Hp} {m n : Nat} {kk : Bool → Hs → List Addr → (Addr → Prop) → Hp → Prop} (nx : Nx X.K X.M W σ ρ I h H (eqO Γ m n h) kk) : (∃ c fs, h[m]? = some (.ins c fs)) ∧ ∃ d gs, h[n]? = some (.ins d gs) := by
  unfold eqO at nx
  split at nx
  · rename_i c fs d gs el el'
    exact ⟨⟨c, fs, el⟩, d, gs, el'⟩
  · exact nx.elim
theorem eq_run (G : Gd X N Γ k W) (hh : N.hot = false) {σ0 : L2.St} {ρ : List Addr} {I : Addr → Prop} {h : Hs} {H : Hp} {m n : Nat} {a b : Addr} {Q : Bool → Hs → List Addr → (Addr → Prop) → Hp → Prop} (hr : HR X.K X.M ρ I h H) (ea : ρ[m]? = some a) (eb : ρ[n]? = some b) (nx : Nx X.K X.M W0 σ0 ρ I h H (eqO Γ m n h) Q)
    {A' : Around} {pins : List (Addr × Obj)} {σ : L2.St} {s : Shared} (e1 : A'.handled = X.A.handled) (e2 : A'.depth = X.A.depth) (e3 : A'.frames = X.A.frames) (e4 : A'.units ≤ X.A.units + 4) (J : L2.Inv X pins σ H s) :
    wpAny (model X.prog X.w) A' (richCompare .Eq (.ref a) (.ref b)) (fun v s' => ∃ r h' ρ' I' H', v = .bool r ∧ L2.Inv X pins σ H' s' ∧ Ext ρ I h H ρ' I' h' H' ∧ HR X.K X.M ρ' I' h' H' ∧ Q r h' ρ' I' H') X.xe s := by
  unfold eqO at nx
  split at nx
  · rename_i c fs d gs el el'
    split at nx
    · rename_i ecd
      subst ecd
      obtain ⟨C, dx, ws, hm, ha, _⟩ := hr.obj m _ a el ea
      obtain ⟨C', dx', ws', hm', hb, _⟩ := hr.obj n _ b el' eb
      rw [hm] at hm'
      cases hm'
      split at nx
      · rename_i f ef
        split at nx
        · rename_i r h1 em
          obtain ⟨C', fa, fd, ps, j, hm', mth, bd, rm, F, hlen⟩ := G.om c _ f ef
          have hm2 : X.mg c = some (.ref C) := hm
          rw [hm2] at hm'
          cases hm'
          obtain ⟨od, ia⟩ := inst_at J.hok ha
          obtain ⟨od', ib⟩ := inst_at J.hok hb
          obtain ⟨m', hF⟩ := J.fr
          have hu := G.hu
          have r0 := rm hh
          have e0 := J.env0
          have F' : FnOk X.prog X.w X.K X.mg X.base (CX X.prog X.w) j fa fd ps (spD X.K X.M (Γ.make f) ps.length) := by rw [G.M hh]; exact F
          refine PySem.W.cmp_K (op := .Eq) (tb := .ref C) (by omega) hF J.ok.mod.kin ia ib.type (by simp [PySem.W.notFirst]) mth.at_ mth.fn ?_
          refine wpAny_mono (run_fnIn (E := WE W0) (vs := [.ref a, .ref b]) (Q := fun v H' => ∃ r h' ρ' I', v = .bl r ∧ Ext ρ I h H ρ' I' h' H' ∧ HR X.K X.M ρ' I' h' H' ∧ Q r h' ρ' I' H') F' ⟨by rw [e1]; exact r0.hd, by have := r0.dp; rw [e2]; omega, by have := r0.un; omega⟩ ⟨by rw [e3]; exact e0.frames, e0.mod, e0.bs, e0.bsz, e0.funs, e0.frf, e0.hok, e0.bare⟩ bd (passAt tk0 σ) J (.cons rfl (.cons rfl .nil)) ?_) (fun v s' z => ?_) fun _ _ z => z
          · refine spd_of (X := X) (W := W0) (H0 := H) (σT := []) (σ := σ) hr (vs := [.ref a, .ref b]) (ts := [.ref m, .ref n]) ⟨⟨a, rfl, ea⟩, ⟨b, rfl, eb⟩, trivial⟩ hlen (fun a d => d) (fun _ _ _ z => z) ?_
            rw [em]
            intro ρ1 I1 H1 x1 r1 v o
            cases (show v = .bl r from o)
            exact ⟨r, h1, ρ1, I1, rfl, x1, r1, nx ρ1 I1 H1 x1 r1⟩
          · obtain ⟨v', H', J', rv, r', h', ρ', I', rfl, x', hr', q⟩ := z
            cases (show v = .bool r' from rv)
            exact ⟨r', h', ρ', I', H', rfl, J', x', hr', q⟩
        · exact nx.elim
      · exact nx.elim
    · exact nx.elim
  · exact nx.elim
def rEqI (X : Cx) (Γ : Ctx) : R2 := fun x y H Q => ∃ σ ρ I h m n a b, HR X.K X.M ρ I h H ∧ x = .ref a ∧ ρ[m]? = some a ∧ y = .ref b ∧ ρ[n]? = some b ∧ Nx X.K X.M W0 σ ρ I h H (eqO Γ m n h) fun r _ _ _ H' => Q (.bl r) H'
theorem op_eqI (G : Gd X N Γ k W) (hh : N.hot = false) : OpR X (compareOp .Eq) (rEqI X Γ) := by
  intro pins s σ H x y v u Q I rx ry q
  obtain ⟨σ0, ρ, I0, h, m, n, a, b, hr, rfl, ea, rfl, eb, nx⟩ := q
  cases rx
  cases ry
  refine PySem.W.cmp_ofEq (wpAny_mono (eq_run G hh hr ea eb nx rfl rfl rfl (by omega) I) (fun v s' z => ?_) fun _ _ z => z)
  obtain ⟨r, h', ρ', I', H', rfl, J, _, _, q⟩ := z
  exact ⟨.bl r, H', J, rfl, q⟩
theorem t_eqI {pa pb : Expr} {a b : E} {σ : St} {H : Hp} {Q : VK} (q : tD X.K X.M W (evE Γ (.eqI a b)) σ H Q) :
    tOp (rEqI X Γ) (tD X.K X.M W (evE Γ a)) (tD X.K X.M W (evE Γ b)) σ H fun v H' => (∃ k, v = .bl k) ∧ Q v H' := by
  obtain ⟨ρ, I, σT, h, hr, sr, n⟩ := q
  rw [evE] at n
  refine ⟨ρ, I, σT, h, hr, sr, n.bind.imp fun x h1 ρ1 I1 H1 x1 r1 n1 v o1 => ?_⟩
  refine ⟨ρ1, I1, σT, h1, r1, sr.ext hr x1, n1.bind.imp fun y h2 ρ2 I2 H2 x2 r2 n2 u o2 => ?_⟩
  have o3 := o1.ext r1 x2
  cases x with
  | al _ => exact n2.elim
  | bw _ => exact n2.elim
  | v t =>
    cases t <;> try exact (show False from n2).elim
    rename_i m
    cases y with
    | al _ => exact n2.elim
    | bw _ => exact n2.elim
    | v t' =>
      cases t' <;> try exact (show False from n2).elim
      rename_i n'
      obtain ⟨a, rfl, ea⟩ := (show ∃ a, v = .ref a ∧ ρ2[m]? = some a from o3)
      obtain ⟨b, rfl, eb⟩ := (show ∃ a, u = .ref a ∧ ρ2[n']? = some a from o2)
      have n3 : Nx X.K X.M W σ ρ2 I2 h2 H2 ((eqO Γ m n' h2).bind fun k h3 => Out.ok (R.v (.bl k)) h3) _ := n2
      refine ⟨σ, ρ2, I2, h2, m, n', a, b, r2, rfl, ea, rfl, eb, (eqO_w n3.bind).imp fun r h3 ρ3 I3 H3 x3 r3 n4 => ⟨⟨r, rfl⟩, ?_⟩⟩
      exact n4 ρ3 I3 H3 .refl r3 (.bl r) rfl
theorem rEqI_imp {x y : V} {H : Hp} {Q Q' : VK} (g : ∀ v H', Q v H' → Q' v H') (q : rEqI X Γ x y H Q) : rEqI X Γ x y H Q' := by
  obtain ⟨σ, ρ, I, h, m, n, a, b, hr, e1, e2, e3, e4, nx⟩ := q
  exact ⟨σ, ρ, I, h, m, n, a, b, hr, e1, e2, e3, e4, nx.imp fun r h3 ρ3 I3 H3 x3 r3 n4 => g _ _ n4⟩
theorem tOp_imp {r : R2} {fa fb : Slots → Hs → Out R} (g : ∀ (x y : V) (H : Hp) (Q Q' : VK), (∀ v H', Q v H' → Q' v H') → r x y H Q → r x y H Q') {σ : St} {H : Hp} {Q Q' : VK} (i : ∀ v H', Q v H' → Q' v H') (q : tOp r (tD X.K X.M W fa) (tD X.K X.M W fb) σ H Q) : tOp r (tD X.K X.M W fa) (tD X.K X.M W fb) σ H Q' :=
  tD_imp _ _ _ (fun x H1 q1 => tD_imp _ _ _ (fun y H2 q2 => g _ _ _ _ _ i q2) q1) q
theorem s_eqI (G : Gd X N Γ k W) (hh : N.hot = false) {a b : E} {pa pb : Expr} {pos : Pos} (ha : PE X pa (tD X.K X.M W (evE Γ a))) (hb : PE X pb (tD X.K X.M W (evE Γ b))) (m : notSet pb = true) : PE X (.Compare pa [.Eq] [pb] pos) (tD X.K X.M W (evE Γ (.eqI a b))) :=
  PE.imp (pe_cmpR (op_eqI G hh) ha hb (not_marks m)) fun σ H Q q => tOp_imp (r := rEqI X Γ) (fun _ _ _ _ _ => rEqI_imp) (fun v H' z => z.2) (t_eqI (pa := pa) (pb := pb) q)
theorem s_teqI (G : Gd X N Γ k W) (hh : N.hot = false) {a b : E} {pa pb : Expr} {pos : Pos} (ha : PE X pa (tD X.K X.M W (evE Γ a))) (hb : PE X pb (tD X.K X.M W (evE Γ b))) (m : notSet pb = true) : PT X (.Compare pa [.Eq] [pb] pos) (tB X.K X.M W (evC Γ (.t (.eqI a b)))) :=
  PT.imp (pt_cmpR (op_eqI G hh) ha hb (not_marks m)) fun σ H Q q => tOp_imp (r := rEqI X Γ) (fun _ _ _ _ _ => rEqI_imp) (fun v H' z => by obtain ⟨⟨k, rfl⟩, z⟩ := z; exact ⟨k, rfl, z k rfl⟩) (t_eqI (pa := pa) (pb := pb) (t_bl q))
theorem eqLs_len : ∀ (l l' : List T) (h : Hs), eqLs Γ l l' h ≠ .bad → l.length = l'.length
  | [], [], h, _ => rfl
  | [], _ :: _, h, n => (n (by cases ‹T› <;> rfl)).elim
  | t :: l, [], h, n => (n (by cases t <;> rfl)).elim
  | t :: l, t' :: l', h, n => by
    cases t <;> try exact (n rfl).elim
    cases t' <;> try exact (n rfl).elim
    rename_i m m'
    rw [eqLs] at n
    split at n
    · rw [List.length_cons, List.length_cons, eqLs_len l l' h n]
    · cases e : eqO Γ m m' h with
      | bad => rw [e] at n; exact (n rfl).elim
      | ex y h1 =>
        exfalso
        unfold eqO at e
        (repeat' split at e) <;> cases e
      | ok b h1 =>
        rw [e, Out.bind_ok] at n
        split at n
        · rw [List.length_cons, List.length_cons, eqLs_len l l' h1 n]
        · exact (n rfl).elim
theorem eqLs_w {σ : L2.St} {l l' : List T} {ρ : List Addr} {I : Addr → Prop} {h : Hs} {H : Hp} {kk : Unit → Hs → List Addr → (Addr → Prop) → Hp → Prop} (nx : Nx X.K X.M W σ ρ I h H (eqLs Γ l l' h) kk) : Nx X.K X.M W0 σ ρ I h H (eqLs Γ l l' h) kk := by
  have no : ∀ (l l' : List T) (h : Hs) y h1, eqLs Γ l l' h ≠ .ex y h1 := by
    intro l
    induction l with
    | nil => intro l' h y h1 e; cases l' <;> first | (cases e; done) | (rename_i t _; cases t <;> cases e)
    | cons t l ih =>
      intro l' h y h1 e
      cases l' with
      | nil => cases t <;> cases e
      | cons t' l' =>
        cases t <;> try (cases e; done)
        cases t' <;> try (cases e; done)
        rename_i m m'
        rw [eqLs] at e
        split at e
        · exact ih _ _ _ _ e
        · cases e2 : eqO Γ m m' h with
          | bad => rw [e2] at e; cases e
          | ex y h1 =>
            unfold eqO at e2
            (repeat' split at e2) <;> cases e2
          | ok b h2 =>
            rw [e2, Out.bind_ok] at e
            split at e
            · exact ih _ _ _ _ e
            · cases e
  cases e : eqLs Γ l l' h with
  | ok b h1 => rw [e] at nx; exact nx
  | bad => rw [e] at nx; exact nx
  | ex y h1 => exact (no _ _ _ _ _ e).elim
def rNeI (X : Cx) (Γ : Ctx) : R2 := fun x y H Q => ∃ σ σT ρ I h H0 l l', HR X.K X.M ρ I h H ∧ RO X.K X.M ρ I h H H0 σT σ x (.v (.lst l)) ∧ RO X.K X.M ρ I h H H0 σT σ y (.al l') ∧ Nx X.K X.M W0 σ ρ I h H (eqLs Γ l l' h) fun _ _ _ _ H' => Q (.bl false) H'
theorem item_at {vs : List V} {its : List Value} {i : Nat} {v : V} {a : Addr} (r : Vals vs its) (e : vs[i]? = some (.ref a)) (h1 : i < its.toArray.size) : its.toArray[i] = .ref a := by
  obtain ⟨u, hu, ru⟩ := r.get e
  have g1 : its[i]? = some its.toArray[i] := by
    have h1' : i < its.length := by simpa using h1
    rw [List.getElem?_eq_getElem h1'] <;> simp
  rw [g1] at hu
  rw [Option.some.inj hu]
  exact ru
theorem op_neI (G : Gd X N Γ k W) (hh : N.hot = false) : OpR X (compareOp .NotEq) (rNeI X Γ) := by
  intro pins s σ H x y v u Q I rx ry q
  obtain ⟨σ0, σT, ρ, I0, h, H0, l, l', hr, ox, oy, nx⟩ := q
  have hu := G.hu
  have ll : l.length = l'.length := eqLs_len l l' h (fun z => by rw [z] at nx; exact nx)
  obtain ⟨a, vs, rfl, _⟩ := id ox
  obtain ⟨b, ws, rfl, _⟩ := id oy
  cases rx
  cases ry
  refine PySem.W.cmp_ofNotEq (GQ.rc_listNeG (N := l.length) (by omega) (fun i s' => ∃ ρ' I' h' H', L2.Inv X pins σ H' s' ∧ HR X.K X.M ρ' I' h' H' ∧ RO X.K X.M ρ' I' h' H' H0 σT σ0 (.ref a) (.v (.lst l)) ∧ RO X.K X.M ρ' I' h' H' H0 σT σ0 (.ref b) (.al l') ∧
    Nx X.K X.M W0 σ0 ρ' I' h' H' (eqLs Γ (l.drop i) (l'.drop i) h') fun _ _ _ _ H' => Q (.bl false) H') (fun i s' q => ?_) (fun s' q => ?_) ⟨ρ, I0, h, H, I, hr, ox, oy, nx⟩)
  · obtain ⟨ρ1, I1, h1, H1, J1, r1, ox1, oy1, n1⟩ := q
    obtain ⟨a', vs', ea', ia, pa, wa⟩ := id ox1
    cases ea'
    obtain ⟨b', ws', eb', _, pb, _, _, wb⟩ := id oy1
    cases eb'
    obtain ⟨z, its, kk, rv, e⟩ := J1.hok a _ pa
    obtain ⟨z2, its2, kk2, rv2, e2⟩ := J1.hok b _ pb
    refine ⟨its.toArray, its2.toArray, kk, kk2, e, e2, by rw [List.size_toArray, ← rv.length, wa.length], by rw [List.size_toArray, ← rv2.length, wb.length, ll], fun g1 g2 => ?_⟩
    have k1 : i < l.length := by rw [← wa.length, rv.length]; simpa using g1
    have k2 : i < l'.length := by rw [← wb.length, rv2.length]; simpa using g2
    rw [List.drop_eq_getElem_cons k1, List.drop_eq_getElem_cons k2] at n1
    cases et : l[i] <;> (rw [et] at n1; try exact (show False from n1).elim)
    rename_i m
    cases et' : l'[i] <;> (rw [et'] at n1; try exact (show False from n1).elim)
    rename_i m'
    obtain ⟨v1, ev1, q1⟩ := wa.get (by rw [List.getElem?_eq_getElem k1, et])
    obtain ⟨v2, ev2, q2⟩ := wb.get (by rw [List.getElem?_eq_getElem k2, et'])
    obtain ⟨c1, rfl, ec1⟩ := (show ∃ a, v1 = .ref a ∧ ρ1[m]? = some a from q1)
    obtain ⟨c2, rfl, ec2⟩ := (show ∃ a, v2 = .ref a ∧ ρ1[m']? = some a from q2)
    rw [item_at (v := .non) rv ev1 g1, item_at (v := .non) rv2 ev2 g2]
    rw [eqLs] at n1
    by_cases em : m = m'
    · subst em
      rw [if_pos rfl] at n1
      rw [ec1] at ec2
      cases ec2
      exact SeqAt.EqAt.same (A := X.A.in1) (s := s') (.ref c1) X.prog X.w X.xe _ ⟨rfl, ρ1, I1, h1, H1, J1, r1, ox1, oy1, n1⟩
    · rw [if_neg em] at n1
      by_cases ec : c1 = c2
      · subst ec
        obtain ⟨⟨c, fs, l1⟩, d, gs, l2⟩ := eqO_live n1.bind
        exact (em (r1.inj m m' c1 _ _ ec1 ec2 l1 l2 (fun z => nomatch z) (fun z => nomatch z))).elim
      · refine GQ.eqBool_refG ec (wpAny_mono (eq_run G hh r1 ec1 ec2 n1.bind rfl rfl rfl (by show X.A.units + 1 ≤ _; omega) J1) (fun v s2 z => ?_) fun _ _ z => z)
        obtain ⟨r, h2, ρ2, I2, H2, rfl, J2, x2, r2, n2⟩ := z
        split at n2
        · rename_i er
          subst er
          exact ⟨true, rfl, rfl, ρ2, I2, h2, H2, J2, r2, ox1.ext r1 x2, oy1.ext r1 x2, n2⟩
        · exact n2.elim
  · obtain ⟨ρ1, I1, h1, H1, J1, r1, ox1, oy1, n1⟩ := q
    rw [List.drop_length, ll, List.drop_length, eqLs] at n1
    exact ⟨.bl false, H1, J1, rfl, n1 ρ1 I1 H1 .refl r1⟩
theorem t_neI {a b : E} {σ : St} {H : Hp} {Q : VK} (q : tD X.K X.M W (evE Γ (.neI a b)) σ H Q) :
    tOp (rNeI X Γ) (tD X.K X.M W (evE Γ a)) (tD X.K X.M W (evE Γ b)) σ H fun v H' => (∃ k, v = .bl k) ∧ Q v H' := by
  obtain ⟨ρ, I, σT, h, hr, sr, n⟩ := q
  rw [evE] at n
  refine ⟨ρ, I, σT, h, hr, sr, n.bind.imp fun x h1 ρ1 I1 H1 x1 r1 n1 v o1 => ?_⟩
  refine ⟨ρ1, I1, σT, h1, r1, sr.ext hr x1, n1.bind.imp fun y h2 ρ2 I2 H2 x2 r2 n2 u o2 => ?_⟩
  have o3 := (o1.ext r1 x2)
  cases x with
  | al _ => exact n2.elim
  | bw _ => exact n2.elim
  | v t =>
    cases t <;> try exact (show False from n2).elim
    rename_i l
    cases y with
    | v _ => exact n2.elim
    | bw _ => exact n2.elim
    | al l' =>
      have n3 : Nx X.K X.M W σ ρ2 I2 h2 H2 ((eqLs Γ l l' h2).bind fun _ h3 => Out.ok (R.v (.bl false)) h3) _ := n2
      refine ⟨σ, σT, ρ2, I2, h2, H1, l, l', r2, o3, o2, (eqLs_w n3.bind).imp fun r h3 ρ3 I3 H3 x3 r3 n4 => ⟨⟨false, rfl⟩, ?_⟩⟩
      exact n4 ρ3 I3 H3 .refl r3 (.bl false) rfl
theorem rNeI_imp {x y : V} {H : Hp} {Q Q' : VK} (g : ∀ v H', Q v H' → Q' v H') (q : rNeI X Γ x y H Q) : rNeI X Γ x y H Q' := by
  obtain ⟨σ, σT, ρ, I, h, H0, l, l', hr, e1, e2, nx⟩ := q
  exact ⟨σ, σT, ρ, I, h, H0, l, l', hr, e1, e2, nx.imp fun r h3 ρ3 I3 H3 x3 r3 n4 => g _ _ n4⟩
theorem s_neI (G : Gd X N Γ k W) (hh : N.hot = false) {a b : E} {pa pb : Expr} {pos : Pos} (ha : PE X pa (tD X.K X.M W (evE Γ a))) (hb : PE X pb (tD X.K X.M W (evE Γ b))) (m : notSet pb = true) : PE X (.Compare pa [.NotEq] [pb] pos) (tD X.K X.M W (evE Γ (.neI a b))) :=
  PE.imp (pe_cmpR (op_neI G hh) ha hb (not_marks m)) fun σ H Q q => tOp_imp (r := rNeI X Γ) (fun _ _ _ _ _ => rNeI_imp) (fun v H' z => z.2) (t_neI q)
theorem s_tneI (G : Gd X N Γ k W) (hh : N.hot = false) {a b : E} {pa pb : Expr} {pos : Pos} (ha : PE X pa (tD X.K X.M W (evE Γ a))) (hb : PE X pb (tD X.K X.M W (evE Γ b))) (m : notSet pb = true) : PT X (.Compare pa [.NotEq] [pb] pos) (tB X.K X.M W (evC Γ (.t (.neI a b)))) :=
  PT.imp (pt_cmpR (op_neI G hh) ha hb (not_marks m)) fun σ H Q q => tOp_imp (r := rNeI X Γ) (fun _ _ _ _ _ => rNeI_imp) (fun v H' z => by obtain ⟨⟨k, rfl⟩, z⟩ := z; exact ⟨k, rfl, z k rfl⟩) (t_neI (t_bl q))
end
end VY
namespace VY
open PySem PySem.Spec
open PyProof.Rows hiding St
open L2
theorem pts_yes {X : Cx} {K : PySem.W.Frag} {mg : Mg} {W : WX} {Γ : Ctx} : PTs X [] (tB K mg W (evC Γ .yes)) := by
  refine ⟨fun pins s σ H Q I w => pts_nil.run pins s σ H Q I ?_⟩
  obtain ⟨ρ, I', σT, h, hr, sr, n⟩ := w
  exact n ρ I' H .refl hr
theorem ff {P : Prop} (h : false = true) : P := nomatch h
theorem relS_env (X : Cx) (s : Shared) (H : Hp) (scope : Scope) (C : Addr) (cl : List (Str × Addr)) (fp : List Addr) : (X.blk s H scope (compEnvC scope cl C X.env) fp).env.scope = relS scope X.env.scope := rfl
mutual
theorem sE {N : Nms} {Γ : Ctx} {k : Nat} : ∀ (e : E) {X : Cx} {W : WX} (G : Gd X N Γ k W) {pe : Expr}, mE N X.N X.env.scope e pe = true → PE X pe (tD X.K X.M W (evE Γ e))
  | .c _, X, W, G, pe, m => by
    unfold mE at m; split at m
    · exact s_c m
    · exact ff m
  | .var _, X, W, G, pe, m => by
    unfold mE at m; split at m
    · exact s_var (of_decide_eq_true (and_tt (and_tt m).1).1) (and_tt (and_tt m).1).2 (and_tt m).2
    · exact ff m
  | .gl _, X, W, G, pe, m => by
    unfold mE at m; split at m
    · exact s_gl G (of_decide_eq_true (and_tt m).1) (and_tt m).2
    · exact ff m
  | .bin op a b, X, W, G, pe, m => by
    unfold mE at m; split at m
    · have q := and_tt m
      have q1 := and_tt q.1
      cases of_decide_eq_true q1.1
      exact s_bin op (sE a G q1.2) (sE b G q.2)
    · exact ff m
  | .neg a, X, W, G, pe, m => by
    unfold mE at m; split at m
    · exact s_neg (sE a G m)
    · exact ff m
  | .not a, X, W, G, pe, m => by
    unfold mE at m; split at m
    · exact s_not (sE a G m)
    · exact ff m
  | .bop op es, X, W, G, pe, m => by
    unfold mE at m; split at m
    · have q := and_tt m
      cases of_decide_eq_true q.1
      exact sB es G q.2
    · exact ff m
  | .cmp op a b, X, W, G, pe, m => by
    unfold mE at m; split at m
    · split at m
      · have q := and_tt m
        have q1 := and_tt q.1
        have q2 := and_tt q1.1
        cases of_decide_eq_true q2.1
        refine PE.imp (pe_cmpR (cmp_sound (mg := X.M) rfl rfl G.hu op) (sE a G q2.2) (sE b G q1.2) (not_marks q.2)) fun σ H Q z => ?_
        obtain ⟨ρ, I, σT, h, hr, sr, n⟩ := s_cmp G op (sE a G q2.2) (sE b G q1.2) z
        refine ⟨ρ, I, σT, h, hr, sr, n.imp fun r h' ρ' I' H' x' r' n' v o => ?_⟩
        obtain ⟨ρ1, I1, σ1, h1, hr1, sr1, n1⟩ := n' v o
        refine ⟨ρ1, I1, σ1, h1, hr1, sr1, n1.imp fun r h' ρ' I' H' x' r' n' v o => ?_⟩
        obtain ⟨ρ2, I2, h2, t, u, k, a1, a2, a3, a4, _, a5⟩ := n' v o
        exact ⟨ρ2, I2, h2, t, u, k, a1, a2, a3, a4, a5⟩
      · exact ff m
    · exact ff m
  | .ch op op' a b c, X, W, G, pe, m => by
    unfold mE at m; split at m
    · split at m
      · have q := and_tt m
        have q1 := and_tt q.1
        have q2 := and_tt q1.1
        have q3 := and_tt q2.1
        have q4 := and_tt q3.1
        cases of_decide_eq_true q4.1
        cases of_decide_eq_true q4.2
        refine PE.imp (pe_chain (cmp_sound (mg := X.M) rfl rfl G.hu op) (cmp_sound (mg := X.M) rfl rfl G.hu op') (sE a G q3.2) (sE b G q2.2) (sE c G q1.2) (show behindInMarks op' _ = false from not_marks q.2)) fun σ H Q z => ?_
        exact chain_imp tD_imp tD_imp tD_imp rCmp_imp rCmp_imp (fun v H' z => z.2) (s_ch G op op' z)
      · exact ff m
    · exact ff m
  | .ife c a b, X, W, G, pe, m => by
    unfold mE at m; split at m
    · have q := and_tt m
      have q1 := and_tt q.1
      exact s_ife (sC c G q1.1) (sE a G q1.2) (sE b G q.2)
    · exact ff m
  | .tup es, X, W, G, pe, m => by
    unfold mE at m; split at m
    · exact s_tup (sEs es G (and_tt m).1 (and_tt m).2)
    · exact ff m
  | .lst es, X, W, G, pe, m => by
    unfold mE at m; split at m
    · exact s_lst (sEs es G (and_tt m).1 (and_tt m).2)
    · exact ff m
  | .ix a b, X, W, G, pe, m => by
    unfold mE at m; split at m
    · have q := and_tt m
      have q1 := and_tt q.1
      exact s_ix G (sE a G q1.1) (sE b G q1.2) q.2
    · exact ff m
  | .sl a lo hi, X, W, G, pe, m => by
    unfold mE at m; split at m
    · split at m
      · have q := and_tt m
        have q1 := and_tt q.1
        exact s_sl (sE a G q1.1) (sO lo G q1.2) (sO hi G q.2)
      · exact ff m
    · exact ff m
  | .call f es, X, W, G, pe, m => by
    unfold mE at m; split at m
    · have q := and_tt m
      have q1 := and_tt q.1
      have q2 := and_tt q1.1
      have q3 := and_tt q2.1
      have q4 := and_tt q3.1
      exact s_call G (by simpa using q4.1) (of_decide_eq_true q4.2) (of_decide_eq_true q3.2) q2.2 (sEs es G q1.2 q.2) q.2 (fun z => by
        subst z
        cases es with
        | nil => rfl
        | cons e es => exact ff q1.2)
    · exact ff m
  | .op o es, X, W, G, pe, m => by
    unfold mE at m
    have q := and_tt m
    cases hs : shp X.env.scope o pe with
    | none => rw [hs] at q; exact ff q.2
    | some xs => rw [hs] at q; exact s_op G (by simpa using q.1) hs (sAll es G q.2)
  | .mth mt o es, X, W, G, pe, m => by
    unfold mE at m; split at m
    · have q := and_tt m
      have q1 := and_tt q.1
      have q2 := and_tt q1.1
      have q3 := and_tt q2.1
      have q4 := and_tt q3.1
      have q5 := and_tt q4.1
      have q6 := and_tt q5.1
      cases of_decide_eq_true q6.2
      exact s_mth G (by simpa using q6.1) (sE o G q3.2) (sAll es G q2.2) (sRs es G q2.2 q1.2) q1.2 q5.2 q4.2 (of_decide_eq_true q.2)
    · exact ff m
  | .dsp es, X, W, G, pe, m => by
    unfold mE at m; split at m
    · rename_i ks vs pos
      have q := and_tt m
      have q1 := and_tt q.1
      obtain ⟨k1, k2, k3, k4⟩ := sKV es G (pos := pos) q1.1
      exact s_dsp k1 k2 k3 (fun z => by subst z; cases q.2) (of_decide_eq_true q1.2) k4
    · exact ff m
  | .callv i es, X, W, G, pe, m => by
    unfold mE at m; split at m
    · rename_i x p xs pos
      have q := and_tt m
      have q1 := and_tt q.1
      have q2 := and_tt q1.1
      have q3 := and_tt q2.1
      have q4 := and_tt q3.1
      have q5 := and_tt q4.1
      cases xs with
      | nil => exact ff q.2
      | cons pa ps => exact s_callv G (by simpa using q5.1) (of_decide_eq_true q5.2) q4.2 q3.2 (sEs es G q2.2 q1.2) q1.2
    · exact ff m
  | .blt f es, X, W, G, pe, m => by
    unfold mE at m; split at m
    · rename_i x p xs pos
      have q := and_tt m
      have q1 := and_tt q.1
      have q2 := and_tt q1.1
      have q3 := and_tt q2.1
      have q4 := and_tt q3.1
      cases of_decide_eq_true q4.2
      cases xs with
      | nil => exact ff q.2
      | cons pa ps => exact s_blt G q3.2 (by simpa using q4.1) (sRs es G q2.2 q1.2) q1.2
    · exact ff m
  | .lc elt tg it cond, X, W, G, pe, m => by
    unfold mE at m; split at m
    · split at m
      · rename_i t iter ifs a
        have q := and_tt m
        have q1 := and_tt q.1
        have q2 := and_tt q1.1
        have q3 := and_tt q2.1
        have q4 := and_tt q3.1
        have q5 := and_tt q4.1
        have q6 := and_tt q5.1
        cases of_decide_eq_true q6.2
        have hh : N.hot = false := by simpa using q6.1
        refine s_lc G hh (blkOk_by q5.2) q4.2 (sIt it true G t (and_tt q3.2).1 (and_tt q3.2).2) q2.2 (fun s H C cl fp => ?_) (fun s H C cl fp => by
          rw [← G.blkM hh s H _ (compEnvC _ cl C X.env) fp]
          exact sE elt (G.blk hh s H _ (compEnvC _ cl C X.env) fp) q1.2)
        have qc := q.2
        split at qc
        · split at qc
          · exact pts_yes
          · exact ff qc
        · split at qc
          · exact ff qc
          · rw [← G.blkM hh s H _ (compEnvC _ cl C X.env) fp]
            exact pts_one (sC cond (G.blk hh s H _ (compEnvC _ cl C X.env) fp) qc)
        · exact ff qc
      · exact ff m
    · exact ff m
  | .dc ke ve tg it, X, W, G, pe, m => by
    unfold mE at m; split at m
    · split at m
      · rename_i pk pv gs scope pos _ t iter ifs a
        have q := and_tt m
        have q1 := and_tt q.1
        have q2 := and_tt q1.1
        have q3 := and_tt q2.1
        have q4 := and_tt q3.1
        have q5 := and_tt q4.1
        have q6 := and_tt q5.1
        have q7 := and_tt q6.1
        cases of_decide_eq_true q7.2
        cases List.isEmpty_iff.mp q6.2
        have hh : N.hot = false := by simpa using q7.1
        refine s_dc G hh (blkOk_by q5.2) q4.2 (sIt it true G t (and_tt q3.2).1 (and_tt q3.2).2) q2.2 (fun s H C cl fp => ?_) (fun s H C cl fp => ?_) (fun s H C cl fp => ?_)
        · rw [← G.blkM hh s H scope (compEnvC scope cl C X.env) fp]
          exact pts_yes
        · rw [← G.blkM hh s H _ (compEnvC _ cl C X.env) fp]
          exact sE ke (G.blk hh s H _ (compEnvC _ cl C X.env) fp) q1.2
        · rw [← G.blkM hh s H _ (compEnvC _ cl C X.env) fp]
          exact sE ve (G.blk hh s H _ (compEnvC _ cl C X.env) fp) q.2
      · exact ff m
    · exact ff m
  | .new c es, X, W, G, pe, m => by
    unfold mE at m; split at m
    · have q := and_tt m
      have q1 := and_tt q.1
      have q2 := and_tt q1.1
      have q3 := and_tt q2.1
      cases of_decide_eq_true q3.2
      exact s_new G (by simpa using q3.1) q2.2 (sEs es G q1.2 q.2) q.2 (fun z => by
        subst z
        cases es with
        | nil => rfl
        | cons e es => exact ff q1.2)
    · exact ff m
  | .mcl mm o es, X, W, G, pe, m => by
    unfold mE at m; split at m
    · have q := and_tt m
      have q1 := and_tt q.1
      have q2 := and_tt q1.1
      have q3 := and_tt q2.1
      have q4 := and_tt q3.1
      have q5 := and_tt q4.1
      have q6 := and_tt q5.1
      cases of_decide_eq_true q6.2
      exact s_mcl G (by simpa using q6.1) (sE o G q3.2) (sEs es G q2.2 q1.2) q1.2 (fun z => by
        subst z
        cases es with
        | nil => rfl
        | cons e es => exact ff q2.2) q5.2 q4.2 (of_decide_eq_true q.2)
    · exact ff m
  | .so a, X, W, G, pe, m => by
    unfold mE at m; split at m
    · split at m
      · have q := and_tt m
        have q1 := and_tt q.1
        have q2 := and_tt q1.1
        have q3 := and_tt q2.1
        cases of_decide_eq_true q3.2
        exact s_so G (by simpa using q3.1) q2.2 (sE a G q1.2) q.2
      · exact ff m
    · exact ff m
  | .fs es, X, W, G, pe, m => by
    unfold mE at m; split at m
    · have q := and_tt m
      have q1 := and_tt q.1
      exact s_fs (sJs es G (by simpa using q1.1) q1.2) (fun z => by subst z; exact ff q.2)
    · exact ff m
  | .pr a, X, W, G, pe, m => by
    unfold mE at m; split at m
    · exact s_prE (sE a G m)
    · exact ff m
  | .xf i f, X, W, G, pe, m => by
    unfold mE at m; split at m
    · have q := and_tt m
      have q1 := and_tt q.1
      have q2 := and_tt q1.1
      have q3 := and_tt q2.1
      cases of_decide_eq_true q3.2
      exact s_xf G (of_decide_eq_true q2.2) q1.2 q.2
    · exact ff m
  | .eqI a b, X, W, G, pe, m => by
    unfold mE at m; split at m
    · split at m
      · have q := and_tt m
        have q1 := and_tt q.1
        have q2 := and_tt q1.1
        have q3 := and_tt q2.1
        cases of_decide_eq_true q3.2
        exact s_eqI G (by simpa using q3.1) (sE a G q2.2) (sE b G q1.2) q.2
      · exact ff m
    · exact ff m
  | .neI a b, X, W, G, pe, m => by
    unfold mE at m; split at m
    · split at m
      · have q := and_tt m
        have q1 := and_tt q.1
        have q2 := and_tt q1.1
        have q3 := and_tt q2.1
        cases of_decide_eq_true q3.2
        exact s_neI G (by simpa using q3.1) (sE a G q2.2) (sE b G q1.2) q.2
      · exact ff m
    · exact ff m
  | .isC c a, X, W, G, pe, m => by
    unfold mE at m; split at m
    · split at m
      · split at m
        · have q := and_tt m
          have q1 := and_tt q.1
          have q2 := and_tt q1.1
          have q3 := and_tt q2.1
          have q4 := and_tt q3.1
          have q5 := and_tt q4.1
          cases of_decide_eq_true q5.2
          cases of_decide_eq_true q4.2
          exact s_isC G (by simpa using q5.1) q3.2 q2.2 (sE a G q1.2) q.2
        · exact ff m
      · exact ff m
    · exact ff m
theorem sJs {N : Nms} {Γ : Ctx} {k : Nat} : ∀ (es : List E) {X : Cx} {W : WX} (G : Gd X N Γ k W) (hh : N.hot = false) {ps : List Expr}, mJs N X.N X.env.scope es ps = true → PJ X ps (es.map fun e => tX X.K X.M W fun σ h => (evE Γ e σ h).bind (fmR Γ))
  | [], X, W, G, hh, [], m => .nil
  | e :: es, X, W, G, hh, p :: ps, m => by
    unfold mJs at m
    have q := and_tt m
    refine .cons ?_ (sJs es G hh q.2)
    have q1 := q.1
    split at q1
    · have r := and_tt q1
      have r1 := and_tt r.1
      rename_i y c sp pos
      cases of_decide_eq_true r1.1
      cases sp with
      | none => exact s_fm G hh (sE e G r.2)
      | some _ => exact ff r1.2
    · split at q1
      · exact s_fc (sE _ G q1)
      · exact ff q1
    · exact ff q1
  | [], X, W, G, hh, _ :: _, m => ff m
  | _ :: _, X, W, G, hh, [], m => ff m
theorem sB {N : Nms} {Γ : Ctx} {k : Nat} : ∀ (es : List E) {X : Cx} {W : WX} (G : Gd X N Γ k W) {ps : List Expr} {op : BoolOp} {pos : Pos}, mEs N X.N X.env.scope es ps = true → PE X (.BoolOp op ps pos) (tD X.K X.M W (evB Γ op es))
  | [], X, W, G, ps, op, pos, m => by
    refine ⟨fun pins s σ H Q I w => ?_⟩
    obtain ⟨ρ, I', σT, h, hr, sr, n⟩ := w
    exact n.elim
  | [a], X, W, G, ps, op, pos, m => by
    match ps, m with
    | [pa], m => exact s_b1 (sE a G (and_tt m).1)
    | _ :: _ :: _, m => exact ff (and_tt m).2
  | a :: b :: es, X, W, G, ps, op, pos, m => by
    match ps, m with
    | pa :: pb :: ps, m => exact s_b2 (sE a G (and_tt m).1) (sB (b :: es) G (and_tt m).2)
    | [_], m => exact ff (and_tt m).2
theorem sO {N : Nms} {Γ : Ctx} {k : Nat} : ∀ (o : O) {X : Cx} {W : WX} (G : Gd X N Γ k W) {pe : Option Expr}, mO N X.N X.env.scope o pe = true → PO X pe (tO X.K X.M W (evO Γ o))
  | .no, X, W, G, none, m => s_o0
  | .at e, X, W, G, some pe, m => s_o1 (sE e G m)
  | .no, X, W, G, some pe, m => ff m
  | .at e, X, W, G, none, m => ff m
theorem sIt {N : Nms} {Γ : Ctx} {k : Nat} : ∀ (it : It) (own : Bool) {X : Cx} {W : WX} (G : Gd X N Γ k W) (tg : Expr) (ht : enOk it tg = true) {pe : Expr}, mIt N X.N X.env.scope it pe = true → PI X tg pe (tIt X.K X.M W own (evIt Γ own it))
  | .e a, own, X, W, G, tg, ht, pe, m => s_ite (sE a G (and_tt m).1)
  | .r1 a, own, X, W, G, tg, ht, pe, m => by
    unfold mIt at m; split at m
    · split at m
      · have q := and_tt m
        have q1 := and_tt q.1
        have q2 := and_tt q1.1
        cases of_decide_eq_true q2.1
        exact s_itr1 G q2.2 (sE a G q1.2) q.2
      · exact ff m
    · exact ff m
  | .en a, own, X, W, G, tg, ht, pe, m => by
    cases tg <;> try exact ff ht
    unfold mIt at m; split at m
    · split at m
      · have q := and_tt m
        have q1 := and_tt q.1
        have q2 := and_tt q1.1
        cases of_decide_eq_true q2.1
        exact s_iten G q2.2 (sE a G q1.2) q.2
      · exact ff m
    · exact ff m
  | .r2 a b, own, X, W, G, tg, ht, pe, m => by
    unfold mIt at m; split at m
    · split at m
      · have q := and_tt m
        have q1 := and_tt q.1
        have q2 := and_tt q1.1
        have q3 := and_tt q2.1
        have q4 := and_tt q3.1
        cases of_decide_eq_true q4.1
        exact s_itr2 G q4.2 (sE a G q3.2) (sE b G q2.2) q1.2 q.2
      · exact ff m
    · exact ff m
theorem sC {N : Nms} {Γ : Ctx} {k : Nat} : ∀ (c : C) {X : Cx} {W : WX} (G : Gd X N Γ k W) {pe : Expr}, mCd N X.N X.env.scope c pe = true → PT X pe (tB X.K X.M W (evC Γ c))
  | .yes, X, W, G, pe, m => ff m
  | .t (.cmp op a b), X, W, G, pe, m => by
    have m : mE N X.N X.env.scope (.cmp op a b) pe = true := m
    unfold mE at m; split at m
    · split at m
      · have q := and_tt m
        have q1 := and_tt q.1
        have q2 := and_tt q1.1
        cases of_decide_eq_true q2.1
        exact s_tcmp G op (sE a G q2.2) (sE b G q1.2) q.2
      · exact ff m
    · exact ff m
  | .t (.ch op op' a b c), X, W, G, pe, m => by
    have m : mE N X.N X.env.scope (.ch op op' a b c) pe = true := m
    unfold mE at m; split at m
    · split at m
      · have q := and_tt m
        have q1 := and_tt q.1
        have q2 := and_tt q1.1
        have q3 := and_tt q2.1
        have q4 := and_tt q3.1
        cases of_decide_eq_true q4.1
        cases of_decide_eq_true q4.2
        exact s_tch G op op' (sE a G q3.2) (sE b G q2.2) (sE c G q1.2) q.2
      · exact ff m
    · exact ff m
  | .t (.eqI a b), X, W, G, pe, m => by
    have m : mE N X.N X.env.scope (.eqI a b) pe = true := m
    unfold mE at m; split at m
    · split at m
      · have q := and_tt m
        have q1 := and_tt q.1
        have q2 := and_tt q1.1
        have q3 := and_tt q2.1
        cases of_decide_eq_true q3.2
        exact s_teqI G (by simpa using q3.1) (sE a G q2.2) (sE b G q1.2) q.2
      · exact ff m
    · exact ff m
  | .t (.neI a b), X, W, G, pe, m => by
    have m : mE N X.N X.env.scope (.neI a b) pe = true := m
    unfold mE at m; split at m
    · split at m
      · have q := and_tt m
        have q1 := and_tt q.1
        have q2 := and_tt q1.1
        have q3 := and_tt q2.1
        cases of_decide_eq_true q3.2
        exact s_tneI G (by simpa using q3.1) (sE a G q2.2) (sE b G q1.2) q.2
      · exact ff m
    · exact ff m
  | .t (.isC c a), X, W, G, pe, m => s_t (sE (.isC c a) G (and_tt m).1) (and_tt m).2
  | .t (.c x), X, W, G, pe, m => s_t (sE (.c x) G (and_tt m).1) (and_tt m).2
  | .t (.var x), X, W, G, pe, m => s_t (sE (.var x) G (and_tt m).1) (and_tt m).2
  | .t (.gl x), X, W, G, pe, m => s_t (sE (.gl x) G (and_tt m).1) (and_tt m).2
  | .t (.bin op a b), X, W, G, pe, m => s_t (sE (.bin op a b) G (and_tt m).1) (and_tt m).2
  | .t (.neg a), X, W, G, pe, m => s_t (sE (.neg a) G (and_tt m).1) (and_tt m).2
  | .t (.not a), X, W, G, pe, m => s_t (sE (.not a) G (and_tt m).1) (and_tt m).2
  | .t (.bop op es), X, W, G, pe, m => s_t (sE (.bop op es) G (and_tt m).1) (and_tt m).2
  | .t (.ife c a b), X, W, G, pe, m => s_t (sE (.ife c a b) G (and_tt m).1) (and_tt m).2
  | .t (.tup es), X, W, G, pe, m => s_t (sE (.tup es) G (and_tt m).1) (and_tt m).2
  | .t (.lst es), X, W, G, pe, m => s_t (sE (.lst es) G (and_tt m).1) (and_tt m).2
  | .t (.ix a b), X, W, G, pe, m => s_t (sE (.ix a b) G (and_tt m).1) (and_tt m).2
  | .t (.sl a lo hi), X, W, G, pe, m => s_t (sE (.sl a lo hi) G (and_tt m).1) (and_tt m).2
  | .t (.call f es), X, W, G, pe, m => s_t (sE (.call f es) G (and_tt m).1) (and_tt m).2
  | .t (.op o es), X, W, G, pe, m => s_t (sE (.op o es) G (and_tt m).1) (and_tt m).2
  | .t (.mth mt o es), X, W, G, pe, m => s_t (sE (.mth mt o es) G (and_tt m).1) (and_tt m).2
  | .t (.dsp es), X, W, G, pe, m => s_t (sE (.dsp es) G (and_tt m).1) (and_tt m).2
  | .t (.callv f es), X, W, G, pe, m => s_t (sE (.callv f es) G (and_tt m).1) (and_tt m).2
  | .t (.blt f es), X, W, G, pe, m => s_t (sE (.blt f es) G (and_tt m).1) (and_tt m).2
  | .t (.lc elt tg it cond), X, W, G, pe, m => s_t (sE (.lc elt tg it cond) G (and_tt m).1) (and_tt m).2
  | .t (.dc a b tg it), X, W, G, pe, m => s_t (sE (.dc a b tg it) G (and_tt m).1) (and_tt m).2
  | .t (.new c es), X, W, G, pe, m => s_t (sE (.new c es) G (and_tt m).1) (and_tt m).2
  | .t (.mcl c o es), X, W, G, pe, m => s_t (sE (.mcl c o es) G (and_tt m).1) (and_tt m).2
  | .t (.so a), X, W, G, pe, m => s_t (sE (.so a) G (and_tt m).1) (and_tt m).2
  | .t (.fs es), X, W, G, pe, m => s_t (sE (.fs es) G (and_tt m).1) (and_tt m).2
  | .t (.pr a), X, W, G, pe, m => s_t (sE (.pr a) G (and_tt m).1) (and_tt m).2
  | .t (.xf i f), X, W, G, pe, m => s_t (sE (.xf i f) G (and_tt m).1) (and_tt m).2
  | .not c, X, W, G, pe, m => by
    unfold mCd at m; split at m
    · exact s_tnot (sC c G m)
    · exact ff m
  | .bop op cs, X, W, G, pe, m => by
    unfold mCd at m; split at m
    · have q := and_tt m
      cases of_decide_eq_true q.1
      exact (sCs cs G q.2).pt
    · exact ff m
theorem sCs {N : Nms} {Γ : Ctx} {k : Nat} : ∀ (cs : List C) {X : Cx} {W : WX} (G : Gd X N Γ k W) {ps : List Expr} {op : BoolOp} {pos : Pos}, mCds N X.N X.env.scope cs ps = true → PW X (.BoolOp op ps pos) (tB X.K X.M W (evCs Γ op cs))
  | [], X, W, G, ps, op, pos, m => by
    refine ⟨fun wh pins s σ H Q I w => ?_⟩
    obtain ⟨ρ, I', σT, h, hr, sr, n⟩ := w
    exact n.elim
  | [a], X, W, G, ps, op, pos, m => by
    match ps, m with
    | [pa], m => exact s_tb1 (sC a G (and_tt m).1)
    | _ :: _ :: _, m => exact ff (and_tt m).2
  | a :: b :: cs, X, W, G, ps, op, pos, m => by
    match ps, m with
    | pa :: pb :: ps, m => exact s_tb2 (sC a G (and_tt m).1) (sCs (b :: cs) G (and_tt m).2)
    | [_], m => exact ff (and_tt m).2
theorem sEs {N : Nms} {Γ : Ctx} {k : Nat} : ∀ (es : List E) {X : Cx} {W : WX} (G : Gd X N Γ k W) {ps : List Expr}, mEs N X.N X.env.scope es ps = true → ps.all notStar = true → PA X ps (tEs X.K X.M W (evEs Γ es))
  | [], X, W, G, [], m, a => s_es0
  | e :: es, X, W, G, pa :: ps, m, a => by
    rw [List.all_cons] at a
    exact s_es1 (sE e G (and_tt m).1) (sEs es G (and_tt m).2 (and_tt a).2) (and_tt a).1
  | [], X, W, G, _ :: _, m, a => ff m
  | _ :: _, X, W, G, [], m, a => ff m
theorem sKV {N : Nms} {Γ : Ctx} {k : Nat} : ∀ (es : List E) {X : Cx} {W : WX} (G : Gd X N Γ k W) {ks : List (Option Expr)} {vs : List Expr} {pos : Pos}, mKV N X.N X.env.scope es ks vs = true →
    PPs X pos ks vs (trsOf X W Γ es) ∧ ks.all (·.isSome) = true ∧ ks.length = vs.length ∧ es.length % 2 = 0
  | [], X, W, G, [], [], pos, m => ⟨pps_nil, rfl, rfl, rfl⟩
  | [], X, W, G, [], _ :: _, pos, m => ff m
  | [], X, W, G, _ :: _, _, pos, m => ff (by unfold mKV at m; exact m)
  | [_], X, W, G, _, _, pos, m => ff (by unfold mKV at m; exact m)
  | _ :: _ :: _, X, W, G, [], _, pos, m => ff (by unfold mKV at m; exact m)
  | _ :: _ :: _, X, W, G, none :: _, _, pos, m => ff (by unfold mKV at m; exact m)
  | _ :: _ :: _, X, W, G, some _ :: _, [], pos, m => ff (by unfold mKV at m; exact m)
  | k :: v :: es, X, W, G, some pk :: ks, pv :: vs, pos, m => by
    have q := and_tt m
    have q1 := and_tt q.1
    obtain ⟨k1, k2, k3, k4⟩ := sKV es G (pos := pos) q.2
    exact ⟨pps_cons (sE k G q1.1) (sE v G q1.2) k1, by rw [List.all_cons, k2]; rfl, congrArg (· + 1) k3, by simp only [List.length_cons]; omega⟩
theorem sAll {N : Nms} {Γ : Ctx} {k : Nat} : ∀ (es : List E) {X : Cx} {W : WX} (G : Gd X N Γ k W) {ps : List Expr}, mEs N X.N X.env.scope es ps = true → AllE X W Γ es ps
  | [], X, W, G, [], m => trivial
  | e :: es, X, W, G, p :: ps, m => ⟨sE e G (and_tt m).1, sAll es G (and_tt m).2⟩
  | [], X, W, G, _ :: _, m => ff m
  | _ :: _, X, W, G, [], m => ff m
theorem sRs {N : Nms} {Γ : Ctx} {k : Nat} : ∀ (es : List E) {X : Cx} {W : WX} (G : Gd X N Γ k W) {ps : List Expr}, mEs N X.N X.env.scope es ps = true → ps.all notStar = true → PA X ps (tRs X.K X.M W (evRs Γ es))
  | [], X, W, G, [], m, a => s_rs0
  | e :: es, X, W, G, pa :: ps, m, a => by
    rw [List.all_cons] at a
    exact s_rs1 (sE e G (and_tt m).1) (sRs es G (and_tt m).2 (and_tt a).2) (and_tt a).1
  | [], X, W, G, _ :: _, m, a => ff m
  | _ :: _, X, W, G, [], m, a => ff m
end
end VY
namespace VY
open PySem PySem.Spec
open PyProof.Rows hiding St
open L2
/-- a slot's own list -/
def Own (σT : Slots) (σ : St) (a : Addr) : Prop := ∃ (i : Nat) (l : List T), σT[i]? = some (some (.al l)) ∧ σ[i]? = some (some (.ref a))
structure SExt (ρ : List Addr) (I : Addr → Prop) (h : Hs) (H : Hp) (σT : Slots) (σ : St) (ρ' : List Addr) (I' : Addr → Prop) (h' : Hs) (H' : Hp) (σT' : Slots) (σ' : St) : Prop where
  pre : ∀ (n : Nat) (a : Addr), ρ[n]? = some a → ρ'[n]? = some a
  sub : ∀ a, I a → I' a
  keep : ∀ a, (H a).isSome → ¬ Live ρ h a → ¬ Own σT σ a → H' a = H a
  dom : ∀ a, (H a).isSome → (H' a).isSome
  inew : ∀ a, I' a → I a ∨ H a = none ∨ Live ρ h a ∨ Own σT σ a
  lnew : ∀ a, Live ρ' h' a → Live ρ h a ∨ H a = none ∨ Own σT σ a
  onew : ∀ a, Own σT' σ' a → Own σT σ a ∨ H a = none
section
variable {K : PySem.W.Frag} {mg : Mg} {ρ ρ' ρ'' : List Addr} {I I' I'' : Addr → Prop} {h h' h'' : Hs} {H H' H'' H0 : Hp} {σT σT' σT'' : Slots} {σ σ' σ'' : St} {W W' : WX}
theorem none_or {o : Option HO} : o = none ∨ o.isSome := by cases o; exact .inl rfl; exact .inr rfl
theorem SExt.of (x : Ext ρ I h H ρ' I' h' H') : SExt ρ I h H σT σ ρ' I' h' H' σT σ :=
  ⟨x.pre, x.sub, fun a d l _ => x.keep a d l, x.dom, fun a i => (x.inew a i).imp id fun z => z.imp id .inl, fun a l => (x.lnew a l).imp id .inl, fun a o => .inl o⟩
theorem SExt.refl : SExt ρ I h H σT σ ρ I h H σT σ := .of .refl
theorem SExt.trans (a : SExt ρ I h H σT σ ρ' I' h' H' σT' σ') (b : SExt ρ' I' h' H' σT' σ' ρ'' I'' h'' H'' σT'' σ'') : SExt ρ I h H σT σ ρ'' I'' h'' H'' σT'' σ'' where
  pre := fun n x e => b.pre n x (a.pre n x e)
  sub := fun x e => b.sub x (a.sub x e)
  keep := fun x d l o => by
    have l' : ¬ Live ρ' h' x := fun z => (a.lnew x z).elim l fun z => z.elim (not_none d) o
    have o' : ¬ Own σT' σ' x := fun z => (a.onew x z).elim o (not_none d)
    rw [b.keep x (a.dom x d) l' o', a.keep x d l o]
  dom := fun x d => b.dom x (a.dom x d)
  inew := fun x i => by
    rcases b.inew x i with z | z | z | z
    · exact a.inew x z
    · rcases none_or (o := H x) with d | d
      · exact .inr (.inl d)
      · exact (not_none (a.dom x d) z).elim
    · exact (a.lnew x z).elim (fun q => .inr (.inr (.inl q))) fun q => q.elim (fun q => .inr (.inl q)) fun q => .inr (.inr (.inr q))
    · exact (a.onew x z).elim (fun q => .inr (.inr (.inr q))) fun q => .inr (.inl q)
  lnew := fun x l => by
    rcases b.lnew x l with z | z | z
    · exact a.lnew x z
    · rcases none_or (o := H x) with d | d
      · exact .inr (.inl d)
      · exact (not_none (a.dom x d) z).elim
    · exact (a.onew x z).elim (fun q => .inr (.inr q)) fun q => .inr (.inl q)
  onew := fun x l => by
    rcases b.onew x l with z | z
    · exact a.onew x z
    · rcases none_or (o := H x) with d | d
      · exact .inr d
      · exact (not_none (a.dom x d) z).elim
theorem SR.own (s : SR K mg ρ I h H σT σ) {a : Addr} (o : Own σT σ a) : (H a).isSome ∧ ¬ I a ∧ ¬ Live ρ h a := by
  obtain ⟨i, l, e1, e2⟩ := o
  obtain ⟨b, vs, q, p, ni, nl, _⟩ := s.als i l e1
  rw [e2] at q
  cases q
  exact ⟨isSome_of p, ni, nl⟩
theorem SExt.ikeep (x : SExt ρ I h H σT σ ρ' I' h' H' σT' σ') (r : HR K mg ρ I h H) (s : SR K mg ρ I h H σT σ) {a : Addr} (i : I a) : H' a = H a := x.keep a (r.idom a i) (fun l => r.dis a l i) fun o => (s.own o).2.1 i
theorem SExt.kp (x : SExt ρ I h H σT σ ρ' I' h' H' σT' σ') (r : HR K mg ρ I h H) (s : SR K mg ρ I h H σT σ) : Kp ρ I H ρ' I' H' := ⟨x.pre, x.sub, fun _ i => x.ikeep r s i⟩
/-- what a return gives -/
def RS (K : PySem.W.Frag) (mg : Mg) (ρ : List Addr) (I : Addr → Prop) (h : Hs) (H : Hp) (H0 : Hp) (σT : Slots) (σ : St) (v : V) : R → Prop
  | .v t => Rep K mg ρ I H v t
  | .al l => ∃ a vs, v = .ref a ∧ (H0 a = none ∨ Own σT σ a) ∧ H a = some (.lst vs) ∧ ¬ I a ∧ ¬ Live ρ h a ∧ Reps K mg ρ I H vs l
  | .bw _ => False
/-- behind a statement -/
def NS (K : PySem.W.Frag) (mg : Mg) (W : WX) (ρ : List Addr) (I : Addr → Prop) (h : Hs) (H : Hp) (σT : Slots) (σ : St) (o : SO) (D : Ends) : Prop :=
  match o with
  | .ok f σT' h' => ∀ ρ' I' H' σ', SExt ρ I h H σT σ ρ' I' h' H' σT' σ' → HR K mg ρ' I' h' H' → SR K mg ρ' I' h' H' σT' σ' → match f with
    | .nx => D.nx σ' H'
    | .brk => D.bk σ' H'
    | .ct => D.ct σ' H'
    | .ret r => ∀ v, RS K mg ρ' I' h' H' H σT σ v r → D.rt v H'
  | .ex x σT' h' => ∀ cls d ρ' I' H' σ', SExt ρ I h H σT σ ρ' I' h' H' σT' σ' → HR K mg ρ' I' h' H' → SR K mg ρ' I' h' H' σT' σ' → XR K mg ρ' I' H' cls d x → W cls d σ' H'
  | .bad => False
def tS (K : PySem.W.Frag) (mg : Mg) (W : WX) (f : Slots → Hs → SO) : TS := fun D σ H => ∃ ρ I σT h, HR K mg ρ I h H ∧ SR K mg ρ I h H σT σ ∧ NS K mg W ρ I h H σT σ (f σT h) D
theorem RS.back {v : V} {r : R} (o : RS K mg ρ'' I'' h'' H'' H' σT' σ' v r) (x : SExt ρ I h H σT σ ρ' I' h' H' σT' σ') : RS K mg ρ'' I'' h'' H'' H σT σ v r := by
  cases r with
  | v t => exact o
  | al l =>
    obtain ⟨a, vs, e, n, q⟩ := o
    refine ⟨a, vs, e, ?_, q⟩
    rcases n with n | n
    · rcases none_or (o := H a) with d | d
      · exact .inl d
      · exact (not_none (x.dom a d) n).elim
    · exact (x.onew a n).symm
  | bw i => exact o
/-- started later -/
theorem NS.from {o : SO} {D : Ends} (n : NS K mg W ρ I h H σT σ o D) (x : SExt ρ I h H σT σ ρ' I' h' H' σT' σ') : NS K mg W ρ' I' h' H' σT' σ' o D := by
  cases o with
  | ok f σ2 h2 =>
    intro ρ2 I2 H2 σ2' x2 r2 s2
    have q := n ρ2 I2 H2 σ2' (x.trans x2) r2 s2
    cases f with
    | ret r => exact fun v z => q v (z.back x)
    | _ => exact q
  | ex y σ2 h2 => exact fun cls d ρ2 I2 H2 σ2' x2 r2 s2 => n cls d ρ2 I2 H2 σ2' (x.trans x2) r2 s2
  | bad => exact n
/-- behind an expression -/
theorem NS.sb {α : Type} {o : Out α} {k : α → Hs → SO} {D : Ends} (n : NS K mg W ρ I h H σT σ (sb σT o k) D) (sr : SR K mg ρ I h H σT σ) (hr : HR K mg ρ I h H) :
    Nx K mg W σ ρ I h H o fun a h' ρ' I' H' => NS K mg W ρ I h H σT σ (k a h') D := by
  cases o with
  | ok a h1 => exact fun ρ1 I1 H1 x1 r1 => n
  | ex y h1 => exact fun cls d ρ1 I1 H1 x1 r1 z => n cls d ρ1 I1 H1 σ (.of x1) r1 (sr.ext hr x1) z
  | bad => exact n
/-- .. at slots of its own -/
theorem NS.sb' {α : Type} {o : Out α} {k : α → Hs → SO} {D : Ends} (n : NS K mg W ρ I h H σT σ (VY.sb σT' o k) D) (x : SExt ρ I h H σT σ ρ' I' h' H' σT' σ') (sr : SR K mg ρ' I' h' H' σT' σ') (hr : HR K mg ρ' I' h' H') :
    Nx K mg W σ' ρ' I' h' H' o fun a h2 _ _ _ => NS K mg W ρ I h H σT σ (k a h2) D := by
  cases o with
  | ok a h1 => exact fun ρ1 I1 H1 x1 r1 => n
  | ex y h1 => exact fun cls d ρ1 I1 H1 x1 r1 z => n cls d ρ1 I1 H1 σ' (x.trans (.of x1)) r1 (sr.ext hr x1) z
  | bad => exact n
theorem NS.nx {D : Ends} (n : NS K mg W ρ I h H σT σ (.ok .nx σT' h') D) : ∀ ρ' I' H' σ', SExt ρ I h H σT σ ρ' I' h' H' σT' σ' → HR K mg ρ' I' h' H' → SR K mg ρ' I' h' H' σT' σ' → D.nx σ' H' := n
theorem NS.rt {D : Ends} {r : R} (n : NS K mg W ρ I h H σT σ (.ok (.ret r) σT' h') D) : ∀ ρ' I' H' σ' v, SExt ρ I h H σT σ ρ' I' h' H' σT' σ' → HR K mg ρ' I' h' H' → SR K mg ρ' I' h' H' σT' σ' → RS K mg ρ' I' h' H' H σT σ v r → D.rt v H' := fun ρ' I' H' σ' v x r s q => n ρ' I' H' σ' x r s v q
theorem get_set {α : Type} {l : List (Option α)} {i j : Nat} {x y : Option α} (e : (l.set i x)[j]? = some y) : (i = j ∧ i < l.length ∧ x = y) ∨ (i ≠ j ∧ l[j]? = some y) := by
  by_cases c : i = j
  · subst c
    by_cases hi : i < l.length
    · rw [List.getElem?_set_self hi] at e
      exact .inl ⟨rfl, hi, Option.some.inj e⟩
    · rw [List.getElem?_eq_none (by rw [List.length_set]; omega)] at e; cases e
  · rw [List.getElem?_set_ne c] at e
    exact .inr ⟨c, e⟩
/-- a slot takes a list that nobody else holds -/
theorem SR.setA (s : SR K mg ρ I h H σT σ) {a : Addr} {vs : List V} {l : List T} (p : H a = some (.lst vs)) (ni : ¬ I a) (nl : ¬ Live ρ h a) (w : Reps K mg ρ I H vs l) (i : Nat)
    (no : ∀ (j : Nat) (m : List T), j ≠ i → σT[j]? = some (some (.al m)) → σ[j]? = some (some (.ref a)) → False) : SR K mg ρ I h H (σT.set i (some (.al l))) (σ.set i (some (.ref a))) where
  len := by rw [List.length_set, List.length_set]; exact s.len
  vs := fun j u e => by
    rcases get_set e with ⟨_, _, z⟩ | ⟨c, z⟩
    · cases z
    · rw [List.getElem?_set_ne c]; exact s.vs j u z
  als := fun j m e => by
    rcases get_set e with ⟨c, hi, z⟩ | ⟨c, z⟩
    · subst c
      cases z
      exact ⟨a, vs, List.getElem?_set_self (by rw [← s.len]; exact hi), p, ni, nl, w⟩
    · rw [List.getElem?_set_ne c]; exact s.als j m z
  adj := fun j j' m m' b e1 e2 e3 e4 => by
    rcases get_set e1 with ⟨c, hi, z⟩ | ⟨c, z⟩ <;> rcases get_set e2 with ⟨c', hi', z'⟩ | ⟨c', z'⟩
    · exact c.symm.trans c'
    · subst c
      rw [List.getElem?_set_self (by rw [← s.len]; exact hi)] at e3
      rw [List.getElem?_set_ne c'] at e4
      cases e3
      exact (no j' m' (Ne.symm c') z' e4).elim
    · subst c'
      rw [List.getElem?_set_self (by rw [← s.len]; exact hi')] at e4
      rw [List.getElem?_set_ne c] at e3
      cases e4
      exact (no j m (Ne.symm c) z e3).elim
    · rw [List.getElem?_set_ne c] at e3
      rw [List.getElem?_set_ne c'] at e4
      exact s.adj j j' m m' b z z' e3 e4
  xns := fun j c fs e => by
    rcases get_set e with ⟨_, _, z⟩ | ⟨c', z⟩
    · cases z
    · exact (s.xns j c fs z).mono ⟨fun _ _ z => z, fun _ z => z, fun _ _ => rfl⟩ fun a q => by rw [List.getElem?_set_ne c']; exact q
theorem own_set {i : Nat} {t : T} {v : V} {a : Addr} (o : Own (σT.set i (some (.v t))) (σ.set i (some v)) a) : Own σT σ a := by
  obtain ⟨j, l, e1, e2⟩ := o
  rcases get_set e1 with ⟨_, _, z⟩ | ⟨c, z⟩
  · cases z
  · rw [List.getElem?_set_ne c] at e2; exact ⟨j, l, z, e2⟩
theorem own_setA {i : Nat} {l : List T} {b a : Addr} (o : Own (σT.set i (some (.al l))) (σ.set i (some (.ref b))) a) : Own σT σ a ∨ a = b := by
  obtain ⟨j, m, e1, e2⟩ := o
  rcases get_set e1 with ⟨c, hi, z⟩ | ⟨c, z⟩
  · subst c
    rcases get_set e2 with ⟨_, _, z'⟩ | ⟨c, _⟩
    · cases z'; exact .inr rfl
    · exact (c rfl).elim
  · rw [List.getElem?_set_ne c] at e2; exact .inl ⟨j, m, z, e2⟩
/-- what an expression gave, stored: x from the statement's start -/
theorem put_ok {v : V} {r : R} {s : Sl} {i : Nat} (x : Ext ρ I h H ρ' I' h' H') (r' : HR K mg ρ' I' h' H') (sr : SR K mg ρ' I' h' H' σT σ) (sr0 : SR K mg ρ I h H σT σ) (o : RO K mg ρ' I' h' H' H σT σ v r) (e : putR r = some s) :
    SExt ρ I h H σT σ ρ' I' h' H' (σT.set i (some s)) (σ.set i (some v)) ∧ SR K mg ρ' I' h' H' (σT.set i (some s)) (σ.set i (some v)) := by
  have x0 : SExt ρ I h H σT σ ρ' I' h' H' σT σ := .of x
  cases r with
  | v t => cases e; exact ⟨{ x0 with onew := fun a z => .inl (own_set z) }, sr.set o i⟩
  | al l =>
    cases e
    obtain ⟨a, vs, rfl, n, p, ni, nl, w⟩ := o
    refine ⟨{ x0 with onew := fun b z => (own_setA z).imp id fun q => by rw [q]; exact n }, sr.setA p ni nl w i fun j m _ e1 e2 => ?_⟩
    exact not_none (sr0.own ⟨j, m, e1, e2⟩).1 n
  | bw i => cases e
end
mutual
theorem asg_own : ∀ (g : Tg) (t : T) {σT σT' : Slots}, asgT g t σT = some σT' → ∀ (i : Nat) (l : List T), σT'[i]? = some (some (.al l)) → σT[i]? = some (some (.al l)) ∧ i ∉ g.ixs
  | .nm j, t, σT, σT', e, i, l, z => by
    cases e
    rcases get_set z with ⟨_, _, q⟩ | ⟨c, q⟩
    · cases q
    · exact ⟨q, by simpa [Tg.ixs] using fun e => c e.symm⟩
  | .tp gs, .tup ts, σT, σT', e, i, l, z => asgs_own gs ts e i l z
  | .tp gs, .non, _, _, e, _, _, _ => nomatch e
  | .tp gs, .bl _, _, _, e, _, _, _ => nomatch e
  | .tp gs, .int _, _, _, e, _, _, _ => nomatch e
  | .tp gs, .str _, _, _, e, _, _, _ => nomatch e
  | .tp gs, .ty _, _, _, e, _, _, _ => nomatch e
  | .tp gs, .gl _, _, _, e, _, _, _ => nomatch e
  | .tp gs, .ref _, _, _, e, _, _, _ => nomatch e
  | .tp gs, .lst ts, σT, σT', e, i, l, z => asgs_own gs ts e i l z
  | .tp gs, .slst _, _, _, e, _, _, _ => nomatch e
  | .tp gs, .dct _, _, _, e, _, _, _ => nomatch e
  | .tp gs, .ins _ _, _, _, e, _, _, _ => nomatch e
theorem asgs_own : ∀ (gs : List Tg) (ts : List T) {σT σT' : Slots}, asgTs gs ts σT = some σT' → ∀ (i : Nat) (l : List T), σT'[i]? = some (some (.al l)) → σT[i]? = some (some (.al l)) ∧ i ∉ ixss gs
  | [], [], σT, σT', e, i, l, z => by cases e; exact ⟨z, by simp [ixss]⟩
  | g :: gs, t :: ts, σT, σT', e, i, l, z => by
    rw [asgTs] at e
    cases y : asgT g t σT with
    | none => rw [y] at e; cases e
    | some σ1 =>
      rw [y] at e
      obtain ⟨q1, n1⟩ := asgs_own gs ts e i l z
      obtain ⟨q2, n2⟩ := asg_own g t y i l q1
      exact ⟨q2, by rw [ixss, List.mem_append]; exact fun z => z.elim n2 n1⟩
  | [], _ :: _, _, _, e, _, _, _ => nomatch e
  | _ :: _, [], _, _, e, _, _, _ => nomatch e
end
section
variable {K : PySem.W.Frag} {mg : Mg} {ρ ρ' ρ'' : List Addr} {I I' I'' : Addr → Prop} {h h' h'' : Hs} {H H' H'' H0 : Hp} {σT σT' σT'' : Slots} {σ σ' σ'' : St} {W W' : WX}
theorem asg_ext {g : Tg} {t : T} (e : asgT g t σT = some σT') (ew : L2.wipe σ' g.ixs = L2.wipe σ g.ixs) (x : Ext ρ I h H ρ' I' h' H') : SExt ρ I h H σT σ ρ' I' h' H' σT' σ' := by
  have x0 : SExt ρ I h H σT σ ρ' I' h' H' σT σ := .of x
  refine { x0 with onew := fun a ⟨j, l, e1, e2⟩ => .inl ?_ }
  obtain ⟨q1, n1⟩ := asg_own g t e j l e1
  have q2 : (L2.wipe σ' g.ixs)[j]? = (L2.wipe σ g.ixs)[j]? := by rw [ew]
  rw [wipe_get, wipe_get, if_neg n1, if_neg n1] at q2
  exact ⟨j, l, q1, q2.symm.trans e2⟩
end
section
variable {X : Cx} {N : Nms} {Γ : Ctx} {k : Nat} {W : WX} {e o i : E} {pe po pi pg : Expr} {pos : Pos}
/-- a function's context -/
structure Gs (X : Cx) (N : Nms) (Γ : Ctx) (k : Nat) (W : WX) : Prop extends Gd X N Γ k W where
  kind : X.env.scope.kind = .function
  fnl : ∀ x, X.fn x = true
  po : N.hot = false → PassesOwn (model X.prog X.w) X.A X.env X.xe
  stk : X.stack = X.env :: X.outer
  frm : X.env.frame = some X.env.locals
theorem Gs.loc (G : Gs X N Γ k W) (x : Str) (m : locB X.env.scope x = true) : Loc X.env.scope x ∧ (X.fn x = true ∨ X.env.scope.names.lookup x = some .local) := ⟨loc_of m, .inl (G.fnl x)⟩
/-- the reading of x = e, whatever the form -/
theorem asg_read {j : Nat} {D : Ends} {σ : St} {H : Hp} (q : tS X.K X.M W (evS Γ (.asg j e)) D σ H) : tD X.K X.M W (evE Γ e) σ H fun v H1 => gName j v σ H1 D.nx := by
  obtain ⟨ρ, I, σT, h, hr, sr, n⟩ := q
  rw [evS] at n
  refine ⟨ρ, I, σT, h, hr, sr, (n.sb sr hr).imp fun r h1 ρ1 I1 H1 x1 r1 n1 v o1 => ?_⟩
  cases z : putR r with
  | none => rw [z] at n1; exact n1.elim
  | some s =>
    rw [z] at n1
    obtain ⟨x2, s2⟩ := put_ok (i := j) x1 r1 (sr.ext hr x1) sr o1 z
    exact n1.nx ρ1 I1 H1 _ x2 r1 s2
theorem s_asg (G : Gs X N Γ k W) {j : Nat} {x : Str} {p : Pos} (hi : X.N[j]? = some x) (hl : locB X.env.scope x = true) (he : PE X pe (tD X.K X.M W (evE Γ e))) (hs : swapsWith pe (some (.Name x p)) pos.line X.env = pure false) :
    PS X (.Assign [.Name x p] pe pos) (tS X.K X.M W (evS Γ (.asg j e))) :=
  PS.imp (ps_set G.nd hi (loc_of hl) he hs (.inl (G.fnl x))) fun D σ H q => asg_read q
theorem s_asgT (G : Gs X N Γ k W) (hh : N.hot = false) {tg : Tg} (hg : mTg X.env.scope X.N tg pg = true) (he : PE X pe (tD X.K X.M W (evE Γ e))) (hs : swapsWithSole [pg] pe pos.line X.env = pure false) (hw : swappedStores [pg] pe X.env = pure none) (h1 : (assignEach [pg] X.env).map (·.2) = [assign pg X.env]) :
    PS X (.Assign [pg] pe pos) (tS X.K X.M W (evS Γ (.asgT tg e))) := by
  refine PS.imp (ps_asg he (s_tg (G.calm hh) G.nd G.loc tg.ixs tg pg hg fun _ z => z) hs hw h1) ?_
  rintro D σ H ⟨ρ, I, σT, h, hr, sr, n⟩
  rw [evS] at n
  refine ⟨ρ, I, σT, h, hr, sr, (n.sb sr hr).imp' fun r h1 ρ1 I1 H1 x1 r1 n0 v o1 => ?_⟩
  cases z : frz r with
  | none => have n1 := n0 ρ1 I1 H1 x1 r1; rw [z] at n1; exact n1.elim
  | some t =>
    obtain ⟨I2, x2, r2, q2⟩ := o1.keep x1 r1 z
    have n1 := n0 ρ1 I2 H1 x2 r2
    rw [z] at n1
    have n2 : NS X.K X.M W ρ I h H σT σ (liftS (asgT tg (tgSee tg h1 t) σT) h1) D := n1
    cases y : asgT tg (tgSee tg h1 t) σT with
    | none => rw [y] at n2; exact n2.elim
    | some σ2 =>
      rw [y] at n2
      exact ⟨ρ1, I2, σT, h1, _, σ2, r2, sr.ext hr x2, .see r2 q2 tg, y, fun σ' s' ew => n2.nx ρ1 I2 H1 σ' (asg_ext y ew x2) r2 s'⟩
theorem s_expr (he : PE X pe (tD X.K X.M W (evE Γ e))) (hs : swapsWith pe none pos.line X.env = pure false) : PS X (.Expr pe pos) (tS X.K X.M W (evS Γ (.expr e))) := by
  refine PS.imp (ps_expr he hs) ?_
  rintro D σ H ⟨ρ, I, σT, h, hr, sr, n⟩
  rw [evS] at n
  exact ⟨ρ, I, σT, h, hr, sr, (n.sb sr hr).imp fun r h1 ρ1 I1 H1 x1 r1 n1 v o1 => n1.nx ρ1 I1 H1 σ (.of x1) r1 (sr.ext hr x1)⟩
theorem s_ret (he : PE X pe (tD X.K X.M W (evE Γ e))) : PS X (.Return (some pe) pos) (tS X.K X.M W (evS Γ (.ret e))) := by
  refine PS.imp (ps_ret he) ?_
  rintro D σ H ⟨ρ, I, σT, h, hr, sr, n⟩
  rw [evS] at n
  refine ⟨ρ, I, σT, h, hr, sr, (n.sb sr hr).imp fun r h1 ρ1 I1 H1 x1 r1 n1 v o1 => ?_⟩
  cases r with
  | v t => exact n1.rt ρ1 I1 H1 σ v (.of x1) r1 (sr.ext hr x1) o1
  | al l =>
    obtain ⟨a, vs, e, n, q⟩ := o1
    exact n1.rt ρ1 I1 H1 σ v (.of x1) r1 (sr.ext hr x1) ⟨a, vs, e, .inl n, q⟩
  | bw j => exact n1.elim
theorem s_retS {j : Nat} {x : Str} {p : Pos} (hi : X.N[j]? = some x) (hv : visB X.env.scope x = true) (hp : plainN x = true) : PS X (.Return (some (.Name x p)) pos) (tS X.K X.M W (evS Γ (.retS j))) := by
  refine PS.imp (ps_ret (pe_var hi (vis_of hv) (plain_dbg hp).1 (plain_dbg hp).2)) ?_
  rintro D σ H ⟨ρ, I, σT, h, hr, sr, n⟩
  rw [evS] at n
  split at n
  · rename_i l e
    obtain ⟨a, vs, q, p, ni, nl, w⟩ := sr.als j l e
    refine ⟨.ref a, q, ?_⟩
    have own : Own σT σ a := ⟨j, l, e, q⟩
    refine n.rt ρ I H (σ.set j none) (.ref a) { (SExt.refl : SExt ρ I h H σT σ ρ I h H σT σ) with onew := fun b ⟨i, m, e1, e2⟩ => ?_ } hr (sr.clr j none) ⟨a, vs, rfl, .inr own, p, ni, nl, w⟩
    rcases get_set e1 with ⟨_, _, z⟩ | ⟨c, z⟩
    · cases z
    · rw [List.getElem?_set_ne c] at e2; exact .inl ⟨i, m, z, e2⟩
  · exact n.elim
theorem s_retN : PS X (.Return none pos) (tS X.K X.M W (evS Γ .retN)) := by
  refine PS.imp ps_retN ?_
  rintro D σ H ⟨ρ, I, σT, h, hr, sr, n⟩
  exact NS.rt n ρ I H σ .non .refl hr sr rfl
theorem s_stopS {st : Stmt} : PS X st (tS X.K X.M W (evS Γ .stop)) := ⟨fun _ _ _ _ _ _ q => by
  obtain ⟨ρ, I, σT, h, hr, sr, n⟩ := q
  rw [evS] at n
  exact n.elim⟩
theorem s_pass : PS X (.Pass pos) (tS X.K X.M W (evS Γ .pass)) := PS.imp ps_pass fun D σ H ⟨ρ, I, σT, h, hr, sr, n⟩ => NS.nx n ρ I H σ .refl hr sr
theorem s_brk : PS X (.Break pos) (tS X.K X.M W (evS Γ .brk)) := PS.imp ps_break fun D σ H ⟨ρ, I, σT, h, hr, sr, n⟩ => n ρ I H σ .refl hr sr
theorem s_cnt : PS X (.Continue pos) (tS X.K X.M W (evS Γ .cnt)) := PS.imp ps_continue fun D σ H ⟨ρ, I, σT, h, hr, sr, n⟩ => n ρ I H σ .refl hr sr
end
end VY
namespace VY
open PySem PySem.Spec
open PyProof.Rows hiding St
open L2
section
variable {K : PySem.W.Frag} {mg : Mg} {ρ ρ' ρ'' : List Addr} {I I' I'' : Addr → Prop} {h h' h'' : Hs} {H H' H'' H0 : Hp} {σT σT' σT'' : Slots} {σ σ' σ'' : St} {W W' : WX}
theorem NS.seq {o : SO} {k : Slots → Hs → SO} {D : Ends} (n : NS K mg W ρ I h H σT σ (o.seq k) D) : NS K mg W ρ I h H σT σ o { D with nx := tS K mg W k D } := by
  cases o with
  | ok f σ2 h2 =>
    cases f with
    | nx => exact fun ρ1 I1 H1 σ1 x1 r1 s1 => ⟨ρ1, I1, σ2, h2, r1, s1, NS.from (show NS K mg W ρ I h H σT σ (k σ2 h2) D from n) x1⟩
    | brk => exact n
    | ct => exact n
    | ret r => exact n
  | ex y σ2 h2 => exact n
  | bad => exact n
theorem ext_set {n : Nat} {a : Addr} {u u' : HOb} {o : HO} (x : SExt ρ I h H σT σ ρ' I' h' H' σT' σ') (ea : ρ'[n]? = some a) (eh : h'[n]? = some u) (nd : u ≠ .dead) : SExt ρ I h H σT σ ρ' I' (h'.set n u') (upd H' a o) σT' σ' := by
  have la : Live ρ' h' a := ⟨n, u, ea, eh, nd⟩
  have lv : ∀ b, Live ρ' (h'.set n u') b → Live ρ' h' b := fun b ⟨m, w, e1, e2, d⟩ => by
    by_cases c : n = m
    · subst c; rw [ea] at e1; cases e1; exact la
    · rw [List.getElem?_set_ne c] at e2; exact ⟨m, w, e1, e2, d⟩
  refine ⟨x.pre, x.sub, fun b d l w => ?_, fun b d => upd_dom (x.dom b d), x.inew, fun b l => x.lnew b (lv b l), x.onew⟩
  rw [upd_ne (fun z => by subst z; exact (x.lnew b la).elim l fun z => z.elim (not_none d) w)]
  exact x.keep b d l w
theorem sr_set {n : Nat} {a : Addr} {u u' : HOb} {o : HO} (s : SR K mg ρ I h H σT σ) (r : HR K mg ρ I h H) (ea : ρ[n]? = some a) (eh : h[n]? = some u) (nd : u ≠ .dead) : SR K mg ρ I (h.set n u') (upd H a o) σT σ := by
  have la : Live ρ h a := ⟨n, u, ea, eh, nd⟩
  have kp : Kp ρ I H ρ I (upd H a o) := kp_at o (r.dis a la)
  have lv : ∀ b, Live ρ (h.set n u') b → Live ρ h b := fun b ⟨m, w, e1, e2, d⟩ => by
    by_cases c : n = m
    · subst c; rw [ea] at e1; cases e1; exact la
    · rw [List.getElem?_set_ne c] at e2; exact ⟨m, w, e1, e2, d⟩
  refine ⟨s.len, fun i t e => let ⟨v, q, p⟩ := s.vs i t e; ⟨v, q, p.mono kp⟩, fun i l e => ?_, s.adj, fun i c fs e => (s.xns i c fs e).mono kp fun _ z => z⟩
  obtain ⟨b, vs, q, p, ni, nl, w⟩ := s.als i l e
  exact ⟨b, vs, q, (upd_ne fun z => by subst z; exact nl la).trans p, ni, fun z => nl (lv b z), w.mono kp⟩
/-- a slot's own list is another one -/
theorem own_upd {i : Nat} {l l' : List T} {a : Addr} {vs : List V} (x : SExt ρ I h H σT σ ρ' I' h' H' σT' σ') (s : SR K mg ρ' I' h' H' σT' σ') (r : HR K mg ρ' I' h' H') (e : σT'[i]? = some (some (.al l))) (ea : σ'[i]? = some (some (.ref a)))
    (w : Reps K mg ρ' I' H' vs l') : SExt ρ I h H σT σ ρ' I' h' (upd H' a (.lst vs)) (σT'.set i (some (.al l'))) σ' ∧ HR K mg ρ' I' h' (upd H' a (.lst vs)) ∧ SR K mg ρ' I' h' (upd H' a (.lst vs)) (σT'.set i (some (.al l'))) σ' := by
  have oa : Own σT' σ' a := ⟨i, l, e, ea⟩
  obtain ⟨d, ni, nl⟩ := s.own oa
  have kp : Kp ρ' I' H' ρ' I' (upd H' a (.lst vs)) := kp_at _ ni
  have same : ∀ b, Own (σT'.set i (some (.al l'))) σ' b → Own σT' σ' b := fun b ⟨j, m, e1, e2⟩ => by
    rcases get_set e1 with ⟨c, _, _⟩ | ⟨c, z⟩
    · subst c; exact ⟨i, l, e, e2⟩
    · exact ⟨j, m, z, e2⟩
  refine ⟨⟨x.pre, x.sub, fun b db l w => ?_, fun b db => upd_dom (x.dom b db), x.inew, x.lnew, fun b o => x.onew b (same b o)⟩, hr_at _ r ni nl, ?_⟩
  · rw [upd_ne (fun z => by subst z; exact (x.onew b oa).elim w (not_none db))]
    exact x.keep b db l w
  · refine ⟨by rw [List.length_set]; exact s.len, fun j t z => ?_, fun j m z => ?_, fun j j' m m' b e1 e2 e3 e4 => ?_, fun j c fs z => by
      rcases get_set z with ⟨_, _, y⟩ | ⟨_, z⟩
      · cases y
      · exact (s.xns j c fs z).mono kp fun _ z => z⟩
    · rcases get_set z with ⟨_, _, c⟩ | ⟨c, z⟩
      · cases c
      · obtain ⟨v, q, p⟩ := s.vs j t z; exact ⟨v, q, p.mono kp⟩
    · rcases get_set z with ⟨c, _, y⟩ | ⟨c, z⟩
      · subst c
        cases y
        exact ⟨a, vs, ea, upd_same, ni, nl, w.mono kp⟩
      · obtain ⟨b, ws, q, p, ni', nl', w'⟩ := s.als j m z
        refine ⟨b, ws, q, (upd_ne fun y => ?_).trans p, ni', nl', w'.mono kp⟩
        subst y
        exact c (s.adj i j l m b e z ea q)
    · have f : ∀ {j : Nat} {m : List T}, (σT'.set i (some (.al l')))[j]? = some (some (.al m)) → ∃ m', σT'[j]? = some (some (.al m')) := fun {j m} z => by
        rcases get_set z with ⟨c, _, _⟩ | ⟨c, z⟩
        · subst c; exact ⟨l, e⟩
        · exact ⟨m, z⟩
      obtain ⟨_, f1⟩ := f e1
      obtain ⟨_, f2⟩ := f e2
      exact s.adj j j' _ _ b f1 f2 e3 e4
end
section
variable {X : Cx} {N : Nms} {Γ : Ctx} {k : Nat} {W : WX} {e o i : E} {pe po pi pg : Expr} {pos : Pos}
theorem s_ss0 : PSs X [] (tS X.K X.M W (evSs Γ [])) := PSs.imp pss_nil fun D σ H ⟨ρ, I, σT, h, hr, sr, n⟩ => NS.nx n ρ I H σ .refl hr sr
theorem s_ss1 {s : S} {ss : List S} {ps : Stmt} {pss : List Stmt} (h1 : PS X ps (tS X.K X.M W (evS Γ s))) (h2 : PSs X pss (tS X.K X.M W (evSs Γ ss))) : PSs X (ps :: pss) (tS X.K X.M W (evSs Γ (s :: ss))) := by
  refine PSs.imp (pss_cons h1 h2) ?_
  rintro D σ H ⟨ρ, I, σT, h, hr, sr, n⟩
  rw [evSs] at n
  exact ⟨ρ, I, σT, h, hr, sr, n.seq⟩
/-- a slot's list is kept as a value from now on -/
theorem s_fz {j : Nat} {ss : List S} {pss : List Stmt} (h2 : PSs X pss (tS X.K X.M W (evSs Γ ss))) : PSs X pss (tS X.K X.M W (evSs Γ (.fz j :: ss))) := by
  refine PSs.imp h2 ?_
  rintro D σ H ⟨ρ, I, σT, h, hr, sr, n⟩
  rw [evSs, evS] at n
  split at n
  · rename_i l e
    obtain ⟨a, vs, q, p, ni, nl, w⟩ := sr.als j l e
    have oa : Own σT σ a := ⟨j, l, e, q⟩
    have x : SExt ρ I h H σT σ ρ (Iw I a) h H (σT.set j (some (.v (.lst l)))) σ := by
      refine ⟨fun _ _ e => e, fun _ e => .inl e, fun _ _ _ _ => rfl, fun _ e => e, fun b i => i.elim .inl fun z => .inr (.inr (.inr (z ▸ oa))), fun b l => .inl l, fun b ⟨i, m, e1, e2⟩ => ?_⟩
      rcases get_set e1 with ⟨_, _, z⟩ | ⟨c, z⟩
      · cases z
      · exact .inl ⟨i, m, z, e2⟩
    refine ⟨ρ, Iw I a, σT.set j (some (.v (.lst l))), h, hr.hold nl (isSome_of p), ?_, n.from x⟩
    refine ⟨by rw [List.length_set]; exact sr.len, fun i t z => ?_, fun i m z => ?_, fun i i' m m' b e1 e2 e3 e4 => ?_, fun i c fs z => by
      rcases get_set z with ⟨_, _, y⟩ | ⟨_, z⟩
      · cases y
      · exact (sr.xns i c fs z).mono kp_hold fun _ z => z⟩
    · rcases get_set z with ⟨c, _, y⟩ | ⟨c, z⟩
      · subst c
        cases y
        exact ⟨.ref a, q, a, vs, rfl, .inr rfl, p, w.mono kp_hold⟩
      · obtain ⟨v, q, p⟩ := sr.vs i t z; exact ⟨v, q, p.mono kp_hold⟩
    · rcases get_set z with ⟨_, _, y⟩ | ⟨c, z⟩
      · cases y
      · obtain ⟨b, ws, q', p', ni', nl', w'⟩ := sr.als i m z
        refine ⟨b, ws, q', p', fun y => y.elim ni' fun y => ?_, nl', w'.mono kp_hold⟩
        subst y
        exact c (sr.adj j i l m b e z q q')
    · rcases get_set e1 with ⟨_, _, z⟩ | ⟨c, z⟩
      · cases z
      · rcases get_set e2 with ⟨_, _, z'⟩ | ⟨c', z'⟩
        · cases z'
        · exact sr.adj i i' m m' b z z' e3 e4
  · exact n.elim
theorem s_pr {j : Nat} {ss : List S} {pss : List Stmt} (h2 : PSs X pss (tS X.K X.M W (evSs Γ ss))) : PSs X pss (tS X.K X.M W (evSs Γ (.pr j :: ss))) := by
  refine PSs.imp h2 ?_
  rintro D σ H ⟨ρ, I, σT, h, hr, sr, n⟩
  rw [evSs, evS] at n
  split at n
  · rename_i l e
    obtain ⟨a, vs, q, p, ni, nl, w⟩ := sr.als j l e
    have oa : Own σT σ a := ⟨j, l, e, q⟩
    obtain ⟨hr2, lv⟩ := hr_push hr (u := .lst l) ⟨vs, p, w⟩ ni nl
    have kp : Kp ρ I H (ρ ++ [a]) I H := ⟨fun n b e => by rw [List.getElem?_append_left (List.getElem?_eq_some_iff.mp e).1]; exact e, fun _ e => e, fun _ _ => rfl⟩
    have x : SExt ρ I h H σT σ (ρ ++ [a]) I (h ++ [.lst l]) H (σT.set j (some (.v (.ref h.length)))) σ := by
      refine ⟨kp.pre, fun _ e => e, fun _ _ _ _ => rfl, fun _ e => e, fun b i => .inl i, fun b l => ?_, fun b ⟨i, m, e1, e2⟩ => ?_⟩
      · exact (lv b l).elim .inl fun z => .inr (.inr (by rw [z]; exact oa))
      · rcases get_set e1 with ⟨_, _, z⟩ | ⟨c, z⟩
        · cases z
        · exact .inl ⟨i, m, z, e2⟩
    refine ⟨ρ ++ [a], I, σT.set j (some (.v (.ref h.length))), h ++ [.lst l], hr2, ?_, n.from x⟩
    refine ⟨by rw [List.length_set]; exact sr.len, fun i t z => ?_, fun i m z => ?_, fun i i' m m' b e1 e2 e3 e4 => ?_, fun i c fs z => by
      rcases get_set z with ⟨_, _, y⟩ | ⟨_, z⟩
      · cases y
      · exact (sr.xns i c fs z).mono kp fun _ z => z⟩
    · rcases get_set z with ⟨c, _, y⟩ | ⟨c, z⟩
      · subst c
        cases y
        exact ⟨.ref a, q, a, rfl, by rw [← hr.len, List.getElem?_append_right (Nat.le_refl _), Nat.sub_self]; rfl⟩
      · obtain ⟨v, q, p⟩ := sr.vs i t z; exact ⟨v, q, p.mono kp⟩
    · rcases get_set z with ⟨_, _, y⟩ | ⟨c, z⟩
      · cases y
      · obtain ⟨b, ws, q', p', ni', nl', w'⟩ := sr.als i m z
        refine ⟨b, ws, q', p', ni', fun y => (lv b y).elim nl' fun y => ?_, w'.mono kp⟩
        subst y
        exact c (sr.adj j i l m b e z q q')
    · rcases get_set e1 with ⟨_, _, z⟩ | ⟨c, z⟩
      · cases z
      · rcases get_set e2 with ⟨_, _, z'⟩ | ⟨c', z'⟩
        · cases z'
        · exact sr.adj i i' m m' b z z' e3 e4
  · exact n.elim
theorem s_ifS {c : C} {a b : List S} {pc : Expr} {pa pb : List Stmt} (hc : PT X pc (tB X.K X.M W (evC Γ c))) (ha : PSs X pa (tS X.K X.M W (evSs Γ a))) (hb : PSs X pb (tS X.K X.M W (evSs Γ b))) : PS X (.If pc pa pb pos) (tS X.K X.M W (evS Γ (.ife c a b))) := by
  refine PS.imp (ps_if hc ha hb) ?_
  rintro D σ H ⟨ρ, I, σT, h, hr, sr, n⟩
  rw [evS] at n
  refine ⟨ρ, I, σT, h, hr, sr, (n.sb sr hr).imp fun k h1 ρ1 I1 H1 x1 r1 n1 => ?_⟩
  cases k with
  | true => exact ⟨ρ1, I1, σT, h1, r1, sr.ext hr x1, n1.from (.of x1)⟩
  | false => exact ⟨ρ1, I1, σT, h1, r1, sr.ext hr x1, n1.from (.of x1)⟩
/-- a loop's turn: its outcome in the loop's -/
theorem turn_ns {K : PySem.W.Frag} {mg : Mg} {ρ ρ' : List Addr} {I I' : Addr → Prop} {h h' : Hs} {H H' : Hp} {σT σT' : Slots} {σ σ' : St} {o : SO} {k : Slots → Hs → SO} {D : Ends} {Nn : St → Hp → Prop}
    (n : NS K mg W ρ I h H σT σ (o.turn k) D) (x : SExt ρ I h H σT σ ρ' I' h' H' σT' σ')
    (f : ∀ σ3 h3 ρ3 I3 H3 σ3', SExt ρ I h H σT σ ρ3 I3 h3 H3 σ3 σ3' → HR K mg ρ3 I3 h3 H3 → SR K mg ρ3 I3 h3 H3 σ3 σ3' → NS K mg W ρ I h H σT σ (k σ3 h3) D → Nn σ3' H3) :
    NS K mg W ρ' I' h' H' σT' σ' o { D with nx := Nn, ct := Nn, bk := D.nx } := by
  cases o with
  | ok fl σ2 h2 =>
    intro ρ3 I3 H3 σ3 x3 r3 s3
    cases fl with
    | nx => exact f σ2 h2 ρ3 I3 H3 σ3 (x.trans x3) r3 s3 n
    | ct => exact f σ2 h2 ρ3 I3 H3 σ3 (x.trans x3) r3 s3 n
    | brk => exact NS.nx (show NS K mg W ρ I h H σT σ (.ok .nx σ2 h2) D from n) ρ3 I3 H3 σ3 (x.trans x3) r3 s3
    | ret r => exact fun v q => NS.rt (show NS K mg W ρ I h H σT σ (.ok (.ret r) σ2 h2) D from n) ρ3 I3 H3 σ3 v (x.trans x3) r3 s3 (q.back x)
  | ex y σ2 h2 => exact NS.from (show NS K mg W ρ I h H σT σ (.ex y σ2 h2) { D with nx := Nn, ct := Nn, bk := D.nx } from n) x
  | bad => exact n
/-- a walk's step: the object walked is as it was -/
theorem gd_for {K : PySem.W.Frag} {mg : Mg} {ρ : List Addr} {I : Addr → Prop} {h hc : Hs} {H : Hp} {σT : Slots} {σ : St} {g : Option (Nat × HOb)} {o : SO} {D : Ends} (n : NS K mg W ρ I h H σT σ (if gdB g hc then o else .bad) D) : gdB g hc = true ∧ NS K mg W ρ I h H σT σ o D := by
  cases z : gdB g hc with
  | true => rw [z] at n; exact ⟨rfl, n⟩
  | false => rw [z] at n; exact n.elim
theorem s_for (G : Gs X N Γ k W) (hh : N.hot = false) {tg : Tg} {it : It} {body : List S} {pb : List Stmt} (hg : mTg X.env.scope X.N tg pg = true) (hi : PI X pg pi (tIt X.K X.M W false (evIt Γ false it))) (hs : notSet pi = true) (hb : PSs X pb (tS X.K X.M W (evSs Γ body))) :
    PS X (.For pg pi pb [] pos) (tS X.K X.M W (evS Γ (.for tg it body))) := by
  refine PS.imp (ps_for (G.po hh) (G.calm hh) hi (s_tg (G.calm hh) G.nd G.loc tg.ixs tg pg hg fun _ z => z) hb (not_folded hs)) ?_
  rintro D σ H ⟨ρ, I, σT, h, hr, sr, n⟩
  rw [evS] at n
  refine ⟨ρ, I, σT, h, hr, sr, (n.sb sr hr).imp fun p h1 ρ1 I1 H1 x1 r1 n0 J C st wk => ?_⟩
  obtain ⟨ts, gd⟩ := p
  have s1 := sr.ext hr x1
  have n1 := n0.from (.of x1)
  have st' : ∀ ρ2 I2 h2 H2, Kp ρ1 I1 H1 ρ2 I2 H2 → HR X.K X.M ρ2 I2 h2 H2 → gdB gd h2 = true → C ρ2 I2 h2 H2 := by unfold Stay at st; rw [if_neg (by decide)] at st; exact st
  refine ⟨fun i m σc Hc => m = ts.length - i ∧ i ≤ ts.length ∧ ∃ ρc Ic hc σTc, SExt ρ1 I1 h1 H1 σT σ ρc Ic hc Hc σTc σc ∧ HR X.K X.M ρc Ic hc Hc ∧ SR X.K X.M ρc Ic hc Hc σTc σc ∧
    NS X.K X.M W ρ1 I1 h1 H1 σT σ (forL (fun x σ' h' => (liftS (asgT tg x σ') h').seq (evSs Γ body)) gd (ts.drop i) σTc hc) D, ⟨ts.length, by omega, Nat.zero_le _, ρ1, I1, h1, σT, .refl, r1, s1, n1⟩, ?_⟩
  rintro i m σc Hc ⟨rfl, hi', ρc, Ic, hc, σTc, xc, rc, sc, nc⟩
  have cC : gdB gd hc = true → C ρc Ic hc Hc := st' ρc Ic hc Hc (xc.kp r1 s1) rc
  by_cases hlt : i < ts.length
  · rw [List.drop_eq_getElem_cons hlt] at nc
    obtain ⟨gg, nc⟩ := gd_for nc
    have nc : NS X.K X.M W ρ1 I1 h1 H1 σT σ (((liftS (asgT tg ts[i] σTc) hc).seq (evSs Γ body)).turn (forL (fun x σ' h' => (liftS (asgT tg x σ') h').seq (evSs Γ body)) gd (ts.drop (i + 1)))) D := nc
    refine .inr ⟨wk.go i ρc Ic hc Hc hlt (cC gg), fun σ3 H3 => ∃ ρc Ic hc σTc, SExt ρ1 I1 h1 H1 σT σ ρc Ic hc H3 σTc σ3 ∧ HR X.K X.M ρc Ic hc H3 ∧ SR X.K X.M ρc Ic hc H3 σTc σ3 ∧
      NS X.K X.M W ρ1 I1 h1 H1 σT σ (forL (fun x σ' h' => (liftS (asgT tg x σ') h').seq (evSs Γ body)) gd (ts.drop (i + 1)) σTc hc) D, fun σ3 H3 z => ⟨ts.length - (i + 1), by omega, rfl, hlt, z⟩, ?_⟩
    intro x H' y
    obtain ⟨I2, t, xy, ry, et, rt⟩ := wk.yld i x ρc Ic hc Hc H' rc (cC gg) hlt y
    have et' : ts[i] = t := by rw [List.getElem?_eq_getElem hlt] at et; exact Option.some.inj et
    rw [et'] at nc
    have sy := sc.ext rc xy
    cases z : asgT tg t σTc with
    | none => rw [z] at nc; exact nc.elim
    | some σ2 =>
      rw [z] at nc
      refine ⟨ρc, I2, σTc, hc, t, σ2, ry, sy, PkG.of rt tg, z, fun σ' s' ew => ⟨ρc, I2, σ2, hc, ry, s', ?_⟩⟩
      have xa := (xc.trans (.of xy)).trans (asg_ext (ρ := ρc) (I := I2) (h := hc) (H := H') z ew .refl)
      exact turn_ns (o := evSs Γ body σ2 hc) nc xa fun σ3 h3 ρ3 I3 H3 σ3' x3 r3 s3 n3 => ⟨ρ3, I3, h3, σ3, x3, r3, s3, n3⟩
  · have e : i = ts.length := by omega
    subst e
    rw [List.drop_length] at nc
    obtain ⟨gg, nc⟩ := gd_for nc
    exact .inl ⟨wk.stop ρc Ic hc Hc (cC gg), NS.nx nc ρc Ic Hc σc xc rc sc⟩
theorem s_whl (G : Gs X N Γ k W) (hh : N.hot = false) {c : C} {body : List S} {pc : Expr} {pb : List Stmt} (hc : PT X pc (tB X.K X.M W (evC Γ c))) (hb : PSs X pb (tS X.K X.M W (evSs Γ body))) : PS X (.While pc pb [] pos) (tS X.K X.M W (evS Γ (.whl c body))) := by
  refine PS.imp (ps_while (G.po hh) hc hb) ?_
  rintro D σ H ⟨ρ, I, σT, h, hr, sr, n⟩
  rw [evS] at n
  refine ⟨fun m σc Hc => ∃ ρc Ic hc σTc, SExt ρ I h H σT σ ρc Ic hc Hc σTc σc ∧ HR X.K X.M ρc Ic hc Hc ∧ SR X.K X.M ρc Ic hc Hc σTc σc ∧ NS X.K X.M W ρ I h H σT σ (whlL (evC Γ c) (evSs Γ body) m σTc hc) D, ⟨whlMost, ρ, I, h, σT, .refl, hr, sr, n⟩, ?_⟩
  rintro m σc Hc ⟨ρc, Ic, hc', σTc, xc, rc, sc, nc⟩
  cases m with
  | zero => exact nc.elim
  | succ m =>
    have nc' : NS X.K X.M W ρ I h H σT σ (sb σTc (evC Γ c σTc hc') fun b h1 => if b then (evSs Γ body σTc h1).turn (whlL (evC Γ c) (evSs Γ body) m) else .ok .nx σTc h1) D := nc
    refine ⟨ρc, Ic, σTc, hc', rc, sc, (nc'.sb' xc sc rc).imp fun b h1 ρ1 I1 H1 x1 r1 n1 => ?_⟩
    have s1 := sc.ext rc x1
    cases b with
    | false => exact NS.nx n1 ρ1 I1 H1 σc (xc.trans (.of x1)) r1 s1
    | true =>
      refine ⟨fun σ3 H3 => ∃ ρc Ic hc σTc, SExt ρ I h H σT σ ρc Ic hc H3 σTc σ3 ∧ HR X.K X.M ρc Ic hc H3 ∧ SR X.K X.M ρc Ic hc H3 σTc σ3 ∧ NS X.K X.M W ρ I h H σT σ (whlL (evC Γ c) (evSs Γ body) m σTc hc) D, fun σ3 H3 z => ⟨m, Nat.lt_succ_self m, z⟩, ρ1, I1, σTc, h1, r1, s1, ?_⟩
      exact turn_ns (o := evSs Γ body σTc h1) n1 (xc.trans (.of x1)) fun σ3 h3 ρ3 I3 H3 σ3' x3 r3 s3 n3 => ⟨ρ3, I3, h3, σ3, x3, r3, s3, n3⟩
end
end VY
namespace VY
open PySem PySem.Spec
open PyProof.Rows hiding St
open L2
theorem setL_inv {r x y : R} {h h4 : Hs} (e : setL r x y h = some h4) : ∃ t n u, frz r = some t ∧ x = .v (.ref n) ∧ y = .v u ∧
    ((∃ k l j, u = .int k ∧ h[n]? = some (.lst l) ∧ ixN l.length k = some j ∧ h4 = h.set n (.lst (l.set j t))) ∨
      ∃ l k, h[n]? = some (.dct l) ∧ keyT u = some k ∧ l.length < SL ∧ h4 = h.set n (.dct (putT l k t))) := by
  unfold setL at e
  cases f : frz r with
  | none => rw [f] at e; simp at e
  | some t =>
    rw [f] at e
    cases x with
    | al _ => simp at e
    | bw _ => simp at e
    | v x =>
      cases x <;> try (simp at e; done)
      rename_i n
      cases y with
      | al _ => simp at e
      | bw _ => simp at e
      | v y =>
        simp only [] at e
        refine ⟨t, n, y, rfl, rfl, rfl, ?_⟩
        split at e
        · rename_i l k e2
          cases ej : ixN l.length k with
          | none => rw [ej] at e; cases e
          | some j => rw [ej] at e; cases e; exact .inl ⟨k, l, j, rfl, e2, ej, rfl⟩
        · rename_i _ l e2
          obtain ⟨kk, ek, e⟩ := Option.bind_eq_some_iff.mp e
          split at e
          · cases e
            exact .inr ⟨l, kk, e2, ek, by assumption, rfl⟩
          · cases e
        · cases e
section
variable {X : Cx} {N : Nms} {Γ : Ctx} {k : Nat} {W : WX} {e o i a b c : E} {pe po pi pg pa pb pc : Expr} {pos : Pos}
/-- a store by place or by key -/
theorem set_any (hu : X.A.units + 1 < cLine) : PSet X (fun x y v H Q => rSetL x y v H Q ∨ ∃ (a : Addr) (kvs : List (Key × V)) (kk : Key) (z : V), x = .ref a ∧ y = kV kk ∧ H a = some (.dK kvs) ∧ kvs.length < sizeLine ∧ Q (upd H a (.dK (putK kvs kk v)))) := by
  intro pins s σ H o i v ov iv u Q I ro ri rv hh
  rcases hh with hh | ⟨a, kvs, kk, _, rfl, rfl, e, hl, q⟩
  · exact set_list pins s σ H o i v ov iv u Q I ro ri rv hh
  · cases ro
    exact d_setItem hu I (DPut.k e hl) ri rv fun s' I' => ⟨_, I', q⟩
theorem s_setIx (G : Gs X N Γ k W) (he : PE X pe (tD X.K X.M W (evE Γ e))) (ho : PE X po (tD X.K X.M W (evE Γ o))) (hi : PE X pi (tD X.K X.M W (evE Γ i))) {p : Pos} (hn : notSlice pi = true) (hs : swapsWithSole [.Subscript po pi p] pe pos.line X.env = pure false) :
    PS X (.Assign [.Subscript po pi p] pe pos) (tS X.K X.M W (evS Γ (.setIx o i e))) := by
  refine PS.imp (ps_asg he (pg_sub ho hi (set_any (by have := G.hu; omega)) (by intro v; cases pi <;> first | rfl | cases hn)) hs rfl rfl) ?_
  rintro D σ H ⟨ρ, I, σT, h, hr, sr, n⟩
  rw [evS] at n
  refine ⟨ρ, I, σT, h, hr, sr, (n.sb sr hr).imp' fun r h1 ρ1 I1 H1 x1 r1 n0 v o1 => ?_⟩
  cases z : frz r with
  | none =>
    -- nothing to store: the places are still looked at
    have n1 := n0 ρ1 I1 H1 x1 r1
    have s1 := sr.ext hr x1
    refine ⟨ρ1, I1, σT, h1, r1, s1, (n1.sb' (.of x1) s1 r1).imp fun x h2 ρ2 I2 H2 x2 r2 n2 u o2 => ?_⟩
    refine ⟨ρ2, I2, σT, h2, r2, s1.ext r1 x2, (n2.sb' (.of (x1.trans x2)) (s1.ext r1 x2) r2).imp fun y h3 ρ3 I3 H3 x3 r3 n3 w o3 => ?_⟩
    unfold setL at n3
    rw [z] at n3
    exact n3.elim
  | some t =>
    obtain ⟨J1, y1, q1, rp⟩ := o1.keep x1 r1 z
    have n1 := n0 ρ1 J1 H1 y1 q1
    have s1 := sr.ext hr y1
    refine ⟨ρ1, J1, σT, h1, q1, s1, (n1.sb' (.of y1) s1 q1).imp fun x h2 ρ2 I2 H2 x2 r2 n2 u o2 => ?_⟩
    have s2 := s1.ext q1 x2
    refine ⟨ρ2, I2, σT, h2, r2, s2, (n2.sb' (.of (y1.trans x2)) s2 r2).imp fun y h3 ρ3 I3 H3 x3 r3 n3 w o3 => ?_⟩
    have s3 := s2.ext r2 x3
    have xx := (y1.trans x2).trans x3
    have rp3 := (rp.mono (x2.kp q1)).mono (x3.kp r2)
    cases el : setL r x y h3 with
    | none => rw [el] at n3; exact n3.elim
    | some h4 =>
      rw [el] at n3
      obtain ⟨t', m, ku, e1, e2, e3, ⟨kk, l, j, e0, e4, ej, e5⟩ | ⟨l, kk, e4, ek, ez, e5⟩⟩ := setL_inv el
      · rw [z] at e1
        cases e1
        subst e2 e3 e5 e0
        obtain ⟨a, rfl, ea⟩ := (show ∃ a, u = .ref a ∧ ρ3[m]? = some a from (RO.ext o2 r2 x3))
        cases (show w = .int kk from o3)
        obtain ⟨vs, p, wv⟩ := r3.obj m _ a e4 ea
        have nd : HOb.lst l ≠ .dead := fun z => by cases z
        have nd' : HOb.lst (l.set j t) ≠ .dead := fun z => by cases z
        refine .inl ⟨a, vs, kk, j, rfl, rfl, p, by rw [wv.length]; exact ej, ?_⟩
        refine n3.nx ρ3 I3 _ σ (ext_set (.of xx) ea e4 nd) (hr_set r3 ea e4 nd nd' fun H' kp up => ⟨_, up, Reps.mono ⟨fun _ _ e => e, fun _ e => e, kp⟩ (Reps.set rp3 j wv)⟩) (sr_set s3 r3 ea e4 nd)
      · rw [z] at e1
        cases e1
        subst e2 e3 e5
        obtain ⟨a, rfl, ea⟩ := (show ∃ a, u = .ref a ∧ ρ3[m]? = some a from (RO.ext o2 r2 x3))
        obtain ⟨vs, p, wv⟩ := r3.obj m _ a e4 ea
        have nd : HOb.dct l ≠ .dead := fun z => by cases z
        have nd' : HOb.dct (putT l kk t) ≠ .dead := fun z => by cases z
        refine .inr ⟨a, vs, kk, v, rfl, keyT_kV o3 ek, p, by rw [wv.len, sizeLine_eq]; exact ez, ?_⟩
        refine n3.nx ρ3 I3 _ σ (ext_set (.of xx) ea e4 nd) (hr_set r3 ea e4 nd nd' fun H' kp up => ⟨_, up, RepD.mono ⟨fun _ _ e => e, fun _ e => e, kp⟩ (RepD.put kk rp3 wv)⟩) (sr_set s3 r3 ea e4 nd)
/-- x.append(e) -/
theorem s_app {j : Nat} {x : Str} {p ap cp : Pos} (hi : X.N[j]? = some x) (hv : visB X.env.scope x = true) (hp : plainN x = true) (hb : notStar pb = true) (he : PE X pb (tD X.K X.M W (evE Γ b))) (hl : (ap.endLine == cp.line) = true) :
    PS X (.Expr (.Call (.Attribute (.Name x p) "append" ap) [pb] [] cp) pos) (tS X.K X.M W (evS Γ (.app j b))) := by
  have se : starEach [pb] X.env = (false, eval pb X.env) :: starEach [] X.env := star_eq hb
  refine PS.imp (ps_expr (pe_bm PySem.F.plainAttrs_list PySem.F.slot_list_append PySem.F.type_list_append mt_append (pe_var hi (vis_of hv) (plain_dbg hp).1 (plain_dbg hp).2) (pa_cons he pa_nil se) rfl (by rw [se]; rfl) hl se rfl) rfl) ?_
  rintro D σ H ⟨ρ, I, σT, h, hr, sr, n⟩
  rw [evS] at n
  cases ao : appOk h σT[j]? with
  | false => rw [ao] at n; exact n.elim
  | true =>
    rw [ao] at n
    have n : NS X.K X.M W ρ I h H σT σ (sb σT (evE Γ b σT h) fun r h1 => appS σT j r h1) D := n
    have n' := n.sb sr hr
    unfold appOk at ao
    split at ao
    · rename_i l ej
      obtain ⟨a, vs, q, p, ni, nl, w⟩ := sr.als j l ej
      refine ⟨.ref a, q, .inl ⟨rfl, vs, .inl (.inl p)⟩, ρ, I, σT, h, hr, sr, n'.imp' fun r h1 ρ1 I1 H1 x1 r1 n0 v o1 => ?_⟩
      cases z : frz r with
      | none => have n1 := n0 ρ1 I1 H1 x1 r1; unfold appS at n1; rw [z] at n1; exact n1.elim
      | some t =>
        obtain ⟨J, y1, q1, rp⟩ := o1.keep x1 r1 z
        have n1 := n0 ρ1 J H1 y1 q1
        have s1 := sr.ext hr y1
        obtain ⟨a', vs', q', p', ni', nl', w'⟩ := s1.als j l ej
        rw [q] at q'
        cases q'
        unfold appS at n1
        rw [z, ej] at n1
        simp only [] at n1
        split at n1
        · rename_i hz
          obtain ⟨x2, r2, s2⟩ := own_upd (.of y1) s1 q1 ej q (w'.append (ws := [v]) (m := [t]) ⟨rp, trivial⟩)
          exact ⟨a, vs', v, rfl, rfl, p', by rw [w'.length, sizeLine_eq]; exact hz, n1.nx ρ1 J _ σ x2 r2 s2⟩
        · exact n1.elim
    · rename_i m ej
      obtain ⟨v0, q, a, rfl, ea⟩ := sr.vs j _ ej
      split at ao
      · rename_i l eh
        obtain ⟨vs, p, w⟩ := hr.obj m _ a eh ea
        refine ⟨.ref a, q, .inl ⟨rfl, vs, .inl (.inl p)⟩, ρ, I, σT, h, hr, sr, n'.imp' fun r h1 ρ1 I1 H1 x1 r1 n0 v o1 => ?_⟩
        cases z : frz r with
        | none => have n1 := n0 ρ1 I1 H1 x1 r1; unfold appS at n1; rw [z] at n1; exact n1.elim
        | some t =>
          obtain ⟨J, y1, q1, rp⟩ := o1.keep x1 r1 z
          have n1 := n0 ρ1 J H1 y1 q1
          have s1 := sr.ext hr y1
          have ea1 := y1.pre _ _ ea
          unfold appS at n1
          rw [z, ej] at n1
          simp only [] at n1
          split at n1
          · rename_i l' eh'
            split at n1
            · rename_i hz
              obtain ⟨vs', p', w'⟩ := q1.obj m _ a eh' ea1
              have nd : HOb.lst l' ≠ .dead := fun z => by cases z
              have nd' : HOb.lst (l' ++ [t]) ≠ .dead := fun z => by cases z
              refine ⟨a, vs', v, rfl, rfl, p', by rw [w'.length, sizeLine_eq]; exact hz, ?_⟩
              exact n1.nx ρ1 J _ σ (ext_set (.of y1) ea1 eh' nd) (hr_set q1 ea1 eh' nd nd' fun H' kp up => ⟨_, up, Reps.mono ⟨fun _ _ e => e, fun _ e => e, kp⟩ (w'.append (ws := [v]) (m := [t]) ⟨rp, trivial⟩)⟩) (sr_set s1 q1 ea1 eh' nd)
            · exact n1.elim
          · exact n1.elim
      · cases ao
    · cases ao
theorem PIp.or {X : Cx} {op : Operator} {t t' : TIp} (p : PIp X op t) (q : PIp X op t') : PIp X op fun x y H Q => t x y H Q ∨ t' x y H Q :=
  fun pins s σ H x y v u Q I rx ry h => h.elim (p pins s σ H x y v u Q I rx ry) (q pins s σ H x y v u Q I rx ry)
theorem PIp.imp {X : Cx} {op : Operator} {t t' : TIp} (p : PIp X op t) (f : ∀ x y H Q, t' x y H Q → t x y H Q) : PIp X op t' := fun pins s σ H x y v u Q I rx ry h => p pins s σ H x y v u Q I rx ry (f x y H Q h)
theorem ip_mul : PIp X .Mult (fun x y H Q => ∃ i j, x = .int i ∧ y = .int j ∧ mulOk i j = true ∧ Q (.int (i * j)) H) := by
  rintro pins s σ H x y v u Q I rx ry ⟨i, j, rfl, rfl, c, q⟩
  obtain ⟨t, rfl⟩ := rx
  obtain ⟨t', rfl⟩ := ry
  exact imul_int ⟨.int _, H, I.tok _, ⟨_, rfl⟩, q⟩ (mulOk_ok c)
theorem s_aug (G : Gs X N Γ k W) {j : Nat} {x : Str} {p : Pos} {op : Operator} (hi : X.N[j]? = some x) (hl : locB X.env.scope x = true) (he : PE X pe (tD X.K X.M W (evE Γ e))) :
    PS X (.AugAssign (.Name x p) op pe pos) (tS X.K X.M W (evS Γ (.aug j op e))) := by
  have fin : ∀ (ti : TIp), (∀ t u z v w H Q, augT op t u = some z → (∀ ρ I H, Rep X.K X.M ρ I H v t) → (∀ ρ I H, Rep X.K X.M ρ I H w u) → (∀ y, (∀ ρ I H, Rep X.K X.M ρ I H y z) → Q y H) → ti v w H Q) → ∀ D σ H, tS X.K X.M W (evS Γ (.aug j op e)) D σ H → tAug j (tD X.K X.M W (evE Γ e)) ti D σ H := by
    rintro ti hti D σ H ⟨ρ, I, σT, h, hr, sr, n⟩
    rw [evS] at n
    split at n
    · rename_i t ej
      obtain ⟨v, ev, rv⟩ := sr.vs j t ej
      refine ⟨v, ev, ρ, I, σT, h, hr, sr, (n.sb sr hr).imp fun r h1 ρ1 I1 H1 x1 r1 n1 w o1 => ?_⟩
      unfold augS at n1
      split at n1
      · rename_i u
        cases z : augT op t u with
        | none => rw [z] at n1; exact n1.elim
        | some y =>
          rw [z] at n1
          have flat : ∀ {t : T}, (∃ i, t = .int i) ∨ (∃ s, t = .str s) → ∀ {v : V} {ρ I H}, Rep X.K X.M ρ I H v t → ∀ ρ I H, Rep X.K X.M ρ I H v t := by
            rintro t (⟨i, rfl⟩ | ⟨s, rfl⟩) v ρ I H q ρ' I' H' <;> exact q
          have kinds : ((∃ i, t = .int i) ∨ ∃ s, t = .str s) ∧ ((∃ i, u = .int i) ∨ ∃ s, u = .str s) := by
            unfold augT at z
            split at z <;> first | exact ⟨.inl ⟨_, rfl⟩, .inl ⟨_, rfl⟩⟩ | exact ⟨.inr ⟨_, rfl⟩, .inr ⟨_, rfl⟩⟩ | cases z
          refine hti t u y v w H1 _ z (flat kinds.1 rv) (flat kinds.2 o1) fun y' ry => ?_
          have x2 : SExt ρ I h H σT σ ρ1 I1 h1 H1 (σT.set j (some (.v y))) (σ.set j (some y')) := { (SExt.of x1 : SExt ρ I h H σT σ ρ1 I1 h1 H1 σT σ) with onew := fun a z => .inl (own_set z) }
          exact NS.nx (show NS X.K X.M W ρ I h H σT σ (.ok .nx (σT.set j (some (.v y))) h1) D from n1) ρ1 I1 H1 _ x2 r1 ((sr.ext hr x1).set (ry ρ1 I1 H1) j)
      · exact n1.elim
    · exact n.elim
  have none_op : (∀ t u, augT op t u = none) → PS X (.AugAssign (.Name x p) op pe pos) (tS X.K X.M W (evS Γ (.aug j op e))) := fun hno => by
    refine PS.imp (ps_aug (ti := fun _ _ _ _ => False) G.nd hi (loc_of hl) he (fun _ _ _ _ _ _ _ _ _ _ _ _ h => h.elim) (.inl (G.fnl x))) (fin _ fun t u z v w H Q hz => ?_)
    rw [hno t u] at hz
    cases hz
  cases op with
  | Add =>
    refine PS.imp (ps_aug G.nd hi (loc_of hl) he (PIp.or ip_add (fun pins s σ H x y v u Q I rx ry h => iop_add_str pins s σ H x y v u Q I rx ry h)) (.inl (G.fnl x))) (fin _ fun t u z v w H Q hz rv rw' q => ?_)
    cases t <;> cases u <;> try exact (no_some hz).elim
    · cases hz
      exact .inl ⟨_, _, rv (ρ := []) (I := fun _ => False) (H := H), rw' (ρ := []) (I := fun _ => False) (H := H), q _ fun _ _ _ => rfl⟩
    · obtain ⟨c, rfl⟩ := ite_some (show (if _ then some _ else none) = some z from hz)
      exact .inr ⟨_, _, rv (ρ := []) (I := fun _ => False) (H := H), rw' (ρ := []) (I := fun _ => False) (H := H), by rw [sizeLine_eq]; exact c, q _ fun _ _ _ => rfl⟩
  | Sub =>
    refine PS.imp (ps_aug G.nd hi (loc_of hl) he ip_sub (.inl (G.fnl x))) (fin _ fun t u z v w H Q hz rv rw' q => ?_)
    cases t <;> cases u <;> try exact (no_some hz).elim
    cases hz
    exact ⟨_, _, rv (ρ := []) (I := fun _ => False) (H := H), rw' (ρ := []) (I := fun _ => False) (H := H), q _ fun _ _ _ => rfl⟩
  | Mult =>
    refine PS.imp (ps_aug G.nd hi (loc_of hl) he ip_mul (.inl (G.fnl x))) (fin _ fun t u z v w H Q hz rv rw' q => ?_)
    cases t <;> cases u <;> try exact (no_some hz).elim
    obtain ⟨c, rfl⟩ := ite_some (show (if _ then some _ else none) = some z from hz)
    exact ⟨_, _, rv (ρ := []) (I := fun _ => False) (H := H), rw' (ρ := []) (I := fun _ => False) (H := H), c, q _ fun _ _ _ => rfl⟩
  | _ => exact none_op fun t u => by cases t <;> cases u <;> rfl
end
end VY
namespace VY
open PySem PySem.Spec
open PyProof.Rows hiding St
open L2
section
variable {K : PySem.W.Frag} {mg : Mg} {ρ ρ' ρ'' : List Addr} {I I' I'' : Addr → Prop} {h h' h'' : Hs} {H H' H'' H0 : Hp} {σT σT' σT'' : Slots} {σ σ' σ'' τ : St} {τT : Slots} {W W' : WX}
/-- what an expression gave, stored into a slot; nobody holds its list -/
theorem put_ok' {v : V} {r : R} {s : Sl} {i : Nat} (x : SExt ρ I h H σT σ ρ' I' h' H' σT' σ') (sr : SR K mg ρ' I' h' H' σT' σ') (o : RO K mg ρ' I' h' H' H τT τ v r)
    (no : ∀ (l : List T) (a : Addr), r = .al l → v = .ref a → ¬ Own σT' σ' a) (e : putR r = some s) :
    SExt ρ I h H σT σ ρ' I' h' H' (σT'.set i (some s)) (σ'.set i (some v)) ∧ SR K mg ρ' I' h' H' (σT'.set i (some s)) (σ'.set i (some v)) := by
  cases r with
  | v t => cases e; exact ⟨{ x with onew := fun a z => x.onew a (own_set z) }, sr.set o i⟩
  | al l =>
    cases e
    obtain ⟨a, vs, rfl, n, p, ni, nl, w⟩ := o
    refine ⟨{ x with onew := fun b z => (own_setA z).elim (x.onew b) fun q => by rw [q]; exact .inr n }, sr.setA p ni nl w i fun j m _ e1 e2 => ?_⟩
    exact no l a rfl rfl ⟨j, m, e1, e2⟩
  | bw i => cases e
theorem own_put {v : V} {r : R} {s : Sl} {i : Nat} {a : Addr} (e : putR r = some s) (hv : ∀ l, r = .al l → ∃ b, v = .ref b) (z : Own (σT.set i (some s)) (σ.set i (some v)) a) : Own σT σ a ∨ (∃ l, r = .al l ∧ v = .ref a) := by
  cases r with
  | v t => cases e; exact .inl (own_set z)
  | al l =>
    cases e
    obtain ⟨b, rfl⟩ := hv l rfl
    exact (own_setA z).imp id fun q => by subst q; exact ⟨l, rfl, rfl⟩
  | bw i => cases e
theorem RO.isR {H0 : Hp} {v : V} {r : R} (o : RO K mg ρ I h H H0 τT τ v r) : ∀ l, r = .al l → ∃ b, v = .ref b := fun l e => by
  subst e
  obtain ⟨a, vs, e, _⟩ := o
  exact ⟨a, e⟩
/-- a fresh list's place -/
theorem RO.new {H0 : Hp} {v : V} {l : List T} {a : Addr} (o : RO K mg ρ I h H H0 τT τ v (.al l)) (e : v = .ref a) : H0 a = none ∧ (H a).isSome := by
  obtain ⟨b, vs, e', n, p, _⟩ := o
  rw [e] at e'
  cases e'
  exact ⟨n, isSome_of p⟩
end
section
variable {X : Cx} {N : Nms} {Γ : Ctx} {k : Nat} {W : WX} {e o i a b c : E} {pe po pi pg pa pb pc : Expr} {pos : Pos}
/-- the order of the stores, as the model takes it -/
def swS (sc : Scope) (ts vs : List Expr) : Option (Option (List Str)) :=
  if !(ts.length == 2 || ts.length == 3) || vs.length != ts.length then some none
  else if (vs.any fun | .Starred .. => true | _ => false) then some none
  else
    let line := (ts.head?.map (·.pos.line)).getD 0
    let names := ts.filterMap fun
      | .Name id pos => if sc.names.lookup id == some .local && pos.line == line then some id else none
      | _ => none
    if names.length != ts.length || names.eraseDups.length != names.length then some none
    else if vs.all (foldedForSure 8) then some none
    else if vs.all (constantsAlone 8) then none
    else some (some names)
theorem swS_ok {env : Env} (hk : env.scope.kind = .function) {ts vs : List Expr} {r : Option (List Str)} {i' j' : Nat} {p q : Pos} (e : swS env.scope ts vs = some r) : swappedStores [.Tuple ts i' p] (.Tuple vs j' q) env = pure r := by
  have hb : (env.blockKind != ScopeKind.function) = false := by unfold Env.blockKind; rw [hk]; rfl
  unfold swS at e
  unfold swappedStores
  simp only [hb, Bool.or_false]
  split at e
  · rename_i c
    rw [if_pos c]
    cases e
    rfl
  · rename_i c
    rw [if_neg c]
    split at e
    · rename_i c1
      cases e
      exact if_pos c1
    · rename_i c1
      refine (if_neg c1).trans ?_
      simp only [] at e
      split at e
      · rename_i c2
        cases e
        exact if_pos c2
      · rename_i c2
        refine (if_neg c2).trans ?_
        split at e
        · rename_i c3
          cases e
          exact if_pos c3
        · rename_i c3
          refine (if_neg c3).trans ?_
          split at e
          · cases e
          · rename_i c4
            cases e
            exact if_neg c4
theorem s_par2 (G : Gs X N Γ k W) (hh : N.hot = false) {i j : Nat} {x y : Str} {px py pt pt2 : Pos} {k1 k2 : Nat} (hi : X.N[i]? = some x) (hj : X.N[j]? = some y) (hij : i ≠ j) (hx : X.env.scope.names.lookup x = some .local) (hy : X.env.scope.names.lookup y = some .local)
    (ha : PE X pa (tD X.K X.M W (evE Γ a))) (hb : PE X pb (tD X.K X.M W (evE Γ b))) (sa : notStar pa = true) (sb : notStar pb = true)
    (hw : swS X.env.scope [.Name x px, .Name y py] [pa, pb] = some (some [x, y])) :
    PS X (.Assign [.Tuple [.Name x px, .Name y py] k1 pt] (.Tuple [pa, pb] k2 pt2) pos) (tS X.K X.M W (evS Γ (.par2 i j a b))) := by
  refine PS.imp (ps_par (G.calm hh) G.nd hi hj hij hx hy (pa_cons ha (pa_cons hb pa_nil (star_eq sb)) (star_eq sa)) (swS_ok G.kind hw) rfl) ?_
  rintro D σ H ⟨ρ, I, σT, h, hr, sr, n⟩
  rw [evS] at n
  refine ⟨ρ, I, σT, h, hr, sr, (n.sb sr hr).imp fun r h1 ρ1 I1 H1 x1 r1 n1 v o1 => ?_⟩
  have s1 := sr.ext hr x1
  refine ⟨ρ1, I1, σT, h1, r1, s1, (n1.sb' (.of x1) s1 r1).imp fun r' h2 ρ2 I2 H2 x2 r2 n2 v' o2 => ⟨v, v', rfl, ?_⟩⟩
  have s2 := s1.ext r1 x2
  have xx := x1.trans x2
  cases e1 : putR r with
  | none => rw [e1] at n2; exact n2.elim
  | some w =>
    cases e2 : putR r' with
    | none => rw [e1, e2] at n2; exact n2.elim
    | some w' =>
      rw [e1, e2] at n2
      obtain ⟨y1, t1⟩ := put_ok' (i := i) (.of xx) s2 (o1.ext r1 x2) (fun l a er ev ow => by
        subst er
        exact not_none (sr.own ow).1 (o1.new ev).1) e1
      obtain ⟨y2, t2⟩ := put_ok' (i := j) y1 t1 (o2.back x1.dom) (fun l a er ev ow => by
        subst er
        have q := o2.new ev
        rcases own_put e1 o1.isR ow with z | ⟨m, er', ev'⟩
        · exact not_none (x1.dom _ (sr.own z).1) q.1
        · subst er'
          exact not_none (o1.new ev').2 q.1) e2
      exact n2.nx ρ2 I2 H2 _ y2 r2 t2
theorem s_par3 (G : Gs X N Γ k W) (hh : N.hot = false) {i j l : Nat} {x y z : Str} {px py pz pt pt2 : Pos} {k1 k2 : Nat} (hi : X.N[i]? = some x) (hj : X.N[j]? = some y) (hl : X.N[l]? = some z) (hij : i ≠ j) (hil : i ≠ l) (hjl : j ≠ l)
    (hx : X.env.scope.names.lookup x = some .local) (hy : X.env.scope.names.lookup y = some .local) (hz : X.env.scope.names.lookup z = some .local)
    (ha : PE X pa (tD X.K X.M W (evE Γ a))) (hb : PE X pb (tD X.K X.M W (evE Γ b))) (hc : PE X pc (tD X.K X.M W (evE Γ c))) (sa : notStar pa = true) (sb : notStar pb = true) (sc : notStar pc = true)
    (hw : swS X.env.scope [.Name x px, .Name y py, .Name z pz] [pa, pb, pc] = some (some [x, y, z])) :
    PS X (.Assign [.Tuple [.Name x px, .Name y py, .Name z pz] k1 pt] (.Tuple [pa, pb, pc] k2 pt2) pos) (tS X.K X.M W (evS Γ (.par3 i j l a b c))) := by
  refine PS.imp (ps_par3 (G.calm hh) G.nd hi hj hl hij hil hjl hx hy hz (pa_cons ha (pa_cons hb (pa_cons hc pa_nil (star_eq sc)) (star_eq sb)) (star_eq sa)) (swS_ok G.kind hw) rfl) ?_
  rintro D σ H ⟨ρ, I, σT, h, hr, sr, n⟩
  rw [evS] at n
  refine ⟨ρ, I, σT, h, hr, sr, (n.sb sr hr).imp fun r h1 ρ1 I1 H1 x1 r1 n1 v o1 => ?_⟩
  have s1 := sr.ext hr x1
  refine ⟨ρ1, I1, σT, h1, r1, s1, (n1.sb' (.of x1) s1 r1).imp fun r' h2 ρ2 I2 H2 x2 r2 n2 v' o2 => ?_⟩
  have s2 := s1.ext r1 x2
  have xx := x1.trans x2
  refine ⟨ρ2, I2, σT, h2, r2, s2, (n2.sb' (.of xx) s2 r2).imp fun r'' h3 ρ3 I3 H3 x3 r3 n3 v'' o3 => ⟨v, v', v'', rfl, ?_⟩⟩
  have s3 := s2.ext r2 x3
  have xxx := xx.trans x3
  cases e1 : putR r with
  | none => rw [e1] at n3; exact n3.elim
  | some w =>
    cases e2 : putR r' with
    | none => rw [e1, e2] at n3; exact n3.elim
    | some w' =>
      cases e3 : putR r'' with
      | none => rw [e1, e2, e3] at n3; exact n3.elim
      | some w'' =>
        rw [e1, e2, e3] at n3
        obtain ⟨y1, t1⟩ := put_ok' (i := i) (.of xxx) s3 ((o1.ext r1 x2).ext r2 x3) (fun l a er ev ow => by
          subst er
          exact not_none (sr.own ow).1 (o1.new ev).1) e1
        obtain ⟨y2, t2⟩ := put_ok' (i := j) y1 t1 ((o2.ext r2 x3).back x1.dom) (fun l a er ev ow => by
          subst er
          have q := o2.new ev
          rcases own_put e1 o1.isR ow with z | ⟨m, er', ev'⟩
          · exact not_none (x1.dom _ (sr.own z).1) q.1
          · subst er'
            exact not_none (o1.new ev').2 q.1) e2
        obtain ⟨y3, t3⟩ := put_ok' (i := l) y2 t2 (o3.back xx.dom) (fun l a er ev ow => by
          subst er
          have q := o3.new ev
          rcases own_put e2 o2.isR ow with z | ⟨m, er', ev'⟩
          · rcases own_put e1 o1.isR z with z | ⟨m, er', ev'⟩
            · exact not_none (xx.dom _ (sr.own z).1) q.1
            · subst er'
              exact not_none (x2.dom _ (o1.new ev').2) q.1
          · subst er'
            exact not_none (o2.new ev').2 q.1) e3
        exact n3.nx ρ3 I3 H3 _ y3 r3 t3
end
end VY
namespace VY
open PySem PySem.Spec
open PyProof.Rows hiding St
open L2
abbrev NoW : WX := fun _ _ _ _ => False
section
variable {K : PySem.W.Frag} {f : Str → Option Value} {P : Program} {w : World} {x y : Option (Addr × Obj)} {ρ ρ' : List Addr} {I I' : Addr → Prop} {h h' : Hs} {H H' : Hp} {σT σT' : Slots} {σ σ' : St} {W W' : WX}
theorem wipeX_al {j : Nat} {l : List T} (e : (wipeX σT)[j]? = some (some (.al l))) : σT[j]? = some (some (.al l)) := by
  unfold wipeX at e
  rw [List.getElem?_map] at e
  cases z : σT[j]? with
  | none => rw [z] at e; cases e
  | some s =>
    rw [z] at e
    cases s with
    | none => cases e
    | some s => cases s <;> cases e <;> rfl
theorem wipeX_v {j : Nat} {t : T} (e : (wipeX σT)[j]? = some (some (.v t))) : σT[j]? = some (some (.v t)) := by
  unfold wipeX at e
  rw [List.getElem?_map] at e
  cases z : σT[j]? with
  | none => rw [z] at e; cases e
  | some s =>
    rw [z] at e
    cases s with
    | none => cases e
    | some s => cases s <;> cases e <;> rfl
theorem wipeX_xn {j : Nat} {c : Str} {fs : List (Str × T)} (e : (wipeX σT)[j]? = some (some (.xn c fs))) : False := by
  unfold wipeX at e
  rw [List.getElem?_map] at e
  cases z : σT[j]? with
  | none => rw [z] at e; cases e
  | some s =>
    rw [z] at e
    cases s with
    | none => cases e
    | some s => cases s <;> cases e
/-- no exception is held any more -/
theorem SR.wipeX (s : SR K ⟨f, P, w, x⟩ ρ I h H σT σ) : SR K ⟨f, P, w, y⟩ ρ I h H (VY.wipeX σT) σ where
  len := by unfold VY.wipeX; rw [List.length_map]; exact s.len
  vs := fun i t e => let ⟨v, q, p⟩ := s.vs i t (wipeX_v e); ⟨v, q, p.xe⟩
  als := fun i l e => let ⟨a, vs, q, p, ni, nl, z⟩ := s.als i l (wipeX_al e); ⟨a, vs, q, p, ni, nl, z.xe⟩
  adj := fun i j l m a e1 e2 => s.adj i j l m a (wipeX_al e1) (wipeX_al e2)
  xns := fun i c fs e => (wipeX_xn e).elim
/-- .. where none was -/
theorem SR.xe0 (s : SR K ⟨f, P, w, none⟩ ρ I h H σT σ) : SR K ⟨f, P, w, y⟩ ρ I h H σT σ where
  len := s.len
  vs := fun i t e => let ⟨v, q, p⟩ := s.vs i t e; ⟨v, q, p.xe⟩
  als := fun i l e => let ⟨a, vs, q, p, ni, nl, z⟩ := s.als i l e; ⟨a, vs, q, p, ni, nl, z.xe⟩
  adj := s.adj
  xns := fun i c fs e => by obtain ⟨a, oe, C, z, _⟩ := s.xns i c fs e; cases z
theorem RS.xe {H0 : Hp} {v : V} {r : R} (q : RS K ⟨f, P, w, x⟩ ρ I h H H0 σT σ v r) : RS K ⟨f, P, w, y⟩ ρ I h H H0 σT σ v r := by
  cases r with
  | v t => exact Rep.xe q
  | al l => obtain ⟨a, vs, e, n, p, ni, nl, z⟩ := q; exact ⟨a, vs, e, n, p, ni, nl, z.xe⟩
  | bw i => exact q.elim
/-- behind an except clause -/
theorem NS.fin {g : Slots → Slots} {gs : St → St} {o : SO} {D : Ends} (n : NS K ⟨f, P, w, x⟩ W ρ I h H σT σ (o.fin g) D) (x0 : SExt ρ I h H σT σ ρ' I' h' H' σT' σ')
    (hg : ∀ {ρ : List Addr} {I : Addr → Prop} {h : Hs} {H : Hp} {σT : Slots} {σ : St}, SR K ⟨f, P, w, y⟩ ρ I h H σT σ → SR K ⟨f, P, w, x⟩ ρ I h H (g σT) (gs σ)) (ho : ∀ {σT : Slots} {σ : St} {a : Addr}, Own (g σT) (gs σ) a → Own σT σ a) :
    NS K ⟨f, P, w, y⟩ W' ρ' I' h' H' σT' σ' o { nx := fun σ H => D.nx (gs σ) H, rt := D.rt, bk := fun σ H => D.bk (gs σ) H, ct := fun σ H => D.ct (gs σ) H } := by
  cases o with
  | bad => exact n.elim
  | ex z σ3 h3 => exact n.elim
  | ok fl σ3 h3 =>
    intro ρ3 I3 H3 σ3' x3 r3 s3
    have xx : SExt ρ I h H σT σ ρ3 I3 h3 H3 (g σ3) (gs σ3') := { x0.trans x3 with onew := fun a o => (x0.trans x3).onew a (ho o) }
    have q := n ρ3 I3 H3 (gs σ3') xx r3.xe (hg s3)
    cases fl with
    | nx => exact q
    | brk => exact q
    | ct => exact q
    | ret r => exact fun v z => q v ((RS.xe z).back x0)
end
section
variable {X : Cx} {N : Nms} {Γ : Ctx} {k : Nat} {W : WX}
theorem Gd.trM (G : Gd X N Γ k W) (hh : N.hot = false) (pn : List (Addr × Obj)) (xe : Value → Shared → Prop) : (X.tr pn xe).M = X.M := (M_calm (X := X.tr pn xe) (G.calm hh)).trans (G.M hh).symm
/-- within a try's body -/
theorem Gs.tr (G : Gs X N Γ k W) (hh : N.hot = false) {W' : WX} {pn : List (Addr × Obj)} {xe : Value → Shared → Prop} (tk : Takes (X.tr pn xe) W') (po : PassesOwn (model X.prog X.w) X.A X.env xe) : Gs (X.tr pn xe) N Γ k W' :=
  { calm := G.calm, room := G.room, hu := G.hu, nd := G.nd, gl := G.gl, fn := G.fn, ix := G.ix, wd := G.wd, bl := G.bl, fr := G.fr, tk := tk, at_ := G.at_, mt := G.mt, ini := G.ini, sm := G.sm, om := G.om, xs := fun c fs e => ⟨⟨(G.xs c fs e).1.ok⟩, fun z => ⟨((G.xs c fs e).2 z).ok⟩⟩,
    xk := fun a oe e => by rw [G.trM hh, G.M hh] at e; cases e
    kind := G.kind, fnl := G.fnl, po := fun _ => po, stk := G.stk, frm := G.frm }
def Nms.heat (N : Nms) : Nms := ⟨N.n, N.fn, N.gl, true⟩
/-- within an except clause: nothing is called, nothing raised -/
theorem Gs.suite (G : Gs X N Γ k W) (a : Addr) (oe : Obj) (pn : List (Addr × Obj)) (hf : ∃ vs, oe.data = .fields vs) : Gs (X.suite a ((a, oe) :: pn)) N.heat Γ k NoW :=
  { calm := fun z => (nomatch z), room := fun z => (nomatch z), hu := G.hu, nd := G.nd, gl := G.gl, fn := G.fn, ix := G.ix, wd := G.wd, bl := G.bl, fr := G.fr, tk := fun u s' ⟨_, _, _, _, _, _, _, _, _, _, _, _, _, _, _, _, z⟩ => z, at_ := G.at_, mt := G.mt
    ini := fun c f e => by obtain ⟨C, a, fd, ps, j, h1, h2, h3, h4, h5⟩ := G.ini c f e; exact ⟨C, a, fd, ps, j, h1, h2, h3, fun z => (nomatch z), h5⟩
    sm := fun c f e => by obtain ⟨C, a, fd, ps, j, h1, h2, h3, h4, h5⟩ := G.sm c f e; exact ⟨C, a, fd, ps, j, h1, h2, h3, fun z => (nomatch z), h5⟩
    om := fun c m f e => by obtain ⟨C, a, fd, ps, j, h1, h2, h3, h4, h5⟩ := G.om c m f e; exact ⟨C, a, fd, ps, j, h1, h2, h3, fun z => (nomatch z), h5⟩
    xs := fun c fs e => ⟨⟨(G.xs c fs e).1.ok⟩, fun z => nomatch z⟩
    xk := fun a' oe' e => by
      have e : some (a, oe) = some (a', oe') := e
      cases e
      exact ⟨⟨X, pn, rfl⟩, hf⟩
    kind := G.kind, fnl := G.fnl, po := fun z => (nomatch z), stk := G.stk, frm := G.frm }
theorem s_try1 (G : Gs X N Γ k W) (hh : N.hot = false) {body suite : List S} {pb ps : List Stmt} {p0 : Stmt} {y : Str} {np pos pos' : Pos} (hy : y = ("ZeroDivisionError" : Str)) (hg : glbB X.env.scope y = true)
    (hb : ∀ {W' : WX} {pn : List (Addr × Obj)} {xe : Value → Shared → Prop}, Gs (X.tr pn xe) N Γ k W' → PSs (X.tr pn xe) pb (tS X.K (X.tr pn xe).M W' (evSs Γ body)))
    (hs : ∀ (a : Addr) (oe : Obj) (pn : List (Addr × Obj)), (∃ vs, oe.data = .fields vs) → PSs (X.suite a ((a, oe) :: pn)) (p0 :: ps) (tS X.K (X.suite a ((a, oe) :: pn)).M NoW (evSs Γ suite))) :
    PS X (.Try pb [.ExceptHandler (some (.Name y np)) none (p0 :: ps) pos'] [] [] pos) (tS X.K X.M W (evS Γ (.try1 "ZeroDivisionError" body suite))) := by
  subst hy
  have nm : Names X "ZeroDivisionError" (.type "ZeroDivisionError") := ⟨(glb_of hg).1, by decide, .inr ⟨G.fr _ (by decide +kernel), boot_ZeroDivisionError, by decide⟩⟩
  refine PS.imp (ps_try_only (c := .type "ZeroDivisionError") (tb := fun W' => tS X.K X.M W' (evSs Γ body)) (ts := fun a cls d => fun D σ H => ∀ oe, tS X.K ⟨X.mg, X.prog, X.w, some (a, oe)⟩ NoW (evSs Γ suite) D σ H) (Wout := W) G.stk G.frm nm G.tk (fun W' pn xe tk po => by
    have q := hb (G.tr hh tk po)
    rw [G.trM hh] at q
    exact q) (fun a oe cls d pn _ hf => PSs.imp (hs a oe pn hf) fun D σ H q => q oe)) ?_
  rintro D σ H ⟨ρ, I, σT, h, hr, sr, n⟩
  rw [evS] at n
  refine ⟨ρ, I, σT, h, hr, sr, ?_⟩
  cases eo : evSs Γ body σT h with
  | ok f σ2 h2 => rw [eo] at n; exact n
  | bad => rw [eo] at n; exact n.elim
  | ex x σ2 h2 =>
    rw [eo] at n
    cases x with
    | own c fs => exact n.elim
    | blt z =>
      rw [SO.catch_ex] at n
      split at n
      · rename_i hz
        subst hz
        intro cls d ρ' I' H' σ' x' r' s' xr
        cases (show cls = .type "ZeroDivisionError" from xr)
        refine ⟨true, by rfl, fun _ a _ oe => ?_, fun z => nomatch z⟩
        have eM := G.M hh
        rw [eM] at n r' s'
        refine ⟨ρ', I', σ2, h2, r'.xe, s'.xe0, ?_⟩
        exact NS.fin (gs := id) n x' (fun s => s.wipeX) fun ⟨i, l, e1, e2⟩ => ⟨i, l, wipeX_al e1, e2⟩
      · exact n.elim
/-- an own class, unnamed -/
theorem s_tryN (G : Gs X N Γ k W) (hh : N.hot = false) {body suite : List S} {pb ps : List Stmt} {p0 : Stmt} {c : Str} {np pos pos' : Pos} (hg : glbB X.env.scope c = true) {fns : List Str} (hc : Γ.cs.xs c = some fns)
    (hb : ∀ {W' : WX} {pn : List (Addr × Obj)} {xe : Value → Shared → Prop}, Gs (X.tr pn xe) N Γ k W' → PSs (X.tr pn xe) pb (tS X.K (X.tr pn xe).M W' (evSs Γ body)))
    (hs : ∀ (a : Addr) (oe : Obj) (pn : List (Addr × Obj)), (∃ vs, oe.data = .fields vs) → PSs (X.suite a ((a, oe) :: pn)) (p0 :: ps) (tS X.K (X.suite a ((a, oe) :: pn)).M NoW (evSs Γ suite))) :
    PS X (.Try pb [.ExceptHandler (some (.Name c np)) none (p0 :: ps) pos'] [] [] pos) (tS X.K X.M W (evS Γ (.tryN c body suite))) := by
  obtain ⟨C, hm, _, _, _, hx⟩ := (G.xs c fns hc).1
  have nm : Names X c (.ref C) := ⟨(glb_of hg).1, (plain_dbg (glb_of hg).2).1, .inl hm⟩
  refine PS.imp (ps_try_only (c := .ref C) (tb := fun W' => tS X.K X.M W' (evSs Γ body)) (ts := fun a cls d => fun D σ H => ∀ oe, tS X.K ⟨X.mg, X.prog, X.w, some (a, oe)⟩ NoW (evSs Γ suite) D σ H) (Wout := W) G.stk G.frm nm G.tk (fun W' pn xe tk po => by
    have q := hb (G.tr hh tk po)
    rw [G.trM hh] at q
    exact q) (fun a oe cls d pn _ hf => PSs.imp (hs a oe pn hf) fun D σ H q => q oe)) ?_
  rintro D σ H ⟨ρ, I, σT, h, hr, sr, n⟩
  rw [evS, hc, if_neg (by simp)] at n
  refine ⟨ρ, I, σT, h, hr, sr, ?_⟩
  cases eo : evSs Γ body σT h with
  | ok f σ2 h2 => rw [eo] at n; exact n
  | bad => rw [eo] at n; exact n.elim
  | ex x σ2 h2 =>
    rw [eo] at n
    cases x with
    | blt z => exact n.elim
    | own c' fs =>
      rw [SO.catchX_ex] at n
      split at n
      · rename_i hz
        subst hz
        intro cls d ρ' I' H' σ' x' r' s' xr
        obtain ⟨C', hm', rfl, _⟩ := xr
        have hm2 : X.mg c' = some (.ref C') := hm'
        rw [hm2] at hm
        cases hm
        refine ⟨true, hx, fun _ a _ oe => ?_, fun z => nomatch z⟩
        have eM := G.M hh
        rw [eM] at n r' s'
        refine ⟨ρ', I', σ2, h2, r'.xe, s'.xe0, ?_⟩
        exact NS.fin (gs := id) n x' (fun s => s.wipeX) fun ⟨i, l, e1, e2⟩ => ⟨i, l, wipeX_al e1, e2⟩
      · exact n.elim
end
end VY
namespace VY
open PySem PySem.Spec
open PyProof.Rows hiding St
open L2
section
variable {K : PySem.W.Frag} {f : Str → Option Value} {P : Program} {w : World} {mg : Mg} {ρ ρ' : List Addr} {I I' : Addr → Prop} {h h' : Hs} {H H' : Hp} {σT σT' : Slots} {σ σ' : St} {W W' : WX}
theorem xnS_al {c : Str} {fs : List (Str × T)} {l : List T} (e : xnS c fs = some (.al l)) : False := by
  unfold xnS at e; split at e <;> cases e
theorem xnS_v {c : Str} {fs : List (Str × T)} {t : T} (e : xnS c fs = some (.v t)) : False := by
  unfold xnS at e; split at e <;> cases e
/-- a slot takes the exception -/
theorem SR.setX (s : SR K mg ρ I h H σT σ) {c : Str} {fs : List (Str × T)} {a : Addr} {oe : Obj} {C : Addr} (ex : mg.xe = some (a, oe)) (hm : mg c = some (.ref C)) (hc : oe.cls = .ref C)
    (hd : fs ≠ [] → ∃ dd vs, oe.dict = some dd ∧ I dd ∧ H dd = some (.xd vs) ∧ RepF K mg ρ I H vs fs) (i : Nat) : SR K mg ρ I h H (σT.set i (xnS c fs)) (σ.set i (some (.ref a))) where
  len := by rw [List.length_set, List.length_set]; exact s.len
  vs := fun j u e => by
    rcases get_set e with ⟨_, _, z⟩ | ⟨c, z⟩
    · exact (xnS_v z).elim
    · rw [List.getElem?_set_ne c]; exact s.vs j u z
  als := fun j m e => by
    rcases get_set e with ⟨_, _, z⟩ | ⟨c, z⟩
    · exact (xnS_al z).elim
    · rw [List.getElem?_set_ne c]; exact s.als j m z
  adj := fun j j' m m' b e1 e2 e3 e4 => by
    rcases get_set e1 with ⟨_, _, z⟩ | ⟨c, z⟩
    · exact (xnS_al z).elim
    · rcases get_set e2 with ⟨_, _, z'⟩ | ⟨c', z'⟩
      · exact (xnS_al z').elim
      · rw [List.getElem?_set_ne c] at e3
        rw [List.getElem?_set_ne c'] at e4
        exact s.adj j j' m m' b z z' e3 e4
  xns := fun j c' fs' e => by
    rcases get_set e with ⟨c, hi, z⟩ | ⟨c, z⟩
    · subst c
      unfold xnS at z
      split at z
      · cases z
      · rename_i ne
        cases z
        obtain ⟨dd, vs, h1, h2, h3, h4⟩ := hd (fun z => ne (by rw [z]; rfl))
        exact ⟨a, oe, C, ex, List.getElem?_set_self (by rw [← s.len]; exact hi), hm, hc, dd, vs, h1, h2, h3, h4⟩
    · exact (s.xns j c' fs' z).mono ⟨fun _ _ z => z, fun _ z => z, fun _ _ => rfl⟩ fun a q => by rw [List.getElem?_set_ne c]; exact q
theorem own_setX {i : Nat} {c : Str} {fs : List (Str × T)} {v : V} {a : Addr} (o : Own (σT.set i (xnS c fs)) (σ.set i (some v)) a) : Own σT σ a := by
  obtain ⟨j, l, e1, e2⟩ := o
  rcases get_set e1 with ⟨_, _, z⟩ | ⟨c, z⟩
  · exact (xnS_al z).elim
  · rw [List.getElem?_set_ne c] at e2; exact ⟨j, l, z, e2⟩
theorem repF_append : ∀ {vs ws : List (Str × V)} {l m : List (Str × T)}, RepF K mg ρ I H vs l → RepF K mg ρ I H ws m → RepF K mg ρ I H (vs ++ ws) (l ++ m)
  | [], _, [], _, _, b => b
  | _ :: _, _, (_, _) :: _, _, ⟨e, x, a⟩, b => ⟨e, x, repF_append a b⟩
theorem repF_zip : ∀ {fs : List Str} {vs : List V} {ts : List T}, Reps K mg ρ I H vs ts → RepF K mg ρ I H (fs.zip vs) (fs.zip ts)
  | [], _, _, _ => by simp [List.zip]; exact trivial
  | _ :: _, [], [], _ => trivial
  | f :: fs, v :: vs, t :: ts, ⟨a, b⟩ => ⟨rfl, a, repF_zip b⟩
theorem repF_rev : ∀ {vs : List (Str × V)} {l : List (Str × T)}, RepF K mg ρ I H vs l → RepF K mg ρ I H vs.reverse l.reverse
  | [], [], _ => trivial
  | v :: vs, (k, t) :: l, ⟨e, a, b⟩ => by
    rw [List.reverse_cons, List.reverse_cons]
    exact repF_append (repF_rev b) (ws := [v]) (m := [(k, t)]) ⟨e, a, trivial⟩
theorem repF_put (g : Str) {v : V} {t : T} (r : Rep K mg ρ I H v t) : ∀ {vs : List (Str × V)} {l : List (Str × T)}, RepF K mg ρ I H vs l → RepF K mg ρ I H (putF g v vs) (putA g t l)
  | [], [], _ => ⟨rfl, r, trivial⟩
  | (g1, v1) :: vs, (g2, t1) :: l, ⟨e, a, b⟩ => by
    have e : g1 = g2 := e
    subst e
    unfold putF putA
    by_cases c : g1 = g
    · rw [if_pos c, if_pos c]; exact ⟨rfl, r, b⟩
    · rw [if_neg c, if_neg c]; exact ⟨rfl, a, repF_put g r b⟩
theorem repF_len : ∀ {vs : List (Str × V)} {l : List (Str × T)}, RepF K mg ρ I H vs l → vs.length = l.length
  | [], [], _ => rfl
  | _ :: _, (_, _) :: _, ⟨_, _, b⟩ => congrArg (· + 1) (repF_len b)
end
section
variable {X : Cx} {N : Nms} {Γ : Ctx} {k : Nat} {W : WX}
/-- an own class, named -/
theorem s_tryX (G : Gs X N Γ k W) (hh : N.hot = false) {body suite : List S} {pb ps : List Stmt} {p0 : Stmt} {c y : Str} {i : Nat} {np pos pos' : Pos} (hi : X.N[i]? = some y) (hy : X.env.scope.names.lookup y = some .local) (hg : glbB X.env.scope c = true) {fns : List Str} (hc : Γ.cs.xs c = some fns)
    (hb : ∀ {W' : WX} {pn : List (Addr × Obj)} {xe : Value → Shared → Prop}, Gs (X.tr pn xe) N Γ k W' → PSs (X.tr pn xe) pb (tS X.K (X.tr pn xe).M W' (evSs Γ body)))
    (hs : ∀ (a : Addr) (oe : Obj) (pn : List (Addr × Obj)), (∃ vs, oe.data = .fields vs) → PSs (X.suite a ((a, oe) :: pn)) (p0 :: ps) (tS X.K (X.suite a ((a, oe) :: pn)).M NoW (evSs Γ suite))) :
    PS X (.Try pb [.ExceptHandler (some (.Name c np)) (some y) (p0 :: ps) pos'] [] [] pos) (tS X.K X.M W (evS Γ (.tryX i c body suite))) := by
  obtain ⟨C, hm, _, _, _, hx⟩ := (G.xs c fns hc).1
  have nm : Names X c (.ref C) := ⟨(glb_of hg).1, (plain_dbg (glb_of hg).2).1, .inl hm⟩
  refine PS.imp (ps_try_as (i := i) (c := .ref C) (tb := fun W' => tS X.K X.M W' (evSs Γ body)) (ts := fun a cls d => fun D σ H => ∀ oe, Zc cls d oe → tS X.K ⟨X.mg, X.prog, X.w, some (a, oe)⟩ NoW (evSs Γ suite) D σ H) (Wout := W) G.stk G.frm G.nd hi hy nm G.tk (fun W' pn xe tk po => by
    have q := hb (G.tr hh tk po)
    rw [G.trM hh] at q
    exact q) (fun a oe cls d pn hz hf => PSs.imp (hs a oe pn hf) fun D σ H q => q oe hz)) ?_
  rintro D σ H ⟨ρ, I, σT, h, hr, sr, n⟩
  rw [evS, hc, if_neg (by simp)] at n
  refine ⟨ρ, I, σT, h, hr, sr, ?_⟩
  cases eo : evSs Γ body σT h with
  | ok f σ2 h2 => rw [eo] at n; exact n
  | bad => rw [eo] at n; exact n.elim
  | ex x σ2 h2 =>
    rw [eo] at n
    cases x with
    | blt z => exact n.elim
    | own c' fs =>
      rw [SO.catchX_ex] at n
      split at n
      · rename_i hz
        subst hz
        intro cls d ρ' I' H' σ' x' r' s' xr
        obtain ⟨C', hm', rfl, hfs⟩ := xr
        have hm2 : X.mg c' = some (.ref C') := hm'
        rw [hm2] at hm
        cases hm
        refine ⟨true, hx, fun _ a _ oe hz => ?_, fun z => nomatch z⟩
        have eM := G.M hh
        rw [eM] at n r' s' hfs
        have s2 : SR X.K ⟨X.mg, X.prog, X.w, some (a, oe)⟩ ρ' I' h2 H' σ2 σ' := s'.xe0
        have s3 := s2.setX (c := c') (fs := fs) rfl hm2 hz.1 (fun ne => by
          obtain ⟨dd, vs, h1, h2, h3, h4⟩ := hfs ne
          exact ⟨dd, vs, hz.2.trans h1, h2, h3, RepF.xe h4⟩) i
        refine ⟨ρ', I', σ2.set i (xnS c' fs), h2, r'.xe, s3, ?_⟩
        have x2 : SExt ρ I h H σT σ ρ' I' h2 H' (σ2.set i (xnS c' fs)) (σ'.set i (some (.ref a))) := { x' with onew := fun b o => x'.onew b (own_setX o) }
        exact NS.fin (gs := fun σ => σ.set i none) n x2 (fun s => s.wipeX.clr i none) fun ⟨j, l, e1, e2⟩ => by
          rcases get_set e1 with ⟨_, _, z⟩ | ⟨cc, z⟩
          · cases z
          · rw [List.getElem?_set_ne cc] at e2; exact ⟨j, l, wipeX_al z, e2⟩
      · exact n.elim
/-- raise C(e, ..) -/
theorem s_rse (G : Gs X N Γ k W) (hh : N.hot = false) {c : Str} {es : List E} {p0 : Expr} {xs : List Expr} {p pos pos2 : Pos} (hg : glbB X.env.scope c = true) (hes : PA X (p0 :: xs) (tEs X.K X.M W (evEs Γ es))) (ns : (p0 :: xs).all notStar = true) :
    PS X (.Raise (some (.Call (.Name c p) (p0 :: xs) [] pos2)) none pos) (tS X.K X.M W (evS Γ (.rse c es))) := by
  refine ⟨fun pins s σ H D I q => ?_⟩
  have n0 := q
  cases hx : Γ.cs.xs c with
  | none =>
    obtain ⟨ρ, I0, σT, h, hr, sr, n⟩ := q
    rw [evS, hx] at n
    exact n.elim
  | some fns =>
    obtain ⟨⟨C, hm, T0, _, hfn, _⟩, hI⟩ := G.xs c fns hx
    obtain ⟨C', fI, fd, ps, j, hm', iC, tI, F, rm, bd⟩ := hI hh
    rw [hm] at hm'
    cases hm'
    have ns' : (notStar p0 && xs.all notStar) = true := by rw [← List.all_cons]; exact ns
    refine (ps_raise (G.calm hh) G.tk (pmk_oex T0 iC tI F rm bd .nil (passes_call G.tk fun _ _ _ _ z => z.elim) (glb_of hg).1 hm hes (plain_dbg (glb_of hg).2).1 (star_eq (and_tt ns').1) (star_any (and_tt ns').2))).run pins s σ H D I ?_
    obtain ⟨ρ, I0, σT, h, hr, sr, n⟩ := q
    rw [evS, hx] at n
    refine ⟨ρ, I0, σT, h, hr, sr, (n.sb sr hr).imp fun ts h1 ρ1 I1 H1 x1 r1 n1 vs q => ?_⟩
    replace n1 : NS X.K X.M W ρ I0 h H σT σ (if ts.length = fns.length ∧ ts ≠ [] ∧ ts.length ≤ 900 then SO.ex (.own c (fns.zip ts).reverse) σT h1 else .bad) D := n1
    split at n1
    · rename_i hl
      obtain ⟨hl, hne, hl9⟩ := hl
      have hvl := q.length
      refine ⟨by omega, fun a ha => ?_⟩
      rw [List.append_nil]
      have hfne : fns ≠ [] := fun z => hne (List.eq_nil_of_length_eq_zero (by rw [hl, z]; rfl))
      refine ⟨by rw [List.length_cons]; omega, a, vs, rfl, hfne, by omega, upd_same, fun d hd hda => ?_⟩
      rw [upd_ne hda] at hd
      refine ⟨rfl, d, (fns.zip vs).reverse, upd_same, by rw [upd_ne hda, upd_same], hd, ?_⟩
      have eh : upd (del (upd (upd (upd H1 a (exo a C none)) d (exd d (fns.zip vs).reverse)) a (exo a C (some d))) a) d (HO.xd (fns.zip vs).reverse) = upd H1 d (.xd (fns.zip vs).reverse) := by
        funext b
        by_cases hb : b = d
        · subst hb; rw [upd_same, upd_same]
        · rw [upd_ne hb, upd_ne hb]
          by_cases hba : b = a
          · subst hba; rw [del_same, ha]
          · rw [del_ne hba, upd_ne hba, upd_ne hb, upd_ne hba]
      rw [eh]
      have e1 : Ext ρ1 I1 h1 H1 ρ1 (Iw I1 d) h1 (upd H1 d (.xd (fns.zip vs).reverse)) := ext_imm _ hd
      have xx := x1.trans e1
      refine n1 (.ref C) (some d) ρ1 (Iw I1 d) _ σ (.of xx) (hr_imm _ r1 hd) (sr.ext hr xx) ⟨C, hm, rfl, fun _ => ⟨d, (fns.zip vs).reverse, rfl, .inr rfl, upd_same, ?_⟩⟩
      exact RepF.mono (e1.kp r1) (repF_rev (repF_zip q))
    · exact n1.elim
theorem swaps_att {e : Expr} {o : Expr} {f : Str} {p : Pos} {n : Nat} {env : Env} : swapsWith e (some (.Attribute o f p)) n env = pure false := by cases e <;> rfl
/-- o.f = e -/
theorem s_setA (G : Gs X N Γ k W) {e o : E} {f : Str} {pe po : Expr} {p pos : Pos} (he : PE X pe (tD X.K X.M W (evE Γ e))) (ho : PE X po (tD X.K X.M W (evE Γ o))) : PS X (.Assign [.Attribute po f p] pe pos) (tS X.K X.M W (evS Γ (.setA o f e))) := by
  refine PS.imp (ps_fld ho he swaps_att) ?_
  rintro D σ H ⟨ρ, I, σT, h, hr, sr, n⟩
  rw [evS] at n
  refine ⟨ρ, I, σT, h, hr, sr, (n.sb sr hr).imp' fun r h1 ρ1 I1 H1 x1 r1 n0 v o1 => ?_⟩
  cases z : frz r with
  | none =>
    have n1 := n0 ρ1 I1 H1 x1 r1
    have s1 := sr.ext hr x1
    refine ⟨ρ1, I1, σT, h1, r1, s1, (n1.sb' (.of x1) s1 r1).imp fun x h2 ρ2 I2 H2 x2 r2 n2 u o2 => ?_⟩
    unfold setF at n2
    rw [z] at n2
    exact n2.elim
  | some t =>
    obtain ⟨J1, y1, q1, rp⟩ := o1.keep x1 r1 z
    have n1 := n0 ρ1 J1 H1 y1 q1
    have s1 := sr.ext hr y1
    refine ⟨ρ1, J1, σT, h1, q1, s1, (n1.sb' (.of y1) s1 q1).imp fun x h2 ρ2 I2 H2 x2 r2 n2 u o2 => ?_⟩
    have s2 := s1.ext q1 x2
    have xx := y1.trans x2
    have rp2 := rp.mono (x2.kp q1)
    unfold setF at n2
    rw [z] at n2
    cases x with
    | al _ => exact n2.elim
    | bw _ => exact n2.elim
    | v tx =>
      cases tx <;> try exact (show False from n2).elim
      rename_i m
      obtain ⟨a, rfl, ea⟩ := (show ∃ a, u = .ref a ∧ ρ2[m]? = some a from o2)
      replace n2 : NS X.K X.M W ρ I h H σT σ (match (match h2[m]? with
        | some (.ins c fs) => if Γ.cs.at_ c f = true ∧ fs.length < 1000 then some (h2.set m (.ins c (putA f t fs))) else none
        | _ => none) with
        | some h3 => SO.ok .nx σT h3
        | none => .bad) D := n2
      split at n2
      · rename_i h3 e3
        split at e3
        · rename_i c fs el
          obtain ⟨⟨hc, hz⟩, rfl⟩ := ite_some e3
          obtain ⟨C, dx, ws, hm, ha, wv⟩ := r2.obj m _ a el ea
          obtain ⟨C', hm', cl, na⟩ := G.at_ c f hc
          have hm2 : X.mg c = some (.ref C) := hm
          rw [hm2] at hm'
          cases hm'
          have nd : HOb.ins c fs ≠ .dead := fun z => by cases z
          have nd' : HOb.ins c (putA f t fs) ≠ .dead := fun z => by cases z
          refine ⟨a, C, dx, ws, rfl, ha, cl, na, by rw [repF_len wv]; exact hz, ?_⟩
          exact n2.nx ρ2 I2 _ σ (ext_set (.of xx) ea el nd) (hr_set r2 ea el nd nd' fun H' kp up => ⟨C, dx, _, hm, up, RepF.mono ⟨fun _ _ e => e, fun _ e => e, kp⟩ (repF_put f rp2 wv)⟩) (sr_set s2 r2 ea el nd)
        · cases e3
      · exact n2.elim
end
end VY
namespace VY
open PySem PySem.Spec
open PyProof.Rows hiding St
open L2
def setVs : List Nat → List V → St → St
  | i :: is, v :: vs, σ => setVs is vs (σ.set i (some v))
  | _, _, σ => σ
variable (sc : Scope) (nm : List Str)
def mStar : List Nat → Nat → List Expr → Bool
  | [], i, es => (match es with
    | [.Starred (.Name x _) _] => decide (nm[i]? = some x) && locB sc x
    | _ => false)
  | j :: js, i, es => (match es with
    | .Name x _ :: es => decide (nm[j]? = some x) && locB sc x && mStar js i es
    | _ => false)
def notTup : Expr → Bool
  | .Tuple .. => false
  | _ => true
section
variable {X : Cx}
theorem pgs_star {hs : ∀ x, locB X.env.scope x = true → Loc X.env.scope x ∧ (X.fn x = true ∨ X.env.scope.names.lookup x = some .local)} (hN : X.N.Nodup) : ∀ (js : List Nat) (i : Nat) (es : List Expr), mStar X.env.scope X.N js i es = true →
    PGs X es (fun vs σ H Q => vs.length = js.length + 1 ∧ Q (setVs (js ++ [i]) vs σ) H) ∧ (assignEach es X.env).length = js.length + 1 ∧ (assignEach es X.env).findIdx? (·.1) = some js.length
  | [], i, es, m => by
    unfold mStar at m
    split at m
    · rename_i x p p'
      have q := and_tt m
      have hl := hs x q.2
      have one := pg_name (pos := p) hN (of_decide_eq_true q.1) hl.1 hl.2
      refine ⟨⟨fun pins s σ H vs us Q I r hh => ?_⟩, rfl, rfl⟩
      obtain ⟨hlen, hq⟩ := hh
      match vs, r, hlen with
      | [v], .cons rv rt, _ =>
        cases rt
        rw [show (assignEach [.Starred (.Name x p) p'] X.env).map (·.2) = [assign (.Name x p) X.env] from rfl]
        exact assignInOrder_cons (thn (one.run pins s σ H v _ _ I rv hq) fun _ s1 ⟨σ1, H1, I1, q1⟩ => wpAny_pure ⟨σ1, H1, I1, q1⟩)
    · exact ff m
  | j :: js, i, es, m => by
    unfold mStar at m
    split at m
    · rename_i x p es'
      have q := and_tt m
      have q1 := and_tt q.1
      have hl := hs x q1.2
      have one := pg_name (pos := p) hN (of_decide_eq_true q1.1) hl.1 hl.2
      obtain ⟨h1, h2, h3⟩ := pgs_star (hs := hs) hN js i es' q.2
      refine ⟨⟨fun pins s σ H vs us Q I r hh => ?_⟩, ?_, ?_⟩
      · obtain ⟨hlen, hq⟩ := hh
        match vs, r, hlen with
        | v :: vs', .cons rv rt, hlen =>
          exact (pgs_cons one h1).run pins s σ H (v :: vs') _ Q I (.cons rv rt) ⟨v, vs', rfl, by simpa using hlen, hq⟩
      · show (assignEach es' X.env).length + 1 = _
        rw [h2]; rfl
      · show ((false, assign (.Name x p) X.env) :: assignEach es' X.env).findIdx? (·.1) = _
        rw [List.findIdx?_cons, h3]
        rfl
    · exact ff m
end
section
variable {K : PySem.W.Frag} {mg : Mg} {ρ ρ' : List Addr} {I I' : Addr → Prop} {h h' : Hs} {H H' : Hp} {σT σT' : Slots} {σ σ' : St}
theorem SR.setsV : ∀ (js : List Nat) {ts : List T} {vs : List V} {σT : Slots} {σ : St}, SR K mg ρ I h H σT σ → Reps K mg ρ I H vs ts → SR K mg ρ I h H (VY.setsV js ts σT) (setVs js vs σ)
  | [], ts, vs, σT, σ, s, q => by unfold VY.setsV setVs; exact s
  | j :: js, [], [], σT, σ, s, q => s
  | j :: js, t :: ts, v :: vs, σT, σ, s, ⟨a, b⟩ => SR.setsV js (s.set a j) b
theorem own_setsV : ∀ (js : List Nat) {ts : List T} {vs : List V} {σT : Slots} {σ : St} {a : Addr}, Reps K mg ρ I H vs ts → Own (VY.setsV js ts σT) (setVs js vs σ) a → Own σT σ a
  | [], ts, vs, σT, σ, a, q, o => by unfold VY.setsV setVs at o; exact o
  | j :: js, [], [], σT, σ, a, q, o => o
  | j :: js, t :: ts, v :: vs, σT, σ, a, ⟨_, b⟩, o => own_set (own_setsV js b o)
theorem setVs_snoc : ∀ (js : List Nat) (i : Nat) (vs : List V) (v : V) (σ : St), vs.length = js.length → setVs (js ++ [i]) (vs ++ [v]) σ = (setVs js vs σ).set i (some v)
  | [], i, [], v, σ, _ => rfl
  | j :: js, i, w :: vs, v, σ, e => setVs_snoc js i vs v _ (by simpa using e)
theorem setsV_take : ∀ (js : List Nat) (ts : List T) (σT : Slots), VY.setsV js (ts.take js.length) σT = VY.setsV js ts σT
  | [], ts, σT => by simp [VY.setsV]
  | j :: js, [], σT => rfl
  | j :: js, t :: ts, σT => setsV_take js ts _
end
section
variable {X : Cx} {N : Nms} {Γ : Ctx} {k : Nat} {W : WX}
theorem s_asgR (G : Gs X N Γ k W) (hh : N.hot = false) {js : List Nat} {i : Nat} {e : E} {pe : Expr} {es : List Expr} {kk : Nat} {tp pos : Pos} (hm : mStar X.env.scope X.N js i es = true) (he : PE X pe (tD X.K X.M W (evE Γ e))) (hw : swappedStores [.Tuple es kk tp] pe X.env = pure none) (hs : swapsWithSole [.Tuple es kk tp] pe pos.line X.env = pure false) :
    PS X (.Assign [.Tuple es kk tp] pe pos) (tS X.K X.M W (evS Γ (.asgR js i e))) := by
  obtain ⟨pg, p1, p2⟩ := pgs_star (hs := G.loc) G.nd js i es hm
  refine PS.imp (ps_asg he (pg_star (G.calm hh) pg p1 p2) hs hw rfl) ?_
  rintro D σ H ⟨ρ, I, σT, h, hr, sr, n⟩
  rw [evS] at n
  refine ⟨ρ, I, σT, h, hr, sr, (n.sb sr hr).imp fun r h1 ρ1 I1 H1 x1 r1 n1 v o1 => ?_⟩
  have s1 := sr.ext hr x1
  cases ep : peek σT h1 r with
  | none => rw [ep] at n1; exact n1.elim
  | some t =>
    rw [ep] at n1
    replace n1 : NS X.K X.M W ρ I h H σT σ (liftS ((seqT t).bind fun l => starS js i l σT) h1) D := n1
    cases el : seqT t with
    | none => rw [el] at n1; exact n1.elim
    | some l =>
      rw [el] at n1
      replace n1 : NS X.K X.M W ρ I h H σT σ (liftS (starS js i l σT) h1) D := n1
      unfold starS at n1
      split at n1
      · rename_i hle
        have pk := o1.pk s1 r1 ep
        have src : ∃ a vs, v = .ref a ∧ (SqT X.K H1 a vs ∨ SqL X.K H1 a vs) ∧ Reps X.K X.M ρ1 I1 H1 vs l := by
          cases t <;> cases el
          · obtain ⟨a, vs, rfl, s, w⟩ := (show ∃ a vs, v = .ref a ∧ ((I1 a ∧ Rd H1 a (.tup vs)) ∨ StT X.K a vs) ∧ Reps X.K X.M ρ1 I1 H1 vs l from pk)
            exact ⟨a, vs, rfl, .inl (s.elim (fun u => .inl u.2) .inr), w⟩
          · obtain ⟨a, vs, rfl, s, w⟩ := pk
            exact ⟨a, vs, rfl, .inr (SqL.of s), w⟩
          · obtain ⟨a, vs, rfl, s, w⟩ := (show ∃ a vs, v = .ref a ∧ ((I1 a ∧ Rd H1 a (.lst vs)) ∨ StL X.K a vs) ∧ Reps X.K X.M ρ1 I1 H1 vs l from pk)
            exact ⟨a, vs, rfl, .inr (s.elim (fun u => .inl u.2) .inr), w⟩
        obtain ⟨a, vs, rfl, sq, w⟩ := src
        have lw := w.length
        refine ⟨a, vs, rfl, sq, by omega, fun p hp => ⟨by simp; omega, ?_⟩⟩
        rw [setVs_snoc _ _ _ _ _ (by simp; omega)]
        have wt := w.take js.length
        have s2 := SR.setsV js s1 wt
        rw [setsV_take] at s2
        have e2 : Ext ρ1 I1 h1 H1 ρ1 I1 h1 (upd H1 p (.lst (vs.drop js.length))) := ext_new _ hp
        have r3 := hr_new (.lst (vs.drop js.length)) r1 hp
        have s3 := s2.ext r1 e2
        have ni : ¬ I1 p := fun z => not_none (r1.idom p z) hp
        have nl : ¬ Live ρ1 h1 p := fun z => not_none (live_some r1 z) hp
        have s4 := s3.setA (a := p) upd_same ni nl ((w.drop js.length).mono (e2.kp r1)) i fun j m _ q1 q2 => by
          obtain ⟨a', _, q, p', _⟩ := s2.als j m q1
          rw [q2] at q
          cases q
          rw [hp] at p'
          cases p'
        refine n1.nx ρ1 I1 _ _ { (SExt.of (x1.trans e2) : SExt ρ I h H σT σ ρ1 I1 h1 _ σT σ) with onew := fun b o => ?_ } r3 s4
        rcases own_setA o with o | o
        · refine .inl (own_setsV js wt (by rw [setsV_take]; exact o))
        · subst o; exact .inr (none_back x1 hp)
      · exact n1.elim
theorem putF_same {f : Str} {v : V} : ∀ {ws : List (Str × V)}, ws.lookup f = some v → putF f v ws = ws
  | [], e => nomatch e
  | (g, x) :: ws, e => by
    unfold putF
    by_cases c : g = f
    · subst c
      rw [if_pos rfl]
      simp only [List.lookup, beq_self_eq_true] at e
      cases e; rfl
    · rw [if_neg c]
      have cb : (f == g) = false := by simpa using fun z : f = g => c z.symm
      simp only [List.lookup, cb] at e
      rw [putF_same e]
/-- a field's dict stays as it is from now on -/
theorem s_lkf {j : Nat} {f : Str} {ss : List S} {pss : List Stmt} (h2 : PSs X pss (tS X.K X.M W (evSs Γ ss))) : PSs X pss (tS X.K X.M W (evSs Γ (.lkf j f :: ss))) := by
  refine ⟨fun pins s σ H D J q => ?_⟩
  obtain ⟨ρ, I, σT, h, hr, sr, n⟩ := q
  rw [evSs, evS] at n
  cases el : lkfS σT j f h with
  | none => rw [el] at n; exact n.elim
  | some h' =>
    rw [el] at n
    unfold lkfS at el
    split at el
    · rename_i a0 e1
      split at el
      · rename_i c fs e2
        split at el
        · rename_i m e3
          split at el
          · rename_i l e4
            cases el
            obtain ⟨v, ev, a, rfl, ea⟩ := sr.vs j _ e1
            obtain ⟨C, dx, ws, hm, ha, w⟩ := hr.obj a0 _ a e2 ea
            obtain ⟨v', lv', d, rfl, ed⟩ := (repF_look w).1 _ e3
            obtain ⟨vs, hd, wd⟩ := hr.obj m _ d e4 ed
            have lvd : Live ρ h d := ⟨m, _, ed, e4, fun z => nomatch z⟩
            have nid : ¬ I d := hr.dis d lvd
            have nm : a0 ≠ m := fun z => by subst z; rw [e2] at e4; cases e4
            have hml : m < h.length := (List.getElem?_eq_some_iff.mp e4).1
            have hnl : a0 < h.length := (List.getElem?_eq_some_iff.mp e2).1
            obtain ⟨od, J1⟩ := J.lock hd trivial
            have kp : Kp ρ I H ρ (Iw I d) (upd H d (.frz od (.dK vs))) := ⟨fun _ _ e => e, fun _ e => .inl e, fun b i => upd_ne fun z => nid (z ▸ i)⟩
            have ad : a ≠ d := fun z => by rw [z, hd] at ha; cases ha
            -- where the objects are
            have look : ∀ (k : Nat) (o : HOb), ((h.set m .dead).set a0 (.ins c (putA f (.dct l) fs)))[k]? = some o → (k = a0 ∧ o = .ins c (putA f (.dct l) fs)) ∨ (k = m ∧ o = .dead) ∨ (k ≠ a0 ∧ k ≠ m ∧ h[k]? = some o) := fun k o e => by
              by_cases c1 : a0 = k
              · subst c1
                rw [List.getElem?_set_self (by rw [List.length_set]; exact hnl)] at e
                exact .inl ⟨rfl, (Option.some.inj e).symm⟩
              · rw [List.getElem?_set_ne c1] at e
                by_cases c2 : m = k
                · subst c2
                  rw [List.getElem?_set_self hml] at e
                  exact .inr (.inl ⟨rfl, (Option.some.inj e).symm⟩)
                · rw [List.getElem?_set_ne c2] at e
                  exact .inr (.inr ⟨fun z => c1 z.symm, fun z => c2 z.symm, e⟩)
            have back : ∀ (k : Nat) (o : HOb), ((h.set m .dead).set a0 (.ins c (putA f (.dct l) fs)))[k]? = some o → o ≠ .dead → k ≠ m ∧ ∃ o', h[k]? = some o' ∧ o' ≠ .dead := fun k o e nd => by
              rcases look k o e with ⟨rfl, _⟩ | ⟨_, z⟩ | ⟨_, z2, z⟩
              · exact ⟨nm, _, e2, fun z => nomatch z⟩
              · exact (nd z).elim
              · exact ⟨z2, o, z, nd⟩
            have lv : ∀ b, Live ρ ((h.set m .dead).set a0 (.ins c (putA f (.dct l) fs))) b → Live ρ h b ∧ b ≠ d := fun b ⟨k, o, f1, f2, nd⟩ => by
              obtain ⟨km, o', f3, nd'⟩ := back k o f2 nd
              refine ⟨⟨k, o', f1, f3, nd'⟩, fun z => ?_⟩
              subst z
              exact km (hr.inj k m b o' _ f1 ed f3 e4 nd' fun z => nomatch z)
            have r' : HR X.K X.M ρ (Iw I d) ((h.set m .dead).set a0 (.ins c (putA f (.dct l) fs))) (upd H d (.frz od (.dK vs))) := by
              refine ⟨by rw [List.length_set, List.length_set]; exact hr.len, fun k k' b o o' f1 f2 f3 f4 n1 n2 => ?_, fun b z i => ?_, fun b i => ?_, fun k o b f1 f2 => ?_⟩
              · obtain ⟨_, p, g1, g2⟩ := back k o f3 n1
                obtain ⟨_, p', g1', g2'⟩ := back k' o' f4 n2
                exact hr.inj k k' b p p' f1 f2 g1 g1' g2 g2'
              · obtain ⟨l1, l2⟩ := lv b z
                exact i.elim (hr.dis b l1) l2
              · exact i.elim (fun z => upd_dom (hr.idom b z)) fun z => by rw [z]; exact isSome_of upd_same
              · rcases look k o f1 with ⟨rfl, rfl⟩ | ⟨_, rfl⟩ | ⟨z1, z2, z⟩
                · rw [ea] at f2
                  cases f2
                  refine ⟨C, dx, ws, hm, by rw [upd_ne ad]; exact ha, ?_⟩
                  have rp : Rep X.K X.M ρ (Iw I d) (upd H d (.frz od (.dK vs))) (.ref d) (.dct l) := ⟨d, od, vs, rfl, .inr rfl, upd_same, wd.mono kp⟩
                  have q := repF_put f rp (w.mono kp)
                  rw [putF_same lv'] at q
                  exact q
                · trivial
                · refine (hr.obj k o b z f2).mono kp fun nd => upd_ne fun y => ?_
                  subst y
                  exact z2 (hr.inj k m b o _ f2 ed z e4 nd fun z => nomatch z)
            have x : SExt ρ I h H σT σ ρ (Iw I d) ((h.set m .dead).set a0 (.ins c (putA f (.dct l) fs))) (upd H d (.frz od (.dK vs))) σT σ :=
              ⟨fun _ _ e => e, fun _ e => .inl e, fun b _ nl _ => upd_ne fun z => nl (z ▸ lvd), fun b e => upd_dom e, fun b i => i.elim .inl fun z => .inr (.inr (.inl (z ▸ lvd))), fun b l => .inl (lv b l).1, fun b o => .inl o⟩
            have s' : SR X.K X.M ρ (Iw I d) ((h.set m .dead).set a0 (.ins c (putA f (.dct l) fs))) (upd H d (.frz od (.dK vs))) σT σ := by
              refine ⟨sr.len, fun i t e => let ⟨v, q, p⟩ := sr.vs i t e; ⟨v, q, p.mono kp⟩, fun i l e => ?_, sr.adj, fun i c fs e => (sr.xns i c fs e).mono kp fun _ z => z⟩
              obtain ⟨b, vs, q, p, ni, nl, w⟩ := sr.als i l e
              have bd : b ≠ d := fun z => nl (by rw [z]; exact lvd)
              exact ⟨b, vs, q, (upd_ne bd).trans p, fun z => z.elim ni bd, fun z => nl (lv b z).1, w.mono kp⟩
            refine h2.run pins s σ _ D J1 ⟨ρ, Iw I d, σT, _, r', s', ?_⟩
            have n' : NS X.K X.M W ρ I h H σT σ (evSs Γ ss σT ((h.set m .dead).set a0 (.ins c (putA f (.dct l) fs)))) D := n
            exact n'.from x
          · cases el
        · cases el
      · cases el
    · cases el
end
end VY
namespace VY
open PySem PySem.Spec
open PyProof.Rows hiding St
open L2
def notComp : Expr → Bool
  | .ListComp .. => false | .SetComp .. => false | .DictComp .. => false | _ => true
theorem comp_pure {e : Expr} {t : Option Expr} {n : Nat} {env : Env} (h : notComp e = true) : swapsWith e t n env = pure false := by cases e <;> first | rfl | cases h
def notDc : Expr → Bool
  | .DictComp .. => false
  | _ => true
def isNone2 : Option (Option (List Str)) → Bool
  | some none => true
  | _ => false
theorem isNone2_of {o : Option (Option (List Str))} (h : isNone2 o = true) : o = some none := by
  unfold isNone2 at h
  split at h
  · rfl
  · cases h
def isNames (o : Option (Option (List Str))) (ns : List Str) : Bool := match o with
  | some (some l) => decide (l = ns)
  | _ => false
theorem isNames_of {o : Option (Option (List Str))} {ns : List Str} (h : isNames o ns = true) : o = some (some ns) := by
  unfold isNames at h
  split at h
  · rw [of_decide_eq_true h]
  · cases h
def lclB (sc : Scope) (x : Str) : Bool := match sc.names.lookup x with
  | some .local => true | _ => false
theorem lclB_of {sc : Scope} {x : Str} (h : lclB sc x = true) : sc.names.lookup x = some .local := by
  unfold lclB at h
  split at h
  · assumption
  · cases h
/-- a tuple's stores in their order -/
def plainTp (sc : Scope) (pg pe : Expr) : Bool := match pg with
  | .Tuple ts _ _ => (match pe with
    | .Tuple vs _ _ => isNone2 (swS sc ts vs)
    | _ => true)
  | _ => false
variable (nm : List Str) (sc : Scope)
mutual
def mS (N : Nms) : S → Stmt → Bool
  | .asg j e, s => match s with
    | .Assign [.Name x _] pe _ => decide (nm[j]? = some x) && locB sc x && (mE N nm sc e pe && notDc pe)
    | _ => false
  | .asgT tg e, s => match s with
    | .Assign [pg] pe _ => !N.hot && (mTg sc nm tg pg && mE N nm sc e pe && plainTp sc pg pe)
    | _ => false
  | .setIx o i e, s => match s with
    | .Assign [.Subscript po pi _] pe _ => mE N nm sc e pe && mE N nm sc o po && mE N nm sc i pi && notSlice pi
    | _ => false
  | .expr e, s => match s with
    | .Expr pe _ => mE N nm sc e pe && notComp pe
    | _ => false
  | .ret e, s => match s with
    | .Return (some pe) _ => mE N nm sc e pe
    | _ => false
  | .retS j, s => match s with
    | .Return (some (.Name x _)) _ => decide (nm[j]? = some x) && visB sc x && plainN x
    | _ => false
  | .retN, s => match s with
    | .Return none _ => true
    | _ => false
  | .ife c a b, s => match s with
    | .If pc pa pb _ => mCd N nm sc c pc && mSs N a pa && mSs N b pb
    | _ => false
  | .for tg it body, s => match s with
    | .For pg pi pb [] _ => !N.hot && (mTg sc nm tg pg && (enOk it pg && mIt N nm sc it pi) && notSet pi && mSs N body pb)
    | _ => false
  | .whl c body, s => match s with
    | .While pc pb [] _ => !N.hot && (mCd N nm sc c pc && mSs N body pb)
    | _ => false
  | .brk, s => match s with
    | .Break _ => true
    | _ => false
  | .cnt, s => match s with
    | .Continue _ => true
    | _ => false
  | .stop, _ => true
  | .pass, s => match s with
    | .Pass _ => true
    | _ => false
  | .app j e, s => match s with
    | .Expr (.Call (.Attribute (.Name x _) m ap) [pb] [] cp) _ => decide (m = "append") && decide (nm[j]? = some x) && visB sc x && plainN x && notStar pb && mE N nm sc e pb && (ap.endLine == cp.line)
    | _ => false
  | .aug j op e, s => match s with
    | .AugAssign (.Name x _) o pe _ => decide (nm[j]? = some x) && locB sc x && decide (o = op) && mE N nm sc e pe
    | _ => false
  | .fz _, _ => false
  | .pr _, _ => false
  | .try1 x body suite, s => match s with
    | .Try pb [.ExceptHandler (some (.Name y _)) none (p0 :: ps) _] [] [] _ => !N.hot && (decide (x = "ZeroDivisionError") && decide (y = ("ZeroDivisionError" : Str)) && glbB sc y && mSs N body pb && mSs N.heat suite (p0 :: ps))
    | _ => false
  | .rse c es, s => match s with
    | .Raise (some (.Call (.Name x _) (p0 :: xs) [] _)) none _ => !N.hot && (decide (x = c) && glbB sc x && mEs N nm sc es (p0 :: xs) && (p0 :: xs).all notStar)
    | _ => false
  | .setA o f e, s => match s with
    | .Assign [.Attribute po a _] pe _ => decide (a = f) && mE N nm sc e pe && mE N nm sc o po
    | _ => false
  | .asgR js i e, s => match s with
    | .Assign [.Tuple es _ _] pe _ => !N.hot && (mStar sc nm js i es && mE N nm sc e pe && notTup pe)
    | _ => false
  | .lkf _ _, _ => false
  | .tryX i c body suite, s => match s with
    | .Try pb [.ExceptHandler (some (.Name x _)) (some y) (p0 :: ps) _] [] [] _ => !N.hot && (decide (x = c) && decide (nm[i]? = some y) && lclB sc y && glbB sc x && mSs N body pb && mSs N.heat suite (p0 :: ps))
    | _ => false
  | .tryN c body suite, s => match s with
    | .Try pb [.ExceptHandler (some (.Name x _)) none (p0 :: ps) _] [] [] _ => !N.hot && (decide (x = c) && glbB sc x && mSs N body pb && mSs N.heat suite (p0 :: ps))
    | _ => false
  | .par2 i j a b, s => match s with
    | .Assign [.Tuple [.Name x px, .Name y py] _ _] (.Tuple [pa, pb] _ _) _ => !N.hot && (decide (nm[i]? = some x) && decide (nm[j]? = some y) && decide (i ≠ j) && lclB sc x && lclB sc y && mE N nm sc a pa && mE N nm sc b pb && notStar pa && notStar pb &&
        isNames (swS sc [.Name x px, .Name y py] [pa, pb]) [x, y])
    | _ => false
  | .par3 i j l a b c, s => match s with
    | .Assign [.Tuple [.Name x px, .Name y py, .Name z pz] _ _] (.Tuple [pa, pb, pc] _ _) _ => !N.hot && (decide (nm[i]? = some x) && decide (nm[j]? = some y) && decide (nm[l]? = some z) && decide (i ≠ j) && decide (i ≠ l) && decide (j ≠ l) && lclB sc x && lclB sc y && lclB sc z &&
        mE N nm sc a pa && mE N nm sc b pb && mE N nm sc c pc && notStar pa && notStar pb && notStar pc && isNames (swS sc [.Name x px, .Name y py, .Name z pz] [pa, pb, pc]) [x, y, z])
    | _ => false
def mSs (N : Nms) : List S → List Stmt → Bool
  | [], [] => true
  | [], _ :: _ => false
  | s :: ss, ps => (match s with
    | .fz _ => mSs N ss ps
    | .pr _ => mSs N ss ps
    | .lkf _ _ => mSs N ss ps
    | _ => (match ps with
      | [] => false
      | p :: ps => mS N s p && mSs N ss ps))
end
section
variable {N : Nms} {Γ : Ctx} {k : Nat} {X : Cx} {W : WX}
theorem op_comp {nm : List Str} {sc : Scope} {o : Op} {es : List E} {pe : Expr} (h : ¬ notComp pe = true) (m : mE N nm sc (.op o es) pe = true) : False := by
  have z : shp sc o pe = none := by cases pe <;> first | exact (h rfl).elim | (cases o <;> rfl)
  unfold mE at m
  rw [z] at m
  exact ff (and_tt m).2
/-- x = e -/
theorem s_asgM (G : Gs X N Γ k W) {j : Nat} {x : Str} {p pos : Pos} {e : E} {pe : Expr} (hi : X.N[j]? = some x) (hl : locB X.env.scope x = true) (m : mE N X.N X.env.scope e pe = true) (nd : notDc pe = true) : PS X (.Assign [.Name x p] pe pos) (tS X.K X.M W (evS Γ (.asg j e))) := by
  by_cases hc : notComp pe = true
  · exact s_asg G hi hl (sE e G.toGd m) (comp_pure hc)
  · cases pe <;> try exact (hc rfl).elim
    · rename_i el gs scope lp
      have sw : swapsWith (.ListComp el gs scope lp) (some (.Name x p)) pos.line X.env = pure (X.env.blockKind == .function && X.env.kindOf x == some .local && p.line == lp.line && !(scope.names.any fun (n, k) => n == x && (k == .local || k == .cell))) := rfl
      cases hb : (X.env.blockKind == .function && X.env.kindOf x == some .local && p.line == lp.line && !(scope.names.any fun (n, k) => n == x && (k == .local || k == .cell))) with
      | false => exact s_asg G hi hl (sE e G.toGd m) (sw.trans (by rw [hb]))
      | true =>
        have hyl : X.env.scope.names.lookup x = some .local := by
          have q := (and_tt (and_tt (and_tt hb).1).1).2
          exact eq_of_beq q
        have sw' := sw.trans (congrArg pure hb)
        refine PS.imp ?_ fun D σ H q => asg_read q
        cases e <;> try first | exact (op_comp hc m).elim | (unfold mE at m; exact ff m)
        rename_i elt tg it cond
        unfold mE at m; simp only [] at m; split at m
        · rename_i t iter ifs a _
          have q := and_tt m
          have q1 := and_tt q.1
          have q2 := and_tt q1.1
          have q3 := and_tt q2.1
          have q4 := and_tt q3.1
          have q5 := and_tt q4.1
          have q6 := and_tt q5.1
          cases of_decide_eq_true q6.2
          have hh : N.hot = false := by simpa using q6.1
          refine s_setLc G.toGd hh hi hyl sw' (blkOk_by q5.2) q4.2 (sIt it true G.toGd _ (and_tt q3.2).1 (and_tt q3.2).2) q2.2 (fun s H C cl fp => ?_) (fun s H C cl fp => by
            rw [← G.toGd.blkM hh s H _ (compEnvC _ cl C X.env) fp]
            exact sE elt (G.toGd.blk hh s H _ (compEnvC _ cl C X.env) fp) q1.2)
          have qc := q.2
          split at qc
          · split at qc
            · exact pts_yes
            · exact ff qc
          · split at qc
            · exact ff qc
            · rw [← G.toGd.blkM hh s H _ (compEnvC _ cl C X.env) fp]
              exact pts_one (sC cond (G.toGd.blk hh s H _ (compEnvC _ cl C X.env) fp) qc)
          · exact ff qc
        · exact ff m
    · cases e <;> first | exact (op_comp hc m).elim | (unfold mE at m; exact ff m)
    · exact ff nd
theorem sole_sub {po pi pe : Expr} {p : Pos} {n : Nat} {env : Env} : swapsWithSole [.Subscript po pi p] pe n env = pure false := by cases pe <;> rfl
theorem sole_tup {ts : List Expr} {i : Nat} {pe : Expr} {p : Pos} {n : Nat} {env : Env} : swapsWithSole [.Tuple ts i p] pe n env = pure false := by cases pe <;> rfl
theorem plainTp_of {pg pe : Expr} {env : Env} {n : Nat} (hk : env.scope.kind = .function) (h : plainTp env.scope pg pe = true) : swappedStores [pg] pe env = pure none ∧ swapsWithSole [pg] pe n env = pure false ∧ (assignEach [pg] env).map (·.2) = [assign pg env] := by
  cases pg <;> try exact ff h
  refine ⟨?_, sole_tup, rfl⟩
  cases pe <;> first | rfl | exact swS_ok hk (isNone2_of h)
mutual
theorem sS {Γ : Ctx} {k : Nat} : ∀ (s : S) {X : Cx} {N : Nms} {W : WX} (G : Gs X N Γ k W) {ps : Stmt}, mS X.N X.env.scope N s ps = true → PS X ps (tS X.K X.M W (evS Γ s))
  | .asg j e, X, N, W, G, ps, m => by
    unfold mS at m; split at m
    · have q := and_tt m
      have q1 := and_tt q.1
      exact s_asgM G (of_decide_eq_true q1.1) q1.2 (and_tt q.2).1 (and_tt q.2).2
    · exact ff m
  | .asgT tg e, X, N, W, G, ps, m => by
    unfold mS at m; split at m
    · have q0 := and_tt m
      have q := and_tt q0.2
      have q1 := and_tt q.1
      have z := fun n => plainTp_of (n := n) G.kind q.2
      exact s_asgT G (by simpa using q0.1) q1.1 (sE e G.toGd q1.2) (z _).2.1 (z 0).1 (z 0).2.2
    · exact ff m
  | .setIx o i e, X, N, W, G, ps, m => by
    unfold mS at m; split at m
    · have q := and_tt m
      have q1 := and_tt q.1
      have q2 := and_tt q1.1
      exact s_setIx G (sE e G.toGd q2.1) (sE o G.toGd q2.2) (sE i G.toGd q1.2) q.2 sole_sub
    · exact ff m
  | .expr e, X, N, W, G, ps, m => by
    unfold mS at m; split at m
    · have q := and_tt m
      exact s_expr (sE e G.toGd q.1) (comp_pure q.2)
    · exact ff m
  | .ret e, X, N, W, G, ps, m => by
    unfold mS at m; split at m
    · exact s_ret (sE e G.toGd m)
    · exact ff m
  | .retS j, X, N, W, G, ps, m => by
    unfold mS at m; split at m
    · exact s_retS (of_decide_eq_true (and_tt (and_tt m).1).1) (and_tt (and_tt m).1).2 (and_tt m).2
    · exact ff m
  | .retN, X, N, W, G, ps, m => by
    unfold mS at m; split at m
    · exact s_retN
    · exact ff m
  | .ife c a b, X, N, W, G, ps, m => by
    unfold mS at m; split at m
    · have q := and_tt m
      have q1 := and_tt q.1
      exact s_ifS (sC c G.toGd q1.1) (sSs a G q1.2) (sSs b G q.2)
    · exact ff m
  | .for tg it body, X, N, W, G, ps, m => by
    unfold mS at m; split at m
    · have q0 := and_tt m
      have q := and_tt q0.2
      have q1 := and_tt q.1
      have q2 := and_tt q1.1
      exact s_for G (by simpa using q0.1) q2.1 (sIt it false G.toGd _ (and_tt q2.2).1 (and_tt q2.2).2) q1.2 (sSs body G q.2)
    · exact ff m
  | .whl c body, X, N, W, G, ps, m => by
    unfold mS at m; split at m
    · have q0 := and_tt m
      have q := and_tt q0.2
      exact s_whl G (by simpa using q0.1) (sC c G.toGd q.1) (sSs body G q.2)
    · exact ff m
  | .brk, X, N, W, G, ps, m => by
    unfold mS at m; split at m
    · exact s_brk
    · exact ff m
  | .cnt, X, N, W, G, ps, m => by
    unfold mS at m; split at m
    · exact s_cnt
    · exact ff m
  | .stop, X, N, W, G, ps, m => s_stopS
  | .pass, X, N, W, G, ps, m => by
    unfold mS at m; split at m
    · exact s_pass
    · exact ff m
  | .app j e, X, N, W, G, ps, m => by
    unfold mS at m; split at m
    · have q := and_tt m
      have q1 := and_tt q.1
      have q2 := and_tt q1.1
      have q3 := and_tt q2.1
      have q4 := and_tt q3.1
      have q5 := and_tt q4.1
      cases of_decide_eq_true q5.1
      exact s_app (of_decide_eq_true q5.2) q4.2 q3.2 q2.2 (sE e G.toGd q1.2) q.2
    · exact ff m
  | .aug j op e, X, N, W, G, ps, m => by
    unfold mS at m; split at m
    · have q := and_tt m
      have q1 := and_tt q.1
      have q2 := and_tt q1.1
      cases of_decide_eq_true q1.2
      exact s_aug G (of_decide_eq_true q2.1) q2.2 (sE e G.toGd q.2)
    · exact ff m
  | .try1 x body suite, X, N, W, G, ps, m => by
    unfold mS at m; split at m
    · have q0 := and_tt m
      have q := and_tt q0.2
      have q1 := and_tt q.1
      have q2 := and_tt q1.1
      have q3 := and_tt q2.1
      cases of_decide_eq_true q3.1
      exact s_try1 G (by simpa using q0.1) (of_decide_eq_true q3.2) q2.2 (fun G' => sSs body G' q1.2) fun a oe pn hf => sSs suite (G.suite a oe pn hf) q.2
    · exact ff m
  | .rse c es, X, N, W, G, ps, m => by
    unfold mS at m; split at m
    · have q0 := and_tt m
      have q := and_tt q0.2
      have q1 := and_tt q.1
      have q2 := and_tt q1.1
      cases of_decide_eq_true q2.1
      exact s_rse G (by simpa using q0.1) q2.2 (sEs es G.toGd q1.2 q.2) q.2
    · exact ff m
  | .setA o f e, X, N, W, G, ps, m => by
    unfold mS at m; split at m
    · have q := and_tt m
      have q1 := and_tt q.1
      cases of_decide_eq_true q1.1
      exact s_setA G (sE e G.toGd q1.2) (sE o G.toGd q.2)
    · exact ff m
  | .asgR js i e, X, N, W, G, ps, m => by
    unfold mS at m; split at m
    · rename_i es kk tp pe pos
      have q0 := and_tt m
      have q := and_tt q0.2
      have q1 := and_tt q.1
      exact s_asgR G (by simpa using q0.1) q1.1 (sE e G.toGd q1.2) (by
        have z := q.2
        cases ‹Expr› <;> first | rfl | exact ff z) sole_tup
    · exact ff m
  | .lkf _ _, X, N, W, G, ps, m => ff m
  | .tryX i c body suite, X, N, W, G, ps, m => by
    unfold mS at m; split at m
    · have q0 := and_tt m
      have q := and_tt q0.2
      have q1 := and_tt q.1
      have q2 := and_tt q1.1
      have q3 := and_tt q2.1
      have q4 := and_tt q3.1
      cases of_decide_eq_true q4.1
      cases hc : Γ.cs.xs c with
      | none =>
        refine ⟨fun pins s σ H D I z => ?_⟩
        obtain ⟨ρ, I0, σT, h, hr, sr, n⟩ := z
        rw [evS, hc] at n
        exact n.elim
      | some fns => exact s_tryX G (by simpa using q0.1) (of_decide_eq_true q4.2) (lclB_of q3.2) q2.2 hc (fun G' => sSs body G' q1.2) fun a oe pn hf => sSs suite (G.suite a oe pn hf) q.2
    · exact ff m
  | .tryN c body suite, X, N, W, G, ps, m => by
    unfold mS at m; split at m
    · have q0 := and_tt m
      have q := and_tt q0.2
      have q1 := and_tt q.1
      have q2 := and_tt q1.1
      cases of_decide_eq_true q2.1
      cases hc : Γ.cs.xs c with
      | none =>
        refine ⟨fun pins s σ H D I z => ?_⟩
        obtain ⟨ρ, I0, σT, h, hr, sr, n⟩ := z
        rw [evS, hc] at n
        exact n.elim
      | some fns => exact s_tryN G (by simpa using q0.1) q2.2 hc (fun G' => sSs body G' q1.2) fun a oe pn hf => sSs suite (G.suite a oe pn hf) q.2
    · exact ff m
  | .fz _, X, N, W, G, ps, m => ff m
  | .pr _, X, N, W, G, ps, m => ff m
  | .par2 i j a b, X, N, W, G, ps, m => by
    unfold mS at m; split at m
    · have q0 := and_tt m
      have q := and_tt q0.2
      have q1 := and_tt q.1
      have q2 := and_tt q1.1
      have q3 := and_tt q2.1
      have q4 := and_tt q3.1
      have q5 := and_tt q4.1
      have q6 := and_tt q5.1
      have q7 := and_tt q6.1
      have q8 := and_tt q7.1
      exact s_par2 G (by simpa using q0.1) (of_decide_eq_true q8.1) (of_decide_eq_true q8.2) (of_decide_eq_true q7.2) (lclB_of q6.2) (lclB_of q5.2) (sE a G.toGd q4.2) (sE b G.toGd q3.2) q2.2 q1.2 (isNames_of q.2)
    · exact ff m
  | .par3 i j l a b c, X, N, W, G, ps, m => by
    unfold mS at m; split at m
    · have q0 := and_tt m
      have q := and_tt q0.2
      have q1 := and_tt q.1
      have q2 := and_tt q1.1
      have q3 := and_tt q2.1
      have q4 := and_tt q3.1
      have q5 := and_tt q4.1
      have q6 := and_tt q5.1
      have q7 := and_tt q6.1
      have q8 := and_tt q7.1
      have q9 := and_tt q8.1
      have qa := and_tt q9.1
      have qb := and_tt qa.1
      have qc := and_tt qb.1
      have qd := and_tt qc.1
      have qe := and_tt qd.1
      exact s_par3 G (by simpa using q0.1) (of_decide_eq_true qe.1) (of_decide_eq_true qe.2) (of_decide_eq_true qd.2) (of_decide_eq_true qc.2) (of_decide_eq_true qb.2) (of_decide_eq_true qa.2) (lclB_of q9.2) (lclB_of q8.2) (lclB_of q7.2) (sE a G.toGd q6.2) (sE b G.toGd q5.2) (sE c G.toGd q4.2) q3.2 q2.2 q1.2 (isNames_of q.2)
    · exact ff m
theorem sSs {Γ : Ctx} {k : Nat} : ∀ (ss : List S) {X : Cx} {N : Nms} {W : WX} (G : Gs X N Γ k W) {ps : List Stmt}, mSs X.N X.env.scope N ss ps = true → PSs X ps (tS X.K X.M W (evSs Γ ss))
  | .try1 x body suite :: ss, X, N, W, G, ps, m => by
    cases ps with
    | nil => exact ff m
    | cons p ps => exact s_ss1 (sS (.try1 x body suite) G (and_tt m).1) (sSs ss G (and_tt m).2)
  | [], X, N, W, G, ps, m => by
    cases ps with
    | nil => exact s_ss0
    | cons p ps => exact ff m
  | .fz j :: ss, X, N, W, G, ps, m => s_fz (sSs ss G m)
  | .pr j :: ss, X, N, W, G, ps, m => s_pr (sSs ss G m)
  | .lkf j f :: ss, X, N, W, G, ps, m => s_lkf (sSs ss G m)
  | .rse c es :: ss, X, N, W, G, ps, m => by
    cases ps with
    | nil => exact ff m
    | cons p ps => exact s_ss1 (sS (.rse c es) G (and_tt m).1) (sSs ss G (and_tt m).2)
  | .setA o f e :: ss, X, N, W, G, ps, m => by
    cases ps with
    | nil => exact ff m
    | cons p ps => exact s_ss1 (sS (.setA o f e) G (and_tt m).1) (sSs ss G (and_tt m).2)
  | .asgR js i e :: ss, X, N, W, G, ps, m => by
    cases ps with
    | nil => exact ff m
    | cons p ps => exact s_ss1 (sS (.asgR js i e) G (and_tt m).1) (sSs ss G (and_tt m).2)
  | .tryX i c body suite :: ss, X, N, W, G, ps, m => by
    cases ps with
    | nil => exact ff m
    | cons p ps => exact s_ss1 (sS (.tryX i c body suite) G (and_tt m).1) (sSs ss G (and_tt m).2)
  | .tryN c body suite :: ss, X, N, W, G, ps, m => by
    cases ps with
    | nil => exact ff m
    | cons p ps => exact s_ss1 (sS (.tryN c body suite) G (and_tt m).1) (sSs ss G (and_tt m).2)
  | .asg j e :: ss, X, N, W, G, ps, m => by
    cases ps with
    | nil => exact ff m
    | cons p ps => exact s_ss1 (sS (.asg j e) G (and_tt m).1) (sSs ss G (and_tt m).2)
  | .asgT tg e :: ss, X, N, W, G, ps, m => by
    cases ps with
    | nil => exact ff m
    | cons p ps => exact s_ss1 (sS (.asgT tg e) G (and_tt m).1) (sSs ss G (and_tt m).2)
  | .setIx o i e :: ss, X, N, W, G, ps, m => by
    cases ps with
    | nil => exact ff m
    | cons p ps => exact s_ss1 (sS (.setIx o i e) G (and_tt m).1) (sSs ss G (and_tt m).2)
  | .expr e :: ss, X, N, W, G, ps, m => by
    cases ps with
    | nil => exact ff m
    | cons p ps => exact s_ss1 (sS (.expr e) G (and_tt m).1) (sSs ss G (and_tt m).2)
  | .ret e :: ss, X, N, W, G, ps, m => by
    cases ps with
    | nil => exact ff m
    | cons p ps => exact s_ss1 (sS (.ret e) G (and_tt m).1) (sSs ss G (and_tt m).2)
  | .retS j :: ss, X, N, W, G, ps, m => by
    cases ps with
    | nil => exact ff m
    | cons p ps => exact s_ss1 (sS (.retS j) G (and_tt m).1) (sSs ss G (and_tt m).2)
  | .retN :: ss, X, N, W, G, ps, m => by
    cases ps with
    | nil => exact ff m
    | cons p ps => exact s_ss1 (sS .retN G (and_tt m).1) (sSs ss G (and_tt m).2)
  | .ife c a b :: ss, X, N, W, G, ps, m => by
    cases ps with
    | nil => exact ff m
    | cons p ps => exact s_ss1 (sS (.ife c a b) G (and_tt m).1) (sSs ss G (and_tt m).2)
  | .for tg it body :: ss, X, N, W, G, ps, m => by
    cases ps with
    | nil => exact ff m
    | cons p ps => exact s_ss1 (sS (.for tg it body) G (and_tt m).1) (sSs ss G (and_tt m).2)
  | .whl c body :: ss, X, N, W, G, ps, m => by
    cases ps with
    | nil => exact ff m
    | cons p ps => exact s_ss1 (sS (.whl c body) G (and_tt m).1) (sSs ss G (and_tt m).2)
  | .brk :: ss, X, N, W, G, ps, m => by
    cases ps with
    | nil => exact ff m
    | cons p ps => exact s_ss1 (sS .brk G (and_tt m).1) (sSs ss G (and_tt m).2)
  | .cnt :: ss, X, N, W, G, ps, m => by
    cases ps with
    | nil => exact ff m
    | cons p ps => exact s_ss1 (sS .cnt G (and_tt m).1) (sSs ss G (and_tt m).2)
  | .stop :: ss, X, N, W, G, ps, m => by
    cases ps with
    | nil => exact ff m
    | cons p ps =>
      have m : (mS X.N X.env.scope N .stop p && mSs X.N X.env.scope N ss ps) = true := m
      exact s_ss1 (sS .stop G (and_tt m).1) (sSs ss G (and_tt m).2)
  | .pass :: ss, X, N, W, G, ps, m => by
    cases ps with
    | nil => exact ff m
    | cons p ps => exact s_ss1 (sS .pass G (and_tt m).1) (sSs ss G (and_tt m).2)
  | .aug j op e :: ss, X, N, W, G, ps, m => by
    cases ps with
    | nil => exact ff m
    | cons p ps => exact s_ss1 (sS (.aug j op e) G (and_tt m).1) (sSs ss G (and_tt m).2)
  | .app j e :: ss, X, N, W, G, ps, m => by
    cases ps with
    | nil => exact ff m
    | cons p ps => exact s_ss1 (sS (.app j e) G (and_tt m).1) (sSs ss G (and_tt m).2)
  | .par2 i j a b :: ss, X, N, W, G, ps, m => by
    cases ps with
    | nil => exact ff m
    | cons p ps => exact s_ss1 (sS (.par2 i j a b) G (and_tt m).1) (sSs ss G (and_tt m).2)
  | .par3 i j l a b c :: ss, X, N, W, G, ps, m => by
    cases ps with
    | nil => exact ff m
    | cons p ps => exact s_ss1 (sS (.par3 i j l a b c) G (and_tt m).1) (sSs ss G (and_tt m).2)
end
end
end VY
namespace VY
open PySem PySem.Spec
open PyProof.Rows hiding St
open L2
def mInit (sc : Scope) (nm : List Str) : List (Str × Nat) → List Stmt → Bool
  | [], [] => true
  | (f, j) :: fs, s :: ss => (match s with
    | .Assign [.Attribute (.Name x _) g _] (.Name y _) _ => decide (nm[0]? = some x) && visB sc x && plainN x && decide (g = f) && decide (nm[j]? = some y) && visB sc y && plainN y && mInit sc nm fs ss
    | _ => false)
  | _, _ => false
/-- the fields' slots -/
def initSl (fs : List Str) : List (Str × Nat) := fs.zipIdx 1
section
variable {X : Cx}
/-- slots hold what is stored -/
def SlOk (σ : St) : List (Str × Nat) → List V → Prop
  | [], [] => True
  | p :: fs, w :: ws => σ[p.2]? = some (some w) ∧ SlOk σ fs ws
  | _, _ => False
theorem init_one {f : Str} {j : Nat} {s : Stmt} {fs : List (Str × Nat)} {ss : List Stmt} (m : mInit X.env.scope X.N ((f, j) :: fs) (s :: ss) = true) : mInit X.env.scope X.N fs ss = true ∧
    PS X s (fun D σ H => ∃ (a C : Addr) (w : V), σ[0]? = some (some (.ref a)) ∧ σ[j]? = some (some w) ∧ OexC X.K C ∧ PySem.W.findIn X.K (.ref C) f = some none ∧
      ((H a = some (exo a C none) ∧ ∀ dx, H dx = none → dx ≠ a → D.nx σ (upd (upd H dx (exd dx [(f, w)])) a (exo a C (some dx)))) ∨
        ∃ (dx : Addr) (acc : List (Str × V)), H a = some (exo a C (some dx)) ∧ H dx = some (exd dx acc) ∧ acc.length ≤ 900 ∧ D.nx σ (upd H dx (exd dx ((f, w) :: acc))))) := by
  unfold mInit at m
  split at m
  · rename_i x px g pp y py pos
    have q := and_tt m
    have q1 := and_tt q.1
    have q2 := and_tt q1.1
    have q3 := and_tt q2.1
    have q4 := and_tt q3.1
    have q5 := and_tt q4.1
    have q6 := and_tt q5.1
    refine ⟨q.2, ?_⟩
    cases of_decide_eq_true q4.2
    have po : PE X (.Name x px) _ := pe_var (pos := px) (of_decide_eq_true q6.1) (vis_of q6.2) (plain_dbg q5.2).1 (plain_dbg q5.2).2
    have pv : PE X (.Name y py) _ := pe_var (pos := py) (of_decide_eq_true q3.2) (vis_of q2.2) (plain_dbg q1.2).1 (plain_dbg q1.2).2
    refine PS.imp (ps_ost po pv) ?_
    rintro D σ H ⟨a, C, w, e1, e2, T, hn, h⟩
    exact ⟨w, e2, .ref a, e1, a, C, rfl, T, hn, h⟩
  · exact ff m
theorem init_rest : ∀ (fs : List (Str × Nat)) (ss : List Stmt), mInit X.env.scope X.N fs ss = true →
    PSs X ss (fun D σ H => ∃ (a C dx : Addr) (acc : List (Str × V)) (ws : List V), σ[0]? = some (some (.ref a)) ∧ SlOk σ fs ws ∧ OexC X.K C ∧ (∀ p ∈ fs, PySem.W.findIn X.K (.ref C) p.1 = some none) ∧ H a = some (exo a C (some dx)) ∧ H dx = some (exd dx acc) ∧ a ≠ dx ∧ acc.length + fs.length ≤ 900 ∧
      D.nx σ (upd H dx (exd dx (((fs.map (·.1)).zip ws).reverse ++ acc))))
  | [], [], m => PSs.imp pss_nil fun D σ H ⟨a, C, dx, acc, ws, e0, sl, T, hn, ha, hd, ne, hl, n⟩ => by
    have eh : upd H dx (exd dx acc) = H := by
      funext b
      by_cases hb : b = dx
      · subst hb; rw [upd_same, hd]
      · rw [upd_ne hb]
    have n' : D.nx σ (upd H dx (exd dx acc)) := by
      cases ws with
      | nil => exact n
      | cons => exact sl.elim
    rw [eh] at n'
    exact n'
  | (f, j) :: fs, s :: ss, m => by
    obtain ⟨m', h1⟩ := init_one m
    refine PSs.imp (pss_cons h1 (init_rest fs ss m')) ?_
    rintro D σ H ⟨a, C, dx, acc, ws, e0, sl, T, hn, ha, hd, ne, hl, n⟩
    match ws, sl, n with
    | w :: ws, sl, n =>
      refine ⟨a, C, w, e0, sl.1, T, hn (f, j) (by simp), .inr ⟨dx, acc, ha, hd, by simp at hl; omega, ?_⟩⟩
      refine ⟨a, C, dx, (f, w) :: acc, ws, e0, sl.2, T, fun p hp => hn p (by simp [hp]), by rw [upd_ne ne]; exact ha, upd_same, ne, by simp at hl ⊢; omega, ?_⟩
      have e1 : upd (upd H dx (exd dx ((f, w) :: acc))) dx (exd dx (((fs.map (·.1)).zip ws).reverse ++ (f, w) :: acc)) = upd H dx (exd dx (((((f, j) :: fs).map (·.1)).zip (w :: ws)).reverse ++ acc)) := by
        funext b
        by_cases hb : b = dx
        · subst hb; rw [upd_same, upd_same]; simp
        · rw [upd_ne hb, upd_ne hb, upd_ne hb]
      rw [e1]
      exact n
  | [], _ :: _, m => ff m
  | _ :: _, [], m => ff m
theorem init_all {f : Str} {j : Nat} {fs : List (Str × Nat)} {ss : List Stmt} (m : mInit X.env.scope X.N ((f, j) :: fs) ss = true) :
    PSs X ss (fun D σ H => ∃ (a C : Addr) (ws : List V), σ[0]? = some (some (.ref a)) ∧ SlOk σ ((f, j) :: fs) ws ∧ OexC X.K C ∧ (∀ p ∈ (f, j) :: fs, PySem.W.findIn X.K (.ref C) p.1 = some none) ∧ H a = some (exo a C none) ∧ fs.length + 1 ≤ 900 ∧
      ∀ d, H d = none → d ≠ a → D.nx σ (upd (upd H d (exd d (((((f, j) :: fs).map (·.1)).zip ws).reverse))) a (exo a C (some d)))) := by
  cases ss with
  | nil => exact ff m
  | cons s ss =>
    obtain ⟨m', h1⟩ := init_one m
    refine PSs.imp (pss_cons h1 (init_rest fs ss m')) ?_
    rintro D σ H ⟨a, C, ws, e0, sl, T, hn, ha, hl, n⟩
    match ws, sl, n with
    | w :: ws, sl, n =>
      refine ⟨a, C, w, e0, sl.1, T, hn (f, j) (by simp), .inl ⟨ha, fun dx hdx hne => ?_⟩⟩
      refine ⟨a, C, dx, [(f, w)], ws, e0, sl.2, T, fun p hp => hn p (by simp [hp]), upd_same, by rw [upd_ne hne, upd_same], Ne.symm hne, by simp; omega, ?_⟩
      have e1 : upd (upd (upd H dx (exd dx [(f, w)])) a (exo a C (some dx))) dx (exd dx (((fs.map (·.1)).zip ws).reverse ++ [(f, w)])) = upd (upd H dx (exd dx (((((f, j) :: fs).map (·.1)).zip (w :: ws)).reverse))) a (exo a C (some dx)) := by
        funext b
        by_cases hb : b = dx
        · subst hb; rw [upd_same, upd_ne hne, upd_same]; simp
        · rw [upd_ne hb]
          by_cases hba : b = a
          · subst hba; rw [upd_same, upd_same]
          · rw [upd_ne hba, upd_ne hb, upd_ne hba, upd_ne hb]
      rw [e1]
      exact n dx hdx hne
end
/-- a class's __init__: where it stands, its names -/
structure XcD where
  name : Str
  fs : List Str
  d : He.DefD
  ps : List Str
  bind : ∀ (kV doc pm : Value) (an : Option Addr) (cdv ct : Value) (us : List Value), us.length = ps.length → bindArgs (PySem.W.fnOf d.name d.qual d.params d.body d.scope .none kV doc pm an cdv ct) ⟨us, []⟩ = pure (ps.zip us)
def slOk_start : ∀ (fs : List Str) (k : Nat) (ws : List V) (σ : St), ws.length = fs.length → (∀ j v, ws[j]? = some v → σ[k + j]? = some (some v)) → SlOk σ (fs.zipIdx k) ws
  | [], k, [], σ, _, _ => trivial
  | f :: fs, k, w :: ws, σ, e, h => ⟨h 0 w rfl, slOk_start fs (k + 1) ws σ (by simpa using e) fun j v hj => by
    have := h (j + 1) v (by simpa using hj)
    rwa [show k + (j + 1) = k + 1 + j by omega] at this⟩
theorem zip_names : ∀ (fs : List Str) (k : Nat), (fs.zipIdx k).map (·.1) = fs
  | [], _ => rfl
  | f :: fs, k => by rw [List.zipIdx_cons, List.map_cons, zip_names fs]
end VY
namespace VY
open PySem PySem.Spec
open PyProof.Rows hiding St
open L2
/-- a def: where it stands, the names of its slots, its parameters, its tree -/
structure FnD where
  d : He.DefD
  nm : List Str
  ps : List Str
  fd : FD
  bind : ∀ (kV doc pm : Value) (an : Option Addr) (cdv ct : Value) (us : List Value), us.length = ps.length → bindArgs (PySem.W.fnOf d.name d.qual d.params d.body d.scope .none kV doc pm an cdv ct) ⟨us, []⟩ = pure (ps.zip us)
/-- a def's scope, looked at -/
def scpB (nm ps : List Str) (sc : Scope) : Bool := (match sc.kind with | .function => true | _ => false) && !sc.isCoroutine && !sc.isGenerator && decide nm.Nodup && decide (nm.take ps.length = ps) && ps.all (locB sc) && sc.names.all fun y => match y.2 with | .free => false | _ => true
theorem scpB_of {nm ps : List Str} {sc : Scope} (h : scpB nm ps sc = true) : FnScope nm ps sc := by
  have q := and_tt h
  have q1 := and_tt q.1
  have q2 := and_tt q1.1
  have q3 := and_tt q2.1
  have q4 := and_tt q3.1
  have q5 := and_tt q4.1
  refine ⟨?_, by simpa using q5.2, by simpa using q4.2, of_decide_eq_true q3.2, of_decide_eq_true q2.2, fun x hx => loc_of (List.all_eq_true.mp q1.2 x hx), fun y hy e => ?_⟩
  · have z := q5.1
    split at z
    · assumption
    · cases z
  · have z := List.all_eq_true.mp q.2 y hy
    rw [e] at z
    cases z
def okF (N : Nms) (f : FnD) : Bool := scpB f.nm f.ps f.d.scope && decide (f.fd.n = f.nm.length) && decide (f.fd.ps = f.ps.length) && decide (f.ps.length ≤ f.nm.length) && mSs f.nm f.d.scope N f.fd.body f.d.body && f.d.dfl.isEmpty && f.d.kwd.isEmpty
structure OkF (N : Nms) (f : FnD) : Prop where
  sc : FnScope f.nm f.ps f.d.scope
  n : f.fd.n = f.nm.length
  ps : f.fd.ps = f.ps.length
  le : f.ps.length ≤ f.nm.length
  m : mSs f.nm f.d.scope N f.fd.body f.d.body = true
  dfl : f.d.dfl = []
  kwd : f.d.kwd = []
theorem okF_of {N : Nms} {f : FnD} (h : okF N f = true) : OkF N f := by
  have q := and_tt h
  have q1 := and_tt q.1
  have q2 := and_tt q1.1
  have q3 := and_tt q2.1
  have q4 := and_tt q3.1
  have q5 := and_tt q4.1
  exact ⟨scpB_of q5.1, of_decide_eq_true q5.2, of_decide_eq_true q4.2, of_decide_eq_true q3.2, q2.2, List.isEmpty_iff.mp q1.2, List.isEmpty_iff.mp q.2⟩
section
variable {K : PySem.W.Frag} {mg : Mg} {ρ ρ' : List Addr} {I I' : Addr → Prop} {h h' : Hs} {H H' : Hp}
theorem start_own {ts : List T} {n : Nat} {σ : St} {a : Addr} (o : Own (startT n ts) σ a) : False := by
  obtain ⟨i, l, e, _⟩ := o
  unfold startT at e
  by_cases hi : i < ts.length
  · rw [List.getElem?_append_left (by simpa using hi), List.getElem?_map] at e
    cases z : ts[i]? with
    | none => rw [z] at e; cases e
    | some t => rw [z] at e; cases e
  · rw [List.getElem?_append_right (by simpa using hi), List.getElem?_replicate] at e
    split at e <;> cases e
theorem start_sr {ts : List T} {vs : List V} {nm : List Str} (q : Reps K mg ρ I H vs ts) (hl : vs.length ≤ nm.length) : SR K mg ρ I h H (startT nm.length ts) (L2.start nm vs) := by
  have lq := q.length
  refine ⟨?_, fun i t e => ?_, fun i l e => ?_, fun i j l m a e _ _ _ => ?_, fun i c fs e => ?_⟩
  · unfold startT L2.start
    simp only [List.length_append, List.length_map, List.length_replicate]
    omega
  · unfold startT at e
    unfold L2.start
    by_cases hi : i < ts.length
    · rw [List.getElem?_append_left (by simpa using hi), List.getElem?_map] at e
      cases z : ts[i]? with
      | none => rw [z] at e; cases e
      | some t' =>
        rw [z] at e
        cases e
        obtain ⟨v, q1, q2⟩ := q.get z
        exact ⟨v, by rw [List.getElem?_append_left (by simp; omega), List.getElem?_map, q1]; rfl, q2⟩
    · rw [List.getElem?_append_right (by simpa using hi), List.getElem?_replicate] at e
      split at e <;> cases e
  · exfalso
    unfold startT at e
    by_cases hi : i < ts.length
    · rw [List.getElem?_append_left (by simpa using hi), List.getElem?_map] at e
      cases z : ts[i]? with
      | none => rw [z] at e; cases e
      | some t => rw [z] at e; cases e
    · rw [List.getElem?_append_right (by simpa using hi), List.getElem?_replicate] at e
      split at e <;> cases e
  · exfalso
    unfold startT at e
    by_cases hi : i < ts.length
    · rw [List.getElem?_append_left (by simpa using hi), List.getElem?_map] at e
      cases z : ts[i]? with
      | none => rw [z] at e; cases e
      | some t => rw [z] at e; cases e
    · rw [List.getElem?_append_right (by simpa using hi), List.getElem?_replicate] at e
      split at e <;> cases e
  · exfalso
    unfold startT at e
    by_cases hi : i < ts.length
    · rw [List.getElem?_append_left (by simpa using hi), List.getElem?_map] at e
      cases z : ts[i]? with
      | none => rw [z] at e; cases e
      | some t => rw [z] at e; cases e
    · rw [List.getElem?_append_right (by simpa using hi), List.getElem?_replicate] at e
      split at e <;> cases e
/-- from a fresh frame -/
theorem SExt.start {ts : List T} {n : Nat} {σ σ' : St} {σT' : Slots} (x : SExt ρ I h H (startT n ts) σ ρ' I' h' H' σT' σ') : Ext ρ I h H ρ' I' h' H' :=
  ⟨x.pre, x.sub, fun a d l => x.keep a d l fun o => start_own o, x.dom, fun a i => (x.inew a i).imp id fun z => z.imp id fun z => z.elim id fun o => (start_own o).elim, fun a l => (x.lnew a l).imp id fun z => z.elim id fun o => (start_own o).elim⟩
theorem out_ns {E : XK} {Q : VK} {ts : List T} {n : Nat} {σ : St} {o : SO} (nx : Nx K mg (fun cls d _ H' => E cls d H') [] ρ I h H o.out fun r h' ρ' I' H' => ∀ v, RO K mg ρ' I' h' H' H [] [] v r → Q v H') :
    NS K mg (fun cls d _ H' => E cls d H') ρ I h H (startT n ts) σ o { nx := fun _ H' => Q .non H', rt := Q } := by
  cases o with
  | ok f σ2 h2 =>
    intro ρ2 I2 H2 σ2' x2 r2 s2
    cases f with
    | nx => exact nx ρ2 I2 H2 x2.start r2 .non rfl
    | brk => exact nx.elim
    | ct => exact nx.elim
    | ret r =>
      intro v q
      refine nx ρ2 I2 H2 x2.start r2 v ?_
      cases r with
      | v t => exact q
      | al l =>
        obtain ⟨a, vs, e, z, q⟩ := q
        exact ⟨a, vs, e, z.elim id fun o => (start_own o).elim, q⟩
      | bw i => exact q.elim
  | ex y σ2 h2 => exact fun cls d ρ2 I2 H2 σ2' x2 r2 s2 z => nx cls d ρ2 I2 H2 x2.start r2 z
  | bad => exact nx
end
/-- .. of an exception -/
def okX (z : XcD) : Bool := scpB z.ps z.ps z.d.scope && decide (z.ps.length = z.fs.length + 1) && !z.fs.isEmpty && decide (z.fs.length ≤ 900) && mInit z.d.scope z.ps (initSl z.fs) z.d.body && z.d.dfl.isEmpty && z.d.kwd.isEmpty
section
variable {P : Program} {w : World} {K : PySem.W.Frag} {mg : Str → Option Value} {base : Heap}
theorem xinit_ok {z : XcD} (ok : okX z = true) {fI C : Addr} {fd : FuncData} (D : FunD K z.d.name z.d.qual z.d.params z.d.body z.d.scope [] [] fI fd) (T : OexC K C) (hn : ∀ f ∈ z.fs, PySem.W.findIn K (.ref C) f = some none) : FnOk P w K mg base (L2.CX P w) 1 fI fd z.ps (spX K C z.fs) := by
  have q := and_tt ok
  have q1 := and_tt q.1
  have q2 := and_tt q1.1
  have q3 := and_tt q2.1
  have q4 := and_tt q3.1
  have q5 := and_tt q4.1
  have hlen : z.ps.length = z.fs.length + 1 := of_decide_eq_true q5.2
  have sc := scpB_of q5.1
  refine D.ok sc (fun vs H Q E h => by rw [h.1, hlen]) (fun cdv A outer s H vs Q E hr h => ?_)
  let X := cxOf (L2.CX P w) P w K mg base z.ps z.d.qual z.d.scope fI cdv A outer s H E
  obtain ⟨hl, a, ws, rfl, hne, h9, ha, q⟩ := h
  cases hf : z.fs with
  | nil => exact (hne hf).elim
  | cons f fs =>
    have m : mInit X.env.scope X.N ((f, 1) :: fs.zipIdx 2) z.d.body = true := by
      have m := q2.2
      unfold initSl at m
      rw [hf, List.zipIdx_cons] at m
      exact m
    refine ⟨_, init_all m, a, C, ws, ?_, ?_, T, ?_, ha, ?_, ?_⟩
    · rfl
    · have e : ws.length = (f :: fs).length := by rw [hf] at hl; simpa using hl
      refine slOk_start (f :: fs) 1 ws _ e fun j v hj => ?_
      show (((V.ref a :: ws).map some) ++ _)[1 + j]? = _
      rw [List.getElem?_append_left (by have := (List.getElem?_eq_some_iff.mp hj).1; simp; omega), List.getElem?_map, Nat.add_comm, List.getElem?_cons_succ, hj]
      rfl
    · intro p hp
      refine hn p.1 ?_
      rw [hf]
      have := List.mem_map_of_mem (f := Prod.fst) hp
      rw [show (((f, 1) :: fs.zipIdx 2).map Prod.fst) = f :: fs from by rw [List.map_cons]; exact congrArg _ (zip_names fs 2)] at this
      exact this
    · rw [hf] at h9; simpa using h9
    · intro d hd hda
      have := q d hd hda
      rw [hf] at this
      rw [show (((f, 1) :: fs.zipIdx 2).map (·.1)) = f :: fs from by rw [List.map_cons]; exact congrArg _ (zip_names fs 2)]
      exact this
end
/-- what stands behind the top -/
structure Top (P : Program) (w : World) (K : PySem.W.Frag) (mg : Str → Option Value) (N : Nms) (F : List FnD) (gv : Nat → Option T) (ix : Str → Option Nat) (wd : Str → Str → Option T) (cs : Cs) : Prop where
  glo : ∀ f : Nat, f < N.n → ∃ (d : FnD) (a : Addr), F[f]? = some d ∧ a = He.fAd K d.d.at_ ∧ mg (N.fn f) = some (.ref a)
  ix : ∀ x f, ix x = some f → f < N.n ∧ N.fn f = x
  wd : ∀ g z t, wd g z = some t → ∃ p v, mg g = some (.ref p) ∧ KDct K w p z v ∧ ∀ y ρ I H, Rep K ⟨mg, P, w, y⟩ ρ I H v t
  gl : ∀ x t, gv x = some t → ∃ v u, (mg (N.gl x) = some u ∨ (mg (N.gl x) = none ∧ bootBuiltins (N.gl x) = some u ∧ N.gl x ≠ "__name__")) ∧ RelV v u ∧ ∀ y ρ I H, Rep K ⟨mg, P, w, y⟩ ρ I H v t
  fn : ∀ (f : Nat) (d : FnD), F[f]? = some d → OkF N d ∧ ∃ fd : FuncData, FunD K d.d.name d.d.qual d.d.params d.d.body d.d.scope [] [] (He.fAd K d.d.at_) fd
  bl : ∀ b : Bf, mg b.name = none
  fr : ∀ x ∈ frees, mg x = none
  at_ : ∀ c f, cs.at_ c f = true → ∃ C, mg c = some (.ref C) ∧ Cls K C ∧ NoAttr K C f
  mt : ∀ (c m : Str) (f : Nat), cs.mt c m = some f → ∃ (C : Addr) (d : FnD), mg c = some (.ref C) ∧ Cls K C ∧ F[f]? = some d ∧ Meth K C m (He.fAd K d.d.at_)
  ini : ∀ (c : Str) (f : Nat), cs.ini c = some f → ∃ (C : Addr) (d : FnD), mg c = some (.ref C) ∧ F[f]? = some d ∧ Mk K C (He.fAd K d.d.at_)
  sm : ∀ (c : Str) (f : Nat), cs.mt c "__str__" = some f → ∃ (C : Addr) (d : FnD), mg c = some (.ref C) ∧ F[f]? = some d ∧ Meth K C "__str__" (He.fAd K d.d.at_) ∧ PySem.W.findIn K (.ref C) "__format__" = some (some (.builtin "object.__format__")) ∧ PySem.W.mroIn K C (.type "object") = some true
  xs : ∀ c fs, cs.xs c = some fs → ∃ (C : Addr) (z : XcD) (fd : FuncData), z.fs = fs ∧ okX z = true ∧ mg c = some (.ref C) ∧ OexC K C ∧ XfC K C ∧ (∀ f ∈ fs, PySem.W.findIn K (.ref C) f = some none) ∧ PySem.W.exmOne K (.ref C) (.ref C) = some true ∧
    PySem.W.findIn K (.ref C) "__init__" = some (some (.ref (He.fAd K z.d.at_))) ∧ PySem.W.typeIn K (.ref (He.fAd K z.d.at_)) = some (.type "function") ∧ FunD K z.d.name z.d.qual z.d.params z.d.body z.d.scope [] [] (He.fAd K z.d.at_) fd
section
variable {P : Program} {w : World} {K : PySem.W.Frag} {mg : Str → Option Value} {N : Nms} {F : List FnD} {gv : Nat → Option T} {ix : Str → Option Nat} {wd : Str → Str → Option T} {cs : Cs} {base : Heap}
abbrev tds (F : List FnD) : List FD := F.map (·.fd)
theorem call_len {f : Nat} {d : FnD} (e : F[f]? = some d) (o : OkF N d) : ∀ {k : Nat} {ts : List T} {h : Hs}, callK ⟨tds F, gv, ix, wd, cs⟩ k f ts h ≠ .bad → ts.length = d.ps.length
  | 0, ts, h, n => (n rfl).elim
  | 1, ts, h, n => (n rfl).elim
  | 2, ts, h, n => (n rfl).elim
  | k + 3, ts, h, n => by
    unfold callK at n
    rw [List.getElem?_map, e] at n
    have n : runD ⟨callK ⟨tds F, gv, ix, wd, cs⟩ (k + 2), callK ⟨tds F, gv, ix, wd, cs⟩ (k + 1), gv, ix, wd, cs⟩ d.fd ts h ≠ .bad := n
    unfold runD at n
    split at n
    · rename_i c; rw [c, o.ps]
    · exact (n rfl).elim
theorem fun_ok (T0 : Top P w K mg N F gv ix wd cs) (hN : N.hot = false) : ∀ (k f : Nat) (d : FnD) (fd : FuncData), F[f]? = some d → FunD K d.d.name d.d.qual d.d.params d.d.body d.d.scope [] [] (He.fAd K d.d.at_) fd →
    FnOk P w K mg base (L2.CX P w) k (He.fAd K d.d.at_) fd d.ps (spD K ⟨mg, P, w, none⟩ (callK ⟨tds F, gv, ix, wd, cs⟩ k f) d.ps.length)
  | 0, f, d, fd, e, D => by
    have no : ∀ {vs H Q E}, spD K ⟨mg, P, w, none⟩ (callK ⟨tds F, gv, ix, wd, cs⟩ 0 f) d.ps.length vs H Q E → False := fun h => by
      obtain ⟨_, ρ, I, h, ts, _, _, n⟩ := h
      exact n.elim
    exact ⟨fun vs H Q E h => (no h).elim, fun A outer s H args us vs Q E hr e0 hb r hs => (no hs).elim⟩
  | 1, f, d, fd, e, D => by
    have no : ∀ {vs H Q E}, spD K ⟨mg, P, w, none⟩ (callK ⟨tds F, gv, ix, wd, cs⟩ 1 f) d.ps.length vs H Q E → False := fun h => by
      obtain ⟨_, ρ, I, h, ts, _, _, n⟩ := h
      exact n.elim
    exact ⟨fun vs H Q E h => (no h).elim, fun A outer s H args us vs Q E hr e0 hb r hs => (no hs).elim⟩
  | 2, f, d, fd, e, D => by
    have no : ∀ {vs H Q E}, spD K ⟨mg, P, w, none⟩ (callK ⟨tds F, gv, ix, wd, cs⟩ 2 f) d.ps.length vs H Q E → False := fun h => by
      obtain ⟨_, ρ, I, h, ts, _, _, n⟩ := h
      exact n.elim
    exact ⟨fun vs H Q E h => (no h).elim, fun A outer s H args us vs Q E hr e0 hb r hs => (no hs).elim⟩
  | k + 3, f, d, fd, e, D => by
    obtain ⟨ok, _⟩ := T0.fn f d e
    refine D.ok ok.sc (fun vs H Q E h => h.1) (fun cdv A outer s H vs Q E hr h => ?_)
    obtain ⟨hl, ρ, I, hs, ts, hr0, rp, nx⟩ := h
    let X := cxOf (L2.CX P w) P w K mg base d.nm d.d.qual d.d.scope (He.fAd K d.d.at_) cdv A outer s H E
    have eM : X.M = ⟨mg, P, w, none⟩ := rfl
    have G : Gs X N ⟨callK ⟨tds F, gv, ix, wd, cs⟩ (k + 2), callK ⟨tds F, gv, ix, wd, cs⟩ (k + 1), gv, ix, wd, cs⟩ (k + 2) (fun cls d _ H' => E cls d H') :=
      { calm := fun _ => rfl
        room := fun _ => hr
        hu := by have := hr.un; show (A.deeper (envOfC d.d.qual d.d.scope s.heap.objs.size (He.fAd K d.d.at_) cdv)).units + 65 < cLine; omega
        nd := ok.sc.nd
        gl := T0.gl
        fn := fun g hg => by
          obtain ⟨d', a', e', rfl, m'⟩ := T0.glo g hg
          obtain ⟨ok', fd', D'⟩ := T0.fn g d' e'
          exact ⟨_, fd', d'.ps, m', D'.kp, FunD.bindsN D' d'.bind, fun_ok T0 hN (k + 2) g d' fd' e' D', fun ts h n => call_len e' ok' n⟩
        ix := T0.ix
        wd := T0.wd
        bl := T0.bl
        fr := T0.fr
        tk := takes_of rfl rfl rfl rfl
        at_ := T0.at_
        mt := fun c m f' ef => by
          obtain ⟨C, d', hm, cl, e', mth⟩ := T0.mt c m f' ef
          obtain ⟨ok', fd', D'⟩ := T0.fn f' d' e'
          exact ⟨C, _, fd', d'.ps, hm, cl, mth, FunD.bindsN D' d'.bind, fun_ok T0 hN (k + 2) f' d' fd' e' D', fun ts h n => call_len e' ok' n⟩
        ini := fun c f' ef => by
          obtain ⟨C, d', hm, e', mk⟩ := T0.ini c f' ef
          obtain ⟨ok', fd', D'⟩ := T0.fn f' d' e'
          exact ⟨C, _, fd', d'.ps, k + 1, hm, mk, FunD.bindsN D' d'.bind, fun _ => hr, fun_ok T0 hN (k + 1) f' d' fd' e' D', fun ts h n => call_len e' ok' n⟩
        sm := fun c f' ef => by
          obtain ⟨C, d', hm, e', mth, fm, mr⟩ := T0.sm c f' ef
          obtain ⟨ok', fd', D'⟩ := T0.fn f' d' e'
          exact ⟨C, _, fd', d'.ps, k + 1, hm, mth, FunD.bindsN D' d'.bind, fun _ => hr, fun_ok T0 hN (k + 1) f' d' fd' e' D', fun ts h n => call_len e' ok' n, fm, mr⟩
        om := fun c m f' ef => by
          obtain ⟨C, d', hm, cl, e', mth⟩ := T0.mt c m f' ef
          obtain ⟨ok', fd', D'⟩ := T0.fn f' d' e'
          exact ⟨C, _, fd', d'.ps, k + 1, hm, mth, FunD.bindsN D' d'.bind, fun _ => hr, fun_ok T0 hN (k + 1) f' d' fd' e' D', fun ts h n => call_len e' ok' n⟩
        xs := fun c fs ef => by
          obtain ⟨C, z, fd', efs, okz, hm, T, xf, hn, hx, iC, tI, D'⟩ := T0.xs c fs ef
          subst efs
          exact ⟨⟨C, hm, T, xf, hn, hx⟩, fun _ => ⟨C, _, fd', z.ps, 1, hm, iC, tI, xinit_ok okz D' T hn, hr.mono (by omega), FunD.bindsN D' z.bind⟩⟩
        xk := fun a oe z => by rw [eM] at z; cases z
        kind := ok.sc.kind
        fnl := fun _ => rfl
        po := fun _ => passes_of rfl
        stk := rfl
        frm := rfl }
    refine ⟨_, sSs d.fd.body G ok.m, ρ, I, startT d.fd.n ts, hs, hr0, ?_, ?_⟩
    · rw [ok.n]
      exact start_sr rp (by rw [hl]; exact ok.le)
    · unfold callK at nx
      rw [List.getElem?_map, e] at nx
      have nx : Nx K ⟨mg, P, w, none⟩ (fun cls d _ H' => E cls d H') [] ρ I hs H (runD ⟨callK ⟨tds F, gv, ix, wd, cs⟩ (k + 2), callK ⟨tds F, gv, ix, wd, cs⟩ (k + 1), gv, ix, wd, cs⟩ d.fd ts hs) fun r h' ρ' I' H' => ∀ v, RO K ⟨mg, P, w, none⟩ ρ' I' h' H' H [] [] v r → Q v H' := nx
      unfold runD at nx
      rw [if_pos (by rw [ok.ps, ← hl, rp.length])] at nx
      exact out_ns nx
end
end VY
namespace VY
open PySem PySem.Spec
open PyProof.Rows hiding St
open L2
mutual
def repB (K : PySem.W.Frag) : T → Value → Bool
  | .non, u => (match u with | .none => true | _ => false)
  | .bl b, u => (match u with | .bool c => b == c | _ => false)
  | .int i, u => (match u with | .int j _ => decide (i = j) | _ => false)
  | .str x, u => (match u with | .str y _ => decide (x = y) | _ => false)
  | .ty n, u => (match u with | .type m => decide (n = m) | _ => false)
  | .gl x, u => (match u with | .ref a => decide (PySem.W.nsIn K mainGlobals x = some (some (.ref a))) | _ => false)
  | .tup l, u => (match u with
    | .ref a => (match K.lookup a with
      | some ⟨.type c, _, .seq its _, _⟩ => decide (c = "tuple") && decide (its.size ≤ sizeLine) && repsB K l its.toList
      | _ => false)
    | _ => false)
  | .slst l, u => (match u with
    | .ref a => (match K.lookup a with
      | some ⟨.type c, none, .seq its _, _⟩ => decide (c = "list") && decide (its.size ≤ sizeLine) && repsB K l its.toList
      | _ => false)
    | _ => false)
  | _, _ => false
def repsB (K : PySem.W.Frag) : List T → List Value → Bool
  | [], [] => true
  | t :: l, u :: us => repB K t u && repsB K l us
  | _, _ => false
end
section
variable {K : PySem.W.Frag} {h : Heap} {mg : Mg}
mutual
theorem repB_of (X : K.In h) (G : h.Ns mainGlobals mg.f) : ∀ (t : T) (u : Value), repB K t u = true → ∃ v, RelV v u ∧ ∀ ρ I H, Rep K mg ρ I H v t
  | .non, u, e => by
    unfold repB at e; split at e
    · exact ⟨.non, rfl, fun _ _ _ => rfl⟩
    · exact ff e
  | .bl b, u, e => by
    unfold repB at e; split at e
    · rename_i c
      cases eq_of_beq (show (b == c) = true from e)
      exact ⟨.bl b, rfl, fun _ _ _ => rfl⟩
    · exact ff e
  | .int i, u, e => by
    unfold repB at e; split at e
    · cases of_decide_eq_true e
      exact ⟨.int i, ⟨_, rfl⟩, fun _ _ _ => rfl⟩
    · exact ff e
  | .str x, u, e => by
    unfold repB at e; split at e
    · cases of_decide_eq_true e
      exact ⟨.str x, ⟨_, rfl⟩, fun _ _ _ => rfl⟩
    · exact ff e
  | .ty n, u, e => by
    unfold repB at e; split at e
    · cases of_decide_eq_true e
      exact ⟨.ty n, rfl, fun _ _ _ => rfl⟩
    · exact ff e
  | .gl x, u, e => by
    unfold repB at e; split at e
    · rename_i a
      exact ⟨.ref a, rfl, fun _ _ _ => ⟨a, rfl, PySem.W.mg_of X G (of_decide_eq_true e)⟩⟩
    · exact ff e
  | .tup l, u, e => by
    unfold repB at e; split at e
    · rename_i a
      split at e
      · rename_i o c dd its n sl lk
        have q := and_tt e
        have q1 := and_tt q.1
        obtain ⟨vs, r, p⟩ := repsB_of X G l _ q.2
        exact ⟨.ref a, rfl, fun ρ I H => ⟨a, vs, rfl, .inr ⟨_, its, n, lk, congrArg Value.type (of_decide_eq_true q1.1), rfl, of_decide_eq_true q1.2, r⟩, p ρ I H⟩⟩
      · exact ff e
    · exact ff e
  | .slst l, u, e => by
    unfold repB at e; split at e
    · rename_i a
      split at e
      · rename_i o c its n sl lk
        have q := and_tt e
        have q1 := and_tt q.1
        obtain ⟨vs, r, p⟩ := repsB_of X G l _ q.2
        exact ⟨.ref a, rfl, fun ρ I H => ⟨a, vs, rfl, .inr ⟨_, its, n, lk, congrArg Value.type (of_decide_eq_true q1.1), rfl, rfl, of_decide_eq_true q1.2, r⟩, p ρ I H⟩⟩
      · exact ff e
    · exact ff e
  | .ref _, u, e => by unfold repB at e; exact ff e
  | .lst _, u, e => by unfold repB at e; exact ff e
  | .dct _, u, e => by unfold repB at e; exact ff e
  | .ins _ _, u, e => by unfold repB at e; exact ff e
  | .kst _, u, e => by unfold repB at e; exact ff e
  | .tst _, u, e => by unfold repB at e; exact ff e
theorem repsB_of (X : K.In h) (G : h.Ns mainGlobals mg.f) : ∀ (l : List T) (us : List Value), repsB K l us = true → ∃ vs, Vals vs us ∧ ∀ ρ I H, Reps K mg ρ I H vs l
  | [], [], _ => ⟨[], .nil, fun _ _ _ => trivial⟩
  | t :: l, u :: us, e => by
    have q := and_tt e
    obtain ⟨v, r, p⟩ := repB_of X G t u q.1
    obtain ⟨vs, rs, ps⟩ := repsB_of X G l us q.2
    exact ⟨v :: vs, .cons r rs, fun ρ I H => ⟨p ρ I H, ps ρ I H⟩⟩
  | [], _ :: _, e => ff e
  | _ :: _, [], e => ff e
end
end
/-- the module's values by names -/
abbrev Gvs := List (Str × T)
/-- the module's written dicts -/
abbrev Wds := List (Str × List (Str × T))
def wdOf (ws : Wds) : Str → Str → Option T := fun g z => (ws.find? fun q => decide (q.1 = g)).bind fun q => (q.2.find? fun e => decide (e.1 = z)).map (·.2)
def tabsOf (ws : Wds) : List He.Tab := ws.map fun q => (fun K => He.ga K q.1, q.2.map (·.1))
def exW (ws : Wds) (K : PySem.W.Frag) : Bool := ws.all fun q => decide (PySem.W.nsIn K mainGlobals q.1 = some (some (.ref (He.ga K q.1)))) && q.2.all fun e => match PySem.W.nsIn K (He.ga K q.1) e.1 with
  | some (some u) => repB K e.2 u
  | _ => false
def exG (gs : Gvs) (K : PySem.W.Frag) : Bool := gs.all fun g => match g.2 with
  | .ty _ => decide (PySem.W.nsIn K mainGlobals g.1 = some none)
  | t => (match PySem.W.nsIn K mainGlobals g.1 with
    | some (some u) => repB K t u
    | _ => false)
/-- a class: its fields, methods, __init__ -/
structure ClsD where
  name : Str
  fields : List Str
  mts : List (Str × Nat)
  ini : Option Nat
/-- a text: defs, values, written dicts, classes, exceptions -/
structure Tx where
  F : List FnD
  gs : Gvs
  ws : Wds
  cl : List ClsD
  xc : List XcD
def csOf (t : Tx) : Cs where
  at_ := fun c f => t.cl.any fun z => decide (z.name = c) && z.fields.contains f
  mt := fun c m => (t.cl.find? fun z => decide (z.name = c)).bind fun z => (z.mts.find? fun p => decide (p.1 = m)).map (·.2)
  ini := fun c => (t.cl.find? fun z => decide (z.name = c)).bind fun z => z.ini
  xs := fun c => (t.xc.find? fun z => decide (z.name = c)).map (·.fs)
/-- an own exception class over ValueError, looked at -/
def xcB (K : PySem.W.Frag) (z : XcD) : Bool := (match K.lookup (He.ga K z.name) with
  | some ⟨.type c, _, .cls cd, sl⟩ => (match cd.mro, sl.toList with
    | .ref C' :: bm, [_, _, _, _, some (.builtin n), _] => decide (c = "type") && (C' == He.ga K z.name) && decide (n = "ValueError.__new__") && !cd.hasDel && cd.hasDict && PySem.HandSPX.refsVE bm
    | _, _ => false)
  | _ => false) &&
  (decide (PySem.W.findIn K (.ref (He.ga K z.name)) "__setattr__" = some (some (.builtin "object.__setattr__"))) && (decide (PySem.W.subIn K (.ref (He.ga K z.name)) (.type "BaseException") = some true) && (decide (PySem.W.typeIn K (.ref (He.ga K z.name)) = some (.type "type")) && (PySem.W.keepIn K (.ref (He.ga K z.name)) &&
  (xfB K (He.ga K z.name) && (z.fs.all (fun f => decide (PySem.W.findIn K (.ref (He.ga K z.name)) f = some none)) && (decide (PySem.W.exmOne K (.ref (He.ga K z.name)) (.ref (He.ga K z.name)) = some true) &&
  (decide (PySem.W.findIn K (.ref (He.ga K z.name)) "__init__" = some (some (.ref (He.fAd K z.d.at_)))) && (decide (PySem.W.typeIn K (.ref (He.fAd K z.d.at_)) = some (.type "function")) &&
  decide (PySem.W.nsIn K mainGlobals z.name = some (some (.ref (He.ga K z.name)))))))))))))
theorem xcB_oex {K : PySem.W.Frag} {z : XcD} (h : xcB K z = true) : OexC K (He.ga K z.name) ∧ XfC K (He.ga K z.name) ∧ (∀ f ∈ z.fs, PySem.W.findIn K (.ref (He.ga K z.name)) f = some none) ∧ PySem.W.exmOne K (.ref (He.ga K z.name)) (.ref (He.ga K z.name)) = some true ∧
    PySem.W.findIn K (.ref (He.ga K z.name)) "__init__" = some (some (.ref (He.fAd K z.d.at_))) ∧ PySem.W.typeIn K (.ref (He.fAd K z.d.at_)) = some (.type "function") ∧ PySem.W.nsIn K mainGlobals z.name = some (some (.ref (He.ga K z.name))) := by
  have a0 := and_tt h
  have a1 := and_tt a0.2
  have a2 := and_tt a1.2
  have a3 := and_tt a2.2
  have a4 := and_tt a3.2
  have a5 := and_tt a4.2
  have a6 := and_tt a5.2
  have a7 := and_tt a6.2
  have a8 := and_tt a7.2
  have a9 := and_tt a8.2
  refine ⟨⟨?_, of_decide_eq_true a1.1, of_decide_eq_true a2.1, of_decide_eq_true a3.1, a4.1⟩, xfB_ok a5.1, fun f hf => of_decide_eq_true (List.all_eq_true.mp a6.1 f hf), of_decide_eq_true a7.1, of_decide_eq_true a8.1, of_decide_eq_true a9.1, of_decide_eq_true a9.2⟩
  have q := a0.1
  split at q
  · rename_i c dd cd sl ho
    split at q
    · rename_i C' bm k0 k1 k2 k3 n k5 hm hs
      have b0 := and_tt q
      have b1 := and_tt b0.1
      have b2 := and_tt b1.1
      have b3 := and_tt b2.1
      have b4 := and_tt b3.1
      have e1 := of_decide_eq_true b4.1
      have e2 : C' = He.ga K z.name := by simpa using b4.2
      have e3 := of_decide_eq_true b3.2
      have e4 : cd.hasDel = false := by simpa using b2.2
      obtain ⟨nm, bs, mro, ns, qn, hd, sn, sub, ab, col, del⟩ := cd
      dsimp only at hm e4 b1 b0
      subst hm e4
      have e5 : hd = true := b1.2
      subst e5
      have hsl : sl = #[k0, k1, k2, k3, some (.builtin n), k5] := by
        obtain ⟨l⟩ := sl
        simp only at hs
        rw [hs]
      subst hsl
      subst e3
      rw [e1, e2] at ho
      exact ⟨nm, qn, ns, bs, bm, sn, sub, ab, col, dd, k0, k1, k2, k3, k5, ho, b0.2⟩
    · exact ff q
  · exact ff q
/-- what a class with a text of its own must have -/
def csB (K : PySem.W.Frag) (z : ClsD) : Bool := !(z.mts.any fun p => decide (p.1 = "__str__")) || (decide (PySem.W.findIn K (.ref (He.ga K z.name)) "__format__" = some (some (.builtin "object.__format__"))) && decide (PySem.W.mroIn K (He.ga K z.name) (.type "object") = some true))
def exB (t : Tx) (K : PySem.W.Frag) : Bool := exG t.gs K && (exW t.ws K && (t.xc.all (xcB K) && t.cl.all (csB K)))
/-- the built-in types -/
def tyB (gs : Gvs) : Bool := gs.all fun g => match g.2 with
  | .ty n => (match bootBuiltins g.1 with
    | some (.type m) => decide (m = n) && decide (g.1 ≠ "__name__")
    | _ => false)
  | _ => true
def allBf : List Bf := [.len, .abs, .int, .str, .isinstance, .max, .min, .tuple, .list, .sum, .any, .all, .sorted]
theorem allBf_all : ∀ b : Bf, b ∈ allBf := fun b => by cases b <;> simp [allBf]
def isGlo (f : FnD) : Bool := f.d.at_.2.isNone
def faCl (z : ClsD) : List He.Fa := .glo z.name :: .cls z.name :: ((z.fields.map (.noat z.name)) ++ ((z.mts.map fun p => .meth z.name p.1) ++ match z.ini with | some _ => [.mkr z.name] | none => []))
def faOf (t : Tx) : List He.Fa := (t.F.filter isGlo).map (fun f => .glo f.d.name) ++ ((frees.map .free ++ allBf.map fun b => .free b.name) ++ (t.cl.map faCl).flatten)
def fnOf (t : Tx) : List He.DefD := t.F.map (·.d) ++ t.xc.map (·.d)
def nmsOf (t : Tx) : Nms := ⟨(t.F.takeWhile isGlo).length, fun f => (t.F[f]?.map (·.d.name)).getD Str.empty, fun g => (t.gs[g]?.map (·.1)).getD Str.empty, false⟩
def gvOf (gs : Gvs) : Nat → Option T := fun g => gs[g]?.map (·.2)
def ixOf (F : List FnD) : Str → Option Nat := fun x => (F.takeWhile isGlo).findIdx? fun f => decide (f.d.name = x)
/-- the text as the interpreter has it -/
def pgOf (t : Tx) : Pg := ⟨tds t.F, gvOf t.gs, ixOf t.F, wdOf t.ws, csOf t⟩
def okCl (t : Tx) (z : ClsD) : Bool := (z.mts.all fun p => match t.F[p.2]? with
  | some f => decide (f.d.at_ = (z.name, some p.1))
  | none => false) && (match z.ini with
  | some i => (match t.F[i]? with
    | some f => decide (f.d.at_ = (z.name, some ("__init__" : Str)))
    | none => false)
  | none => true)
def okAll (t : Tx) : Bool := (t.F.all fun f => okF (nmsOf t) f && (!isGlo f || decide (f.d.at_ = (f.d.name, none)))) && ((t.cl.all (okCl t)) && t.xc.all okX)
abbrev vyHook (n : Nat) (t : Tx) : PySem.W.Hook := He.hookX n (faOf t) (fnOf t) (tabsOf t.ws) [] (exB t)
theorem take_get {α : Type} {p : α → Bool} : ∀ {l : List α} {i : Nat}, i < (l.takeWhile p).length → ∃ x, l[i]? = some x ∧ p x = true ∧ (l.takeWhile p)[i]? = some x
  | [], i, h => by simp at h
  | x :: l, i, h => by
    rw [List.takeWhile_cons] at h ⊢
    split at h
    · rename_i c
      rw [if_pos c]
      cases i with
      | zero => exact ⟨x, rfl, c, rfl⟩
      | succ i =>
        obtain ⟨y, h1, h2, h3⟩ := take_get (l := l) (i := i) (by simpa using h)
        exact ⟨y, by simpa using h1, h2, by simpa using h3⟩
    · simp at h
theorem top_of {P : Program} {w : World} {K : PySem.W.Frag} {h : Heap} {mg : Str → Option Value} {t : Tx} (X : K.In h) (G : h.Ns mainGlobals mg) (c : He.SaysX (faOf t) (fnOf t) (tabsOf t.ws) [] (exB t) w h K) (ok : okAll t = true) (tb : tyB t.gs = true) :
    Top P w K mg (nmsOf t) t.F (gvOf t.gs) (ixOf t.F) (wdOf t.ws) (csOf t) := by
  have okF_ := (and_tt ok).1
  have okC := (and_tt (and_tt ok).2).1
  have okX_ := (and_tt (and_tt ok).2).2
  have mG := (and_tt c.more).1
  have mW := (and_tt (and_tt c.more).2).1
  have mX := (and_tt (and_tt (and_tt c.more).2).2).1
  have mC := (and_tt (and_tt (and_tt c.more).2).2).2
  have fnD : ∀ (f : Nat) (d : FnD), t.F[f]? = some d → OkF (nmsOf t) d ∧ ∃ fd : FuncData, FunD K d.d.name d.d.qual d.d.params d.d.body d.d.scope [] [] (He.fAd K d.d.at_) fd := fun f d e => by
    have hm := List.mem_of_getElem? e
    have o := okF_of (and_tt (List.all_eq_true.mp okF_ d hm)).1
    obtain ⟨fd, D⟩ := c.t.d.defs (d := d.d) (List.mem_append_left _ (List.mem_map_of_mem (f := fun x : FnD => x.d) hm))
    have d0 : d.d.dvs K = [] := by unfold He.DefD.dvs; rw [o.dfl]; rfl
    have k0 : d.d.kws K = [] := by unfold He.DefD.kws; rw [o.kwd]; rfl
    rw [d0, k0] at D
    exact ⟨o, fd, D⟩
  have fct : ∀ {z : ClsD} {a : He.Fa}, z ∈ t.cl → a ∈ faCl z → a.ok K = true := fun {z a} hz ha =>
    c.t.d.facts (List.mem_append_right _ (List.mem_append_right _ (List.mem_flatten.mpr ⟨faCl z, List.mem_map_of_mem (f := faCl) hz, ha⟩)))
  have gloC : ∀ {z : ClsD}, z ∈ t.cl → mg z.name = some (.ref (He.ga K z.name)) := fun {z} hz => He.glo_ok X G (fct hz (by unfold faCl; exact List.mem_cons_self ..))
  have clsC : ∀ {z : ClsD}, z ∈ t.cl → Cls K (He.ga K z.name) := fun {z} hz => He.cls_ok (fct hz (by unfold faCl; exact List.mem_cons_of_mem _ (List.mem_cons_self ..)))
  refine { glo := ?_, ix := ?_, wd := ?_, gl := ?_, fn := fnD, bl := ?_, fr := ?_, at_ := ?_, mt := ?_, ini := ?_, sm := ?_, xs := ?_ }
  · intro f hf
    obtain ⟨d, e, hg, _⟩ := take_get (p := isGlo) (l := t.F) (i := f) hf
    have hm := List.mem_of_getElem? e
    have ea : d.d.at_ = (d.d.name, none) := by
      have q := (and_tt (List.all_eq_true.mp okF_ d hm)).2
      rw [hg] at q
      exact of_decide_eq_true (by simpa using q)
    have hn : (nmsOf t).fn f = d.d.name := by show (t.F[f]?.map (·.d.name)).getD Str.empty = d.d.name; rw [e]; rfl
    have g := He.glo_ok X G (c.t.d.facts (f := .glo d.d.name) (List.mem_append_left _ (List.mem_map_of_mem (f := fun x : FnD => He.Fa.glo x.d.name) (List.mem_filter.mpr ⟨hm, hg⟩))))
    have ef : He.fAd K d.d.at_ = He.ga K d.d.name := by rw [ea]; rfl
    refine ⟨d, _, e, rfl, ?_⟩
    rw [hn, ef]
    exact g
  · intro x f e
    unfold ixOf at e
    rw [List.findIdx?_eq_some_iff_getElem] at e
    obtain ⟨hf, e, _⟩ := e
    refine ⟨hf, ?_⟩
    obtain ⟨d, e1, _, e2⟩ := take_get (p := isGlo) (l := t.F) (i := f) hf
    rw [List.getElem?_eq_getElem hf] at e2
    cases e2
    show (t.F[f]?.map (·.d.name)).getD Str.empty = x
    rw [e1]
    exact of_decide_eq_true e
  · intro g z u e
    unfold wdOf at e
    obtain ⟨q, eq, e⟩ := Option.bind_eq_some_iff.mp e
    obtain ⟨kt, ek, rfl⟩ := Option.map_eq_some_iff.mp e
    have hq := List.mem_of_find?_eq_some eq
    have hk := List.mem_of_find?_eq_some ek
    have e1 : q.1 = g := of_decide_eq_true (List.find?_some (p := fun q : Str × List (Str × T) => decide (q.1 = g)) eq)
    have e2 : kt.1 = z := of_decide_eq_true (List.find?_some (p := fun e : Str × T => decide (e.1 = z)) ek)
    subst e1 e2
    have m := and_tt (List.all_eq_true.mp mW q hq)
    have m2 := List.all_eq_true.mp m.2 kt hk
    obtain ⟨i, hi, hi2⟩ := List.mem_iff_getElem.mp hq
    obtain ⟨es, n, kd⟩ := c.t.tab i (t := (fun K => He.ga K q.1, q.2.map (·.1))) (by
      unfold tabsOf
      rw [List.getElem?_map, List.getElem?_eq_getElem hi, hi2]
      rfl)
    split at m2
    · rename_i u eu
      have key := fun y => repB_of (mg := ⟨mg, P, w, y⟩) X G kt.2 u m2
      obtain ⟨v, r, p⟩ := key none
      exact ⟨He.ga K q.1, v, PySem.W.mg_of X G (of_decide_eq_true m.1), ⟨es, n, u, kd.at_, kd.lit, eu, r⟩, fun y ρ I H => Rep.xe (p ρ I H)⟩
    · exact ff m2
  · intro x u e
    unfold gvOf at e
    cases eg : t.gs[x]? with
    | none => rw [eg] at e; cases e
    | some g =>
      rw [eg] at e
      cases e
      have hn : (nmsOf t).gl x = g.1 := by show (t.gs[x]?.map (·.1)).getD Str.empty = g.1; rw [eg]; rfl
      rw [hn]
      have hm := List.all_eq_true.mp mG g (List.mem_of_getElem? eg)
      have ht := List.all_eq_true.mp tb g (List.mem_of_getElem? eg)
      have key : (∀ n, g.2 ≠ .ty n) → ∃ v u, (mg g.1 = some u ∨ (mg g.1 = none ∧ bootBuiltins g.1 = some u ∧ g.1 ≠ "__name__")) ∧ RelV v u ∧ ∀ y ρ I H, Rep K ⟨mg, P, w, y⟩ ρ I H v g.2 := fun nt => by
        have hm2 : (match PySem.W.nsIn K mainGlobals g.1 with
          | some (some u) => repB K g.2 u
          | _ => false) = true := by
          split at hm
          · rename_i n e; exact (nt n e).elim
          · exact hm
        split at hm2
        · rename_i u e
          obtain ⟨v, r, p⟩ := repB_of (mg := ⟨mg, P, w, none⟩) X G g.2 u hm2
          exact ⟨v, u, .inl (PySem.W.mg_of X G e), r, fun y ρ I H => Rep.xe (p ρ I H)⟩
        · exact ff hm2
      cases et : g.2 with
      | ty n =>
        rw [et] at hm ht
        simp only [] at hm ht
        split at ht
        · rename_i m eb
          have q := and_tt ht
          have em : m = n := of_decide_eq_true q.1
          subst em
          show ∃ v u, _ ∧ _ ∧ ∀ y ρ I H, Rep K ⟨mg, P, w, y⟩ ρ I H v g.2
          rw [et]
          exact ⟨.ty m, .type m, .inr ⟨PySem.W.mg_none_of X G (of_decide_eq_true hm), eb, of_decide_eq_true q.2⟩, rfl, fun _ _ _ _ => rfl⟩
        · exact ff ht
      | _ => exact key fun n z => by rw [et] at z; cases z
  · exact fun b => He.free_ok X G (c.t.d.facts (f := .free b.name) (List.mem_append_right _ (List.mem_append_left _ (List.mem_append_right _ (List.mem_map_of_mem (f := fun b : Bf => He.Fa.free b.name) (allBf_all b))))))
  · exact fun x hx => He.free_ok X G (c.t.d.facts (f := .free x) (List.mem_append_right _ (List.mem_append_left _ (List.mem_append_left _ (List.mem_map_of_mem (f := He.Fa.free) hx)))))
  · intro cn f e
    obtain ⟨z, hz, q⟩ := List.any_eq_true.mp (show (t.cl.any fun z => decide (z.name = cn) && z.fields.contains f) = true from e)
    have q' := and_tt q
    have en : z.name = cn := of_decide_eq_true q'.1
    subst en
    have hf : f ∈ z.fields := by simpa using q'.2
    exact ⟨He.ga K z.name, gloC hz, clsC hz, He.noat_ok (fct hz (by unfold faCl; exact List.mem_cons_of_mem _ (List.mem_cons_of_mem _ (List.mem_append_left _ (List.mem_map_of_mem (f := He.Fa.noat z.name) hf)))))⟩
  · intro cn m f e
    obtain ⟨z, ez, e⟩ := Option.bind_eq_some_iff.mp (show ((t.cl.find? fun z => decide (z.name = cn)).bind fun z => (z.mts.find? fun p => decide (p.1 = m)).map (·.2)) = some f from e)
    obtain ⟨p, ep, rfl⟩ := Option.map_eq_some_iff.mp e
    have hz := List.mem_of_find?_eq_some ez
    have hp := List.mem_of_find?_eq_some ep
    have en : z.name = cn := of_decide_eq_true (List.find?_some (p := fun z : ClsD => decide (z.name = cn)) ez)
    have em : p.1 = m := of_decide_eq_true (List.find?_some (p := fun p : Str × Nat => decide (p.1 = m)) ep)
    subst en em
    have q := List.all_eq_true.mp (and_tt (List.all_eq_true.mp okC z hz)).1 p hp
    split at q
    · rename_i d ed
      have ea := of_decide_eq_true q
      have mt := He.meth_ok (fct (a := .meth z.name p.1) hz (by unfold faCl; exact List.mem_cons_of_mem _ (List.mem_cons_of_mem _ (List.mem_append_right _ (List.mem_append_left _ (List.mem_map_of_mem (f := fun p : Str × Nat => He.Fa.meth z.name p.1) hp))))))
      have ef : He.fAd K d.d.at_ = He.ma K (He.ga K z.name) p.1 := by rw [ea]; rfl
      exact ⟨He.ga K z.name, d, gloC hz, clsC hz, ed, ef ▸ mt⟩
    · exact ff q
  · intro cn f e
    obtain ⟨z, ez, ei⟩ := Option.bind_eq_some_iff.mp (show ((t.cl.find? fun z => decide (z.name = cn)).bind fun z => z.ini) = some f from e)
    have hz := List.mem_of_find?_eq_some ez
    have en : z.name = cn := of_decide_eq_true (List.find?_some (p := fun z : ClsD => decide (z.name = cn)) ez)
    subst en
    have q := (and_tt (List.all_eq_true.mp okC z hz)).2
    rw [ei] at q
    simp only [] at q
    split at q
    · rename_i d ed
      have ea := of_decide_eq_true q
      have mk := He.mkr_ok (fct (a := .mkr z.name) hz (by unfold faCl; rw [ei]; exact List.mem_cons_of_mem _ (List.mem_cons_of_mem _ (List.mem_append_right _ (List.mem_append_right _ (List.mem_singleton.mpr rfl))))))
      have ef : He.fAd K d.d.at_ = He.ma K (He.ga K z.name) "__init__" := by rw [ea]; rfl
      exact ⟨He.ga K z.name, d, gloC hz, ed, ef ▸ mk⟩
    · exact ff q
  · intro cn f e
    obtain ⟨z, ez, e⟩ := Option.bind_eq_some_iff.mp (show ((t.cl.find? fun z => decide (z.name = cn)).bind fun z => (z.mts.find? fun p => decide (p.1 = ("__str__" : Str))).map (·.2)) = some f from e)
    obtain ⟨p, ep, rfl⟩ := Option.map_eq_some_iff.mp e
    have hz := List.mem_of_find?_eq_some ez
    have hp := List.mem_of_find?_eq_some ep
    have en : z.name = cn := of_decide_eq_true (List.find?_some (p := fun z : ClsD => decide (z.name = cn)) ez)
    have em : p.1 = "__str__" := of_decide_eq_true (List.find?_some (p := fun p : Str × Nat => decide (p.1 = "__str__")) ep)
    subst en
    have cs := List.all_eq_true.mp mC z hz
    unfold csB at cs
    rw [show (z.mts.any fun p => decide (p.1 = "__str__")) = true from List.any_eq_true.mpr ⟨p, hp, decide_eq_true em⟩] at cs
    have cs2 := and_tt (show (decide _ && decide _) = true from cs)
    have q := List.all_eq_true.mp (and_tt (List.all_eq_true.mp okC z hz)).1 p hp
    split at q
    · rename_i d ed
      have ea := of_decide_eq_true q
      have mt := He.meth_ok (fct (a := .meth z.name p.1) hz (by unfold faCl; exact List.mem_cons_of_mem _ (List.mem_cons_of_mem _ (List.mem_append_right _ (List.mem_append_left _ (List.mem_map_of_mem (f := fun p : Str × Nat => He.Fa.meth z.name p.1) hp))))))
      have ef : He.fAd K d.d.at_ = He.ma K (He.ga K z.name) p.1 := by rw [ea]; rfl
      exact ⟨He.ga K z.name, d, gloC hz, ed, em ▸ ef ▸ mt, of_decide_eq_true cs2.1, of_decide_eq_true cs2.2⟩
    · exact ff q
  · intro cn fs e
    obtain ⟨z, ez, rfl⟩ := Option.map_eq_some_iff.mp (show (t.xc.find? fun z => decide (z.name = cn)).map (·.fs) = some fs from e)
    have hz := List.mem_of_find?_eq_some ez
    have en : z.name = cn := of_decide_eq_true (List.find?_some (p := fun z : XcD => decide (z.name = cn)) ez)
    subst en
    obtain ⟨h1, h2, h3, h4, h5, h6, h7⟩ := xcB_oex (List.all_eq_true.mp mX z hz)
    have okz := List.all_eq_true.mp okX_ z hz
    obtain ⟨fd, D⟩ := c.t.d.defs (d := z.d) (List.mem_append_right _ (List.mem_map_of_mem (f := fun x : XcD => x.d) hz))
    have q := and_tt okz
    have q1 := and_tt q.1
    have d0 : z.d.dvs K = [] := by unfold He.DefD.dvs; rw [List.isEmpty_iff.mp q1.2]; rfl
    have k0 : z.d.kws K = [] := by unfold He.DefD.kws; rw [List.isEmpty_iff.mp q.2]; rfl
    rw [d0, k0] at D
    exact ⟨He.ga K z.name, z, fd, rfl, okz, PySem.W.mg_of X G h7, h1, h2, h3, h4, h5, h6, D⟩
/-- the law's def, called with a script -/
theorem vy_law {P : Program} {w : World} {K : PySem.W.Frag} {h : Heap} {mg : Str → Option Value} {tx : Tx} (X : K.In h) (G : h.Ns mainGlobals mg) (c : He.SaysX (faOf tx) (fnOf tx) (tabsOf tx.ws) [] (exB tx) w h K) (ok : okAll tx = true) (tb : tyB tx.gs = true)
    {li k most : Nat} {dl : FnD} {x : Str} {fa : Addr} (e : tx.F[li]? = some dl) (ea : dl.d.at_ = (dl.d.name, none)) (ep : dl.ps = [x]) (hfa : mg dl.d.name = some (.ref fa))
    (hl : ∀ ns : List Int, ns.length ≤ most → ∃ h', callK (pgOf tx) k li [.slst (ns.map .int)] [] = .ok (.v (.bl true)) h') :
    ∃ (fd : FuncData) (sp : Sp), (∀ (s : Shared) (u : Value), BindsTo s fd ⟨[u], []⟩ [(x, u)]) ∧
      (∀ (H : Hp) (a : Addr) (ns : List Int), ns.length ≤ most → Only H → SqL K H a (ns.map V.int) → sp [.ref a] H (fun v _ => v = .bl true) fun _ _ _ => False) ∧
      ∀ base : Heap, K.In base → base.Ns mainGlobals mg → FnOk P w K mg base (L2.CX P w) k fa fd [x] sp := by
  have T0 := top_of (P := P) X G c ok tb
  obtain ⟨o, fd, D⟩ := T0.fn li dl e
  have hm := List.mem_of_getElem? e
  have g := He.glo_ok X G (c.t.d.facts (f := .glo dl.d.name) (List.mem_append_left _ (List.mem_map_of_mem (f := fun x : FnD => He.Fa.glo x.d.name) (List.mem_filter.mpr ⟨hm, by unfold isGlo; rw [ea]; rfl⟩))))
  have ef : He.fAd K dl.d.at_ = He.ga K dl.d.name := by rw [ea]; rfl
  rw [g] at hfa
  have efa : He.fAd K dl.d.at_ = fa := by rw [ef]; cases hfa; rfl
  have b := FunD.bindsA D dl.bind
  rw [ep] at b
  refine ⟨fd, spD K ⟨mg, P, w, none⟩ (callK (pgOf tx) k li) dl.ps.length, fun s u => b s [u] rfl, fun H a ns hle _ hS => ?_, fun base _ _ => by rw [← ep, ← efa]; exact fun_ok T0 rfl k li dl fd e D⟩
  rw [ep]
  obtain ⟨h', hc⟩ := hl ns hle
  have reps : ∀ ρ I, Reps K ⟨mg, P, w, none⟩ ρ I H (ns.map V.int) (ns.map T.int) := fun ρ I => by
    clear hle hS hc hl
    induction ns with
    | nil => exact trivial
    | cons n ns ih => exact ⟨rfl, ih⟩
  have done : ∀ I : Addr → Prop, (∀ b, I b → (H b).isSome) → ((I a ∧ Rd H a (.lst (ns.map V.int))) ∨ StL K a (ns.map V.int)) → spD K ⟨mg, P, w, none⟩ (callK (pgOf tx) k li) [x].length [.ref a] H (fun v _ => v = .bl true) fun _ _ _ => False := fun I hI hr => by
    refine ⟨rfl, [], I, [], [.slst (ns.map .int)], ⟨rfl, fun n m a o o' e => by simp at e, fun a l => ?_, hI, fun n o a e => by simp at e⟩, ⟨⟨a, ns.map V.int, rfl, hr, reps _ _⟩, trivial⟩, ?_⟩
    · obtain ⟨n, o, e, _⟩ := l
      simp at e
    · rw [hc]
      exact fun ρ' I' H' x' r' v q => q
  rcases hS with hS | ⟨o, its, n, lk, c1, c2, c3, c4, c5⟩
  · refine done (fun b => b = a) (fun b e => ?_) (.inl ⟨rfl, hS⟩)
    subst e
    rcases hS with z | ⟨_, z⟩ <;> rw [z] <;> rfl
  · exact done (fun _ => False) (fun _ z => z.elim) (.inr ⟨o, its, n, lk, c1, c2, c3, c4, c5⟩)
/-- the walk over a law whose def may raise: what may come out depends on the world -/
theorem walk_vy {l : PySem.W.OpenLaw} {n k : Nat} {q : Program} {loose : List Str} {XP : (Str → Option Value) → Heap → Prop} {YP : World → Heap → Prop} {d : DefRec} {x : Str} (hn : l.most = some n) (hn2 : n ≤ sizeLine) (hdf : d.params.defaults = []) (hr : Room k callerA)
    (told : ∀ (w : World) (mg : Str → Option Value) (fa : Addr) (h : Heap), YP w h → h.Ns mainGlobals mg → mg d.name = some (.ref fa) →
      ∃ (K : PySem.W.Frag) (fd : FuncData) (sp : Sp), K.In h ∧ (∀ (s : Shared) (u : Value), BindsTo s fd ⟨[u], []⟩ [(x, u)]) ∧
        (∀ (H : Hp) (a : Addr) (ns : List Int), ns.length ≤ n → Only H → SqL K H a (ns.map V.int) → sp [.ref a] H (fun v _ => v = .bl true) fun _ _ _ => False) ∧
        ∀ base : Heap, K.In base → base.Ns mainGlobals mg → FnOk l.prog w K mg base (L2.CX l.prog w) k fa fd [x] sp) : PySem.W.WalkO q loose XP YP l.row.toRowW d [] (fun f vs => PySem.call f vs) := by
  refine Att.attach_call hn hdf fun w z z1 mg mb fa o pm cd doc a ns' ns G Y _ _ _ hmg ho hi hle hg => ?_
  obtain ⟨K, fd, sp, KX, hb, hs, hF⟩ := told w mg fa _ Y G.T.g hmg
  refine law_call KX G.T.g G.T.b G.T.builtins G.T.nolimit hg ho hi (Nat.le_trans hle hn2) hr hF hb (fun H hO hS => hs H a ns hle hO hS) fun H e s' => ?_
  rintro ⟨_, _, _, _, _, _, _, _, _, _, _, _, z⟩
  exact z
end VY
namespace VY
open PySem
section
variable (Γ : Ctx) (cz : Cs) (σ : Slots) (h : Hs)
def varE (i : Nat) (o : Option (Option Sl)) (h : Hs) : Out R := match o with
  | some (some (.v t)) => .ok (.v t) h
  | some (some (.al _)) => .ok (.bw i) h
  | _ => .bad
@[simp] theorem varE_v (i : Nat) (t : T) : varE i (some (some (.v t))) h = .ok (.v t) h := (rfl)
@[simp] theorem varE_al (i : Nat) (l : List T) : varE i (some (some (.al l))) h = .ok (.bw i) h := (rfl)
@[simp] theorem CT_int (i : Int) : (CT.int i).t = .int i := (rfl)
@[simp] theorem CT_str (i : Str) : (CT.str i).t = .str i := (rfl)
@[simp] theorem CT_bl (i : Bool) : (CT.bl i).t = .bl i := (rfl)
@[simp] theorem CT_non : CT.non.t = .non := (rfl)
@[simp] theorem evE_c (k : CT) : evE Γ (.c k) σ h = .ok (.v k.t) h := by rw [evE]
@[simp] theorem evE_var (i : Nat) : evE Γ (.var i) σ h = varE i σ[i]? h := by
  rw [evE]; unfold varE; rfl
@[simp] theorem evE_gl (x : Nat) : evE Γ (.gl x) σ h = lift ((Γ.gv x).map .v) h := by rw [evE]
@[simp] theorem evE_bin (op : Operator) (a b : E) : evE Γ (.bin op a b) σ h = (evE Γ a σ h).bind fun x h1 => (evE Γ b σ h1).bind fun y h2 => opL σ op x y h2 := by rw [evE]
def negL (x : R) (h : Hs) : Out R := match x with
  | .v (.int i) => .ok (.v (.int (-i))) h
  | _ => .bad
@[simp] theorem negL_int (i : Int) : negL (.v (.int i)) h = .ok (.v (.int (-i))) h := (rfl)
@[simp] theorem evE_neg (a : E) : evE Γ (.neg a) σ h = (evE Γ a σ h).bind negL := by rw [evE]; rfl
@[simp] theorem evE_not (a : E) : evE Γ (.not a) σ h = (evE Γ a σ h).bind fun x h1 => (truL σ x h1).bind fun b h2 => .ok (.v (.bl (!b))) h2 := by rw [evE]
@[simp] theorem evE_bop (op : BoolOp) (es : List E) : evE Γ (.bop op es) σ h = evB Γ op es σ h := by rw [evE]
@[simp] theorem evE_cmp (op : CmpOp) (a b : E) : evE Γ (.cmp op a b) σ h = (evE Γ a σ h).bind fun x h1 => (evE Γ b σ h1).bind fun y h2 => (cmpL σ op x y h2).bind fun k h3 => .ok (.v (.bl k)) h3 := by rw [evE]
@[simp] theorem evE_ch (op op' : CmpOp) (a b c : E) : evE Γ (.ch op op' a b c) σ h = (evE Γ a σ h).bind fun x h1 => (evE Γ b σ h1).bind fun y h2 => (cmpL σ op x y h2).bind fun k h3 =>
      if k then (evE Γ c σ h3).bind fun z h4 => (cmpL σ op' y z h4).bind fun k' h5 => .ok (.v (.bl k')) h5 else .ok (.v (.bl false)) h3 := by rw [evE]
@[simp] theorem evE_ife (c : C) (a b : E) : evE Γ (.ife c a b) σ h = (evC Γ c σ h).bind fun k h1 => if k then evE Γ a σ h1 else evE Γ b σ h1 := by rw [evE]
@[simp] theorem evE_tup (es : List E) : evE Γ (.tup es) σ h = (evEs Γ es σ h).bind fun ts h1 => if ts.length ≤ SL then .ok (.v (.tup ts)) h1 else .bad := by rw [evE]
@[simp] theorem evE_lst (es : List E) : evE Γ (.lst es) σ h = (evEs Γ es σ h).bind fun ts h1 => if ts.length ≤ SL then .ok (.al ts) h1 else .bad := by rw [evE]
@[simp] theorem evE_ix (a b : E) : evE Γ (.ix a b) σ h = (evE Γ a σ h).bind fun x h1 => (evE Γ b σ h1).bind fun y h2 => ixL Γ.wd σ x y h2 := by rw [evE]
def slL (σ : Slots) (x : R) (l u : Option Int) (h : Hs) : Out R := match peek σ h x with
  | some t => lift (slR t l u) h
  | none => .bad
@[simp] theorem evE_sl (a : E) (lo hi : O) : evE Γ (.sl a lo hi) σ h = (evE Γ a σ h).bind fun x h1 => (evO Γ lo σ h1).bind fun l h2 => (evO Γ hi σ h2).bind fun u h3 => slL σ x l u h3 := by rw [evE]; rfl
@[simp] theorem evE_call (f : Nat) (es : List E) : evE Γ (.call f es) σ h = (evEs Γ es σ h).bind fun ts h1 => Γ.call f ts h1 := by rw [evE]
@[simp] theorem evE_op (o : Op) (es : List E) : evE Γ (.op o es) σ h = (evRs Γ es σ h).bind fun rs h1 => opX Γ.cs σ o rs h1 := by rw [evE]
def cvL (Γ : Ctx) (o : Option (Option Sl)) (a : Hs → Out (List T)) (h : Hs) : Out R := match o with
  | some (some (.v (.gl x))) => (match Γ.ix x with
      | some f => (a h).bind fun ts h1 => Γ.call f ts h1
      | none => .bad)
  | _ => .bad
theorem cvL_gl {x : Str} {f : Nat} (e : Γ.ix x = some f) (a : Hs → Out (List T)) : cvL Γ (some (some (.v (.gl x)))) a h = (a h).bind fun ts h1 => Γ.call f ts h1 := by simp [cvL, e]
@[simp] theorem evE_callv (i : Nat) (es : List E) : evE Γ (.callv i es) σ h = cvL Γ σ[i]? (evEs Γ es σ) h := by rw [evE]; rfl
def dspL (ts : List T) (h1 : Hs) : Out R := match pairsT ts with
    | some kvs => if kvs.length ≤ 15 ∧ 0 < kvs.length then .ok (.v (.ref h1.length)) (h1 ++ [.dct (mergeT [] kvs)]) else .bad
    | none => .bad
@[simp] theorem evE_dsp (es : List E) : evE Γ (.dsp es) σ h = (evEs Γ es σ h).bind dspL := by rw [evE]; rfl
theorem dspL_of {ts : List T} {kvs : List (L2.Key × T)} (e : pairsT ts = some kvs) (c : kvs.length ≤ 15 ∧ 0 < kvs.length) : dspL ts h = .ok (.v (.ref h.length)) (h ++ [.dct (mergeT [] kvs)]) := by
  unfold dspL; rw [e]; exact if_pos c
@[simp] theorem keyT_int (i : Int) : keyT (.int i) = some (.inl i) := (rfl)
@[simp] theorem keyT_str (i : Str) : keyT (.str i) = some (.inr i) := (rfl)
@[simp] theorem evE_mth (m : Mt) (o : E) (es : List E) : evE Γ (.mth m o es) σ h = (evE Γ o σ h).bind fun x h1 => if mtOk σ h1 m x then (evRs Γ es σ h1).bind fun rs h2 => mtX σ x m rs h2 else .bad := by rw [evE]
def lsB : Option T → Bool
  | some (.lst _) => true
  | some (.slst _) => true
  | _ => false
def dcB : Option T → Bool
  | some (.dct _) => true
  | _ => false
@[simp] theorem lsB_lst (l : List T) : lsB (some (.lst l)) = true := (rfl)
@[simp] theorem dcB_dct (l : List (L2.Key × T)) : dcB (some (.dct l)) = true := (rfl)
@[simp] theorem mtOk_index (x : R) : mtOk σ h .index x = lsB (peek σ h x) := (rfl)
@[simp] theorem mtOk_get (x : R) : mtOk σ h .get x = dcB (peek σ h x) := (rfl)
def rvL (a : Option T) (h : Hs) : Out R := match a with
    | some (.lst l) => .ok (.al l.reverse) h
    | some (.slst l) => .ok (.al l.reverse) h
    | _ => .bad
@[simp] theorem rvL_lst (l : List T) : rvL (some (.lst l)) h = .ok (.al l.reverse) h := (rfl)
@[simp] theorem opX_rev (x : R) : opX cz σ .rev [x] h = rvL (peek σ h x) h := (rfl)
def lnL (a : Option T) (h : Hs) : Out R := match a with
    | some (.lst l) => lift ((intsOf l).bind fun ns => if ns.length ≤ 4000 then some (.v (.int (nubI ns).length)) else none) h
    | _ => .bad
@[simp] theorem lnL_lst (l : List T) : lnL (some (.lst l)) h = lift ((intsOf l).bind fun ns => if ns.length ≤ 4000 then some (.v (.int (nubI ns).length)) else none) h := (rfl)
@[simp] theorem opX_lns (x : R) : opX cz σ .lns [x] h = lnL (peek σ h x) h := (rfl)
@[simp] theorem opX_fdv (i j : Int) : opX cz σ .fdv [.v (.int i), .v (.int j)] h = if j = 0 then .ex (.blt "ZeroDivisionError") h else lift ((fdivT i j).map fun r => .v (.int r)) h := (rfl)
def revB : Option HOb → Bool
  | some (.lst _) => true
  | _ => false
@[simp] theorem revB_lst (l : List T) : revB (some (.lst l)) = true := (rfl)
@[simp] theorem mtOk_reverse (n : Nat) : mtOk σ h .reverse (.v (.ref n)) = revB h[n]? := by
  show (match some (seen h (.ref n)) with | some (.lst _) => true | _ => false) = _
  have e : seen h (.ref n) = (match h[n]? with | some (.lst l) => T.lst l | some (.dct l) => .dct l | some (.set l) => .kst l | some (.tst l) => .tst l | _ => .ref n) := rfl
  rw [e]
  generalize h[n]? = o
  cases o with
  | none => rfl
  | some o => cases o <;> rfl
def idxL (a b : Option T) (h : Hs) : Out R := match a, b with
    | some (.lst l), some t => lift ((idxT t l).map fun (j : Nat) => .v (.int j)) h
    | some (.slst l), some t => lift ((idxT t l).map fun (j : Nat) => .v (.int j)) h
    | _, _ => .bad
@[simp] theorem idxL_lst (l : List T) (t : T) : idxL (some (.lst l)) (some t) h = lift ((idxT t l).map fun (j : Nat) => .v (.int j)) h := (rfl)
@[simp] theorem mtX_index (x y : R) : mtX σ x .index [y] h = idxL (peek σ h x) (peek σ h y) h := (rfl)
def getL (a : Option T) (b : Option L2.Key) (z : R) (h : Hs) : Out R := match a, b with
    | some (.dct l), some k => (match lookT l k with
      | some t => .ok (.v t) h
      | none => .ok z h)
    | _, _ => .bad
theorem getL_some {l : List (L2.Key × T)} {k : L2.Key} {t : T} (z : R) (e : lookT l k = some t) : getL (some (.dct l)) (some k) z h = .ok (.v t) h := by unfold getL; simp [e]
theorem getL_none {l : List (L2.Key × T)} {k : L2.Key} (z : R) (e : lookT l k = none) : getL (some (.dct l)) (some k) z h = .ok z h := by unfold getL; simp [e]
@[simp] theorem mtX_get (x : R) (y : T) (z : R) : mtX σ x .get [.v y, z] h = getL (peek σ h x) (keyT y) z h := (rfl)
def revL (n : Nat) (o : Option HOb) (h : Hs) : Out R := match o with
      | some (.lst l) => .ok (.v .non) (h.set n (.lst l.reverse))
      | _ => .bad
@[simp] theorem revL_lst (n : Nat) (l : List T) : revL n (some (.lst l)) h = .ok (.v .non) (h.set n (.lst l.reverse)) := (rfl)
@[simp] theorem mtX_reverse (n : Nat) : mtX σ (.v (.ref n)) .reverse [] h = revL n h[n]? h := (rfl)
def atL (cz : Cs) (f : Str) (o : Option HOb) (h : Hs) : Out R := match o with
    | some (.ins c fs) => if cz.at_ c f then lift ((fs.lookup f).map .v) h else .bad
    | _ => .bad
@[simp] theorem opX_at (f : Str) (n : Nat) : opX cz σ (.at f) [.v (.ref n)] h = atL cz f h[n]? h := (rfl)
@[simp] theorem atL_ins (f c : Str) (fs : List (Str × T)) : atL cz f (some (.ins c fs)) h = if cz.at_ c f then lift ((fs.lookup f).map .v) h else .bad := (rfl)
@[simp] theorem opX_set0 : opX cz σ .set0 [] h = .ok (.v (.ref h.length)) (h ++ [.set []]) := (rfl)
@[simp] theorem opX_tset0 : opX cz σ .tset0 [] h = .ok (.v (.ref h.length)) (h ++ [.tst []]) := (rfl)
@[simp] theorem opX_lrg (j : Int) : opX cz σ .lrg [.v (.int j)] h = if 0 ≤ j ∧ j ≤ 16777216 then lift ((rngT 0 j).map .al) h else .bad := (rfl)
def isLs : Option T → Bool
  | some (.lst _) => true
  | _ => false
def isSt : Option T → Bool
  | some (.kst _) => true
  | some (.tst _) => true
  | _ => false
@[simp] theorem isLs_lst (l : List T) : isLs (some (.lst l)) = true := (rfl)
@[simp] theorem isSt_kst (l : List L2.Key) : isSt (some (.kst l)) = true := (rfl)
@[simp] theorem isSt_tst (l : List (List L2.Key)) : isSt (some (.tst l)) = true := (rfl)
@[simp] theorem mtOk_append (n : Nat) : mtOk σ h .append (.v (.ref n)) = isLs (some (seen h (.ref n))) := (rfl)
@[simp] theorem mtOk_add (n : Nat) : mtOk σ h .add (.v (.ref n)) = isSt (some (seen h (.ref n))) := (rfl)
@[simp] theorem mtOk_split (a : Str) : mtOk σ h .split (.v (.str a)) = true := (rfl)
@[simp] theorem mtOk_rmpre (a : Str) : mtOk σ h .rmpre (.v (.str a)) = true := (rfl)
@[simp] theorem mtX_split (a b : Str) : mtX σ (.v (.str a)) .split [.v (.str b)] h = if (b.length == 0) = false ∧ a.length + 2 ≤ SL then .ok (.al ((Txt.split a b).map .str)) h else .bad := (rfl)
@[simp] theorem mtX_rmpre (a b : Str) : mtX σ (.v (.str a)) .rmpre [.v (.str b)] h = if a.length ≤ SL then .ok (.v (.str (Txt.removeprefix a b))) h else .bad := (rfl)
@[simp] theorem mtOk_join (a : Str) : mtOk σ h .join (.v (.str a)) = true := (rfl)
def apL (n : Nat) (o : Option HOb) (t : T) (h : Hs) : Out R := match o with
      | some (.lst l) => if l.length < SL then .ok (.v .non) (h.set n (.lst (l ++ [t]))) else .bad
      | _ => .bad
@[simp] theorem mtX_append (n : Nat) (t : T) : mtX σ (.v (.ref n)) .append [.v t] h = apL n h[n]? t h := (rfl)
@[simp] theorem apL_lst (n : Nat) (l : List T) (t : T) : apL n (some (.lst l)) t h = if l.length < SL then .ok (.v .non) (h.set n (.lst (l ++ [t]))) else .bad := (rfl)
def adL (n : Nat) (o : Option HOb) (y : T) (h : Hs) : Out R := match o with
      | some (.set l) => (match keyT y with
        | some k => if l.length < 4000 then .ok (.v .non) (h.set n (.set (if memK k l then l else l ++ [k]))) else .bad
        | none => .bad)
      | some (.tst l) => (match (match y with | .tup ts => keysT ts | _ => none) with
        | some k => if l.length < 300 then .ok (.v .non) (h.set n (.tst (if memKs k l then l else l ++ [k]))) else .bad
        | none => .bad)
      | _ => .bad
@[simp] theorem mtX_add (n : Nat) (t : T) : mtX σ (.v (.ref n)) .add [.v t] h = adL n h[n]? t h := (rfl)
theorem adL_set {n : Nat} {l : List L2.Key} {k : L2.Key} {y : T} (e : keyT y = some k) (c : l.length < 4000) : adL n (some (.set l)) y h = .ok (.v .non) (h.set n (.set (if memK k l then l else l ++ [k]))) := by
  unfold adL; simp [e, c]
theorem adL_tst {n : Nat} {l : List (List L2.Key)} {ks : List L2.Key} {ts : List T} (e : keysT ts = some ks) (c : l.length < 300) : adL n (some (.tst l)) (.tup ts) h = .ok (.v .non) (h.set n (.tst (if memKs ks l then l else l ++ [ks]))) := by
  unfold adL; simp [e, c]
def joL (a : Str) (o : Option T) (h : Hs) : Out R := match o with
    | some (.tup l) => lift ((strsOf l).bind fun ys => if (ys.map (·.length)).sum + ys.length * a.length ≤ SL then some (.v (.str (Txt.join a ys))) else none) h
    | some (.lst l) => lift ((strsOf l).bind fun ys => if (ys.map (·.length)).sum + ys.length * a.length ≤ SL then some (.v (.str (Txt.join a ys))) else none) h
    | _ => .bad
@[simp] theorem mtX_join (a : Str) (z : R) : mtX σ (.v (.str a)) .join [z] h = joL a (peek σ h z) h := by
  cases e : peek σ h z with
  | none => simp [mtX, joL, e]
  | some t => cases t <;> simp [mtX, joL, e]
@[simp] theorem joL_tup (a : Str) (l : List T) : joL a (some (.tup l)) h = lift ((strsOf l).bind fun ys => if (ys.map (·.length)).sum + ys.length * a.length ≤ SL then some (.v (.str (Txt.join a ys))) else none) h := (rfl)
@[simp] theorem evE_so (e : E) : evE Γ (.so e) σ h = (evE Γ e σ h).bind fun r h1 => (soR Γ r h1).bind fun y h2 => .ok (.v (.str y)) h2 := by rw [evE]
@[simp] theorem evE_fs (es : List E) : evE Γ (.fs es) σ h = (evJ Γ es Str.empty σ h).bind fun y h1 => .ok (.v (.str y)) h1 := by rw [evE]
@[simp] theorem evJ_nil (acc : Str) : evJ Γ [] acc σ h = .ok acc h := by rw [evJ]
@[simp] theorem evJ_cons (e : E) (es : List E) (acc : Str) : evJ Γ (e :: es) acc σ h = (evE Γ e σ h).bind fun r h1 => (fmR Γ r h1).bind fun y h2 => if (acc ++ y).length ≤ SL then evJ Γ es (acc ++ y) σ h2 else .bad := by rw [evJ]
@[simp] theorem soR_int (i : Int) : soR Γ (.v (.int i)) h = if i.natAbs.log2 < 1920 then .ok (toString i) h else .bad := (rfl)
@[simp] theorem fmR_int (i : Int) : fmR Γ (.v (.int i)) h = if i.natAbs.log2 < 1920 then .ok (toString i) h else .bad := (rfl)
@[simp] theorem fmR_str (y : Str) : fmR Γ (.v (.str y)) h = if y.length ≤ SL then .ok y h else .bad := (rfl)
@[simp] theorem fmR_ref (n : Nat) : fmR Γ (.v (.ref n)) h = soR Γ (.v (.ref n)) h := (rfl)
def isCL (c : Str) (o : Option HOb) (h : Hs) : Out R := match o with
      | some (.ins d _) => if d = c then .ok (.v (.bl true)) h else .bad
      | _ => .bad
@[simp] theorem isCL_ins (c d : Str) (fs : List (Str × T)) : isCL c (some (.ins d fs)) h = if d = c then .ok (.v (.bl true)) h else .bad := (rfl)
def isCX (c : Str) (x : R) (h : Hs) : Out R := match x with
    | .v (.ref n) => isCL c h[n]? h
    | _ => .bad
@[simp] theorem isCX_ref (c : Str) (n : Nat) : isCX c (.v (.ref n)) h = isCL c h[n]? h := (rfl)
@[simp] theorem evE_isC (c : Str) (a : E) : evE Γ (.isC c a) σ h = (evE Γ a σ h).bind fun x h1 => isCX c x h1 := by rw [evE]; rfl
def eqIX (Γ : Ctx) (x y : R) (h : Hs) : Out R := match x, y with
    | .v (.ref m), .v (.ref n) => (eqO Γ m n h).bind fun k h3 => .ok (.v (.bl k)) h3
    | _, _ => .bad
@[simp] theorem eqIX_ref (m n : Nat) : eqIX Γ (.v (.ref m)) (.v (.ref n)) h = (eqO Γ m n h).bind fun k h3 => .ok (.v (.bl k)) h3 := (rfl)
@[simp] theorem evE_eqI (a b : E) : evE Γ (.eqI a b) σ h = (evE Γ a σ h).bind fun x h1 => (evE Γ b σ h1).bind fun y h2 => eqIX Γ x y h2 := by rw [evE]; rfl
def neIX (Γ : Ctx) (x y : R) (h : Hs) : Out R := match x, y with
    | .v (.lst l), .al l' => (eqLs Γ l l' h).bind fun _ h3 => .ok (.v (.bl false)) h3
    | _, _ => .bad
@[simp] theorem neIX_ls (l l' : List T) : neIX Γ (.v (.lst l)) (.al l') h = (eqLs Γ l l' h).bind fun _ h3 => .ok (.v (.bl false)) h3 := (rfl)
@[simp] theorem evE_neI (a b : E) : evE Γ (.neI a b) σ h = (evE Γ a σ h).bind fun x h1 => (evE Γ b σ h1).bind fun y h2 => neIX Γ x y h2 := by rw [evE]; rfl
@[simp] theorem eqLs_nil : eqLs Γ [] [] h = .ok () h := (rfl)
@[simp] theorem eqLs_cons (m n : Nat) (l l' : List T) : eqLs Γ (.ref m :: l) (.ref n :: l') h = if m = n then eqLs Γ l l' h else (eqO Γ m n h).bind fun b h1 => if b then eqLs Γ l l' h1 else .bad := (rfl)
theorem eqO_eq {m n : Nat} {c : Str} {fs gs : List (Str × T)} {f : Nat} {b : Bool} {h1 : Hs} (e1 : h[m]? = some (.ins c fs)) (e2 : h[n]? = some (.ins c gs)) (e3 : Γ.cs.mt c "__eq__" = some f) (e4 : Γ.make f [.ref m, .ref n] h = .ok (.v (.bl b)) h1) : eqO Γ m n h = .ok b h1 := by
  unfold eqO
  simp [e1, e2, e3, e4]
theorem soR_ins {n : Nat} {c : Str} {fs : List (Str × T)} {f : Nat} {y : Str} {h1 : Hs} (e : h[n]? = some (.ins c fs)) (ef : Γ.cs.mt c "__str__" = some f) (ey : Γ.make f [.ref n] h = .ok (.v (.str y)) h1) (l : y.length ≤ SL) : soR Γ (.v (.ref n)) h = .ok y h1 := by
  unfold soR
  simp only [e, ef, ey, Out.bind_ok]
  exact if_pos l
@[simp] theorem joL_lst (a : Str) (l : List T) : joL a (some (.lst l)) h = lift ((strsOf l).bind fun ys => if (ys.map (·.length)).sum + ys.length * a.length ≤ SL then some (.v (.str (Txt.join a ys))) else none) h := (rfl)
theorem evE_new {c : Str} {f : Nat} (e : Γ.cs.ini c = some f) (es : List E) : evE Γ (.new c es) σ h = (evEs Γ es σ h).bind fun ts h1 => (Γ.make f (.ref h1.length :: ts) (h1 ++ [.ins c []])).bind fun r h2 => match r with
      | .v .non => .ok (.v (.ref h1.length)) h2
      | _ => .bad := by rw [evE, e] <;> rfl
def prL (r : R) (h : Hs) : Out R := match r with
    | .al l => .ok (.v (.ref h.length)) (h ++ [.lst l])
    | _ => .bad
@[simp] theorem prL_al (l : List T) : prL (.al l) h = .ok (.v (.ref h.length)) (h ++ [.lst l]) := (rfl)
@[simp] theorem evE_pr (e : E) : evE Γ (.pr e) σ h = (evE Γ e σ h).bind prL := by rw [evE]; rfl
def xfL (cz : Cs) (f : Str) (o : Option (Option Sl)) (h : Hs) : Out R := match o with
    | some (some (.xn c fs)) => (match cz.xs c with
      | some fns => if f ∈ fns then lift ((fs.lookup f).map .v) h else .bad
      | none => .bad)
    | _ => .bad
@[simp] theorem evE_xf (i : Nat) (f : Str) : evE Γ (.xf i f) σ h = xfL Γ.cs f σ[i]? h := by rw [evE]; rfl
theorem xfL_xn {cz : Cs} {c f : Str} {fns : List Str} (e : cz.xs c = some fns) (m : f ∈ fns) (fs : List (Str × T)) : xfL cz f (some (some (.xn c fs))) h = lift ((fs.lookup f).map .v) h := by unfold xfL; simp [e, m]
/-- one turn of a dict's comprehension -/
def dcT (Γ : Ctx) (k v : E) (tg : Tg) (σ : Slots) (x : T) (h' : Hs) : Out (L2.Key × T) := noex (match asgT tg x (wipeT σ tg.ixs) with
        | some σ2 => (evE Γ k σ2 h').bind fun r h2 => (evE Γ v σ2 h2).bind fun q h3 => lift (kvR r q) h3
        | none => .bad)
@[simp] theorem evE_dc (k v : E) (tg : Tg) (it : It) : evE Γ (.dc k v tg it) σ h = (evIt Γ true it σ h).bind fun p h1 => (dcL (dcT Γ k v tg σ) p.g p.ts [] h1).bind fun l h2 => .ok (.v (.ref h2.length)) (h2 ++ [.dct l]) := by
  rw [evE]; rfl
@[simp] theorem evE_blt (f : Bf) (es : List E) : evE Γ (.blt f es) σ h = (evRs Γ es σ h).bind fun rs h1 => lift ((peeks σ h1 rs).bind (bltR f)) h1 := by rw [evE]
/-- one turn of a comprehension -/
def lcT (Γ : Ctx) (elt : E) (tg : Tg) (cond : C) (σ : Slots) (x : T) (h' : Hs) : Out (Option T) := noex (match asgT tg x (wipeT σ tg.ixs) with
        | some σ2 => (evC Γ cond σ2 h').bind fun b h2 => if b then (evE Γ elt σ2 h2).bind fun r h3 => lift ((frz r).map some) h3 else .ok none h2
        | none => .bad)
@[simp] theorem evE_lc (elt : E) (tg : Tg) (it : It) (cond : C) : evE Γ (.lc elt tg it cond) σ h = (evIt Γ true it σ h).bind fun p h1 => (lcL (lcT Γ elt tg cond σ) p.g p.ts [] h1).bind fun l h2 => .ok (.al l) h2 := by rw [evE]; rfl
@[simp] theorem evB_one (op : BoolOp) (e : E) : evB Γ op [e] σ h = evE Γ e σ h := by rw [evB]; rfl
@[simp] theorem evB_two (op : BoolOp) (e e' : E) (es : List E) : evB Γ op (e :: e' :: es) σ h = (evE Γ e σ h).bind fun x h1 => (truL σ x h1).bind fun k h2 => if k == (op == .Or) then .ok x h2 else evB Γ op (e' :: es) σ h2 := by rw [evB]; rfl
@[simp] theorem evC_yes : evC Γ .yes σ h = .ok true h := by rw [evC]
@[simp] theorem evC_t (e : E) : evC Γ (.t e) σ h = (evE Γ e σ h).bind fun x h1 => truL σ x h1 := by rw [evC]
@[simp] theorem evC_not (c : C) : evC Γ (.not c) σ h = (evC Γ c σ h).bind fun b h1 => .ok (!b) h1 := by rw [evC]
@[simp] theorem evC_bop (op : BoolOp) (cs : List C) : evC Γ (.bop op cs) σ h = evCs Γ op cs σ h := by rw [evC]
@[simp] theorem evCs_one (op : BoolOp) (c : C) : evCs Γ op [c] σ h = evC Γ c σ h := by rw [evCs]; rfl
@[simp] theorem evCs_two (op : BoolOp) (c c' : C) (cs : List C) : evCs Γ op (c :: c' :: cs) σ h = (evC Γ c σ h).bind fun k h1 => if k == (op == .Or) then .ok k h1 else evCs Γ op (c' :: cs) σ h1 := by rw [evCs]; rfl
def consF (x : R) (o : Hs → Out (List T)) (h : Hs) : Out (List T) := match frz x with
  | some t => (o h).bind fun ts h2 => .ok (t :: ts) h2
  | none => .bad
@[simp] theorem consF_v (t : T) (o : Hs → Out (List T)) : consF (.v t) o h = (o h).bind fun ts h2 => .ok (t :: ts) h2 := (rfl)
@[simp] theorem consF_al (l : List T) (o : Hs → Out (List T)) : consF (.al l) o h = (o h).bind fun ts h2 => .ok (.lst l :: ts) h2 := (rfl)
@[simp] theorem evEs_nil : evEs Γ [] σ h = .ok [] h := by rw [evEs]
@[simp] theorem evEs_cons (e : E) (es : List E) : evEs Γ (e :: es) σ h = (evE Γ e σ h).bind fun x h1 => consF x (evEs Γ es σ) h1 := by rw [evEs]; rfl
@[simp] theorem evRs_nil : evRs Γ [] σ h = .ok [] h := by rw [evRs]
@[simp] theorem evRs_cons (e : E) (es : List E) : evRs Γ (e :: es) σ h = (evE Γ e σ h).bind fun x h1 => (evRs Γ es σ h1).bind fun xs h2 => .ok (x :: xs) h2 := by rw [evRs]
@[simp] theorem peek_v (t : T) : peek σ h (.v t) = some (seen h t) := (rfl)
@[simp] theorem peek_al (l : List T) : peek σ h (.al l) = some (.lst l) := (rfl)
theorem peek_bw {i : Nat} {l : List T} (e : σ[i]? = some (some (.al l))) : peek σ h (.bw i) = some (.lst l) := by simp [peek, e]
@[simp] theorem peeks_nil : peeks σ h [] = some [] := (rfl)
@[simp] theorem peeks_v (t : T) (rs : List R) : peeks σ h (.v t :: rs) = (peeks σ h rs).map (seen h t :: ·) := by
  rw [peeks, peek_v]; cases peeks σ h rs <;> rfl
@[simp] theorem peeks_al (l : List T) (rs : List R) : peeks σ h (.al l :: rs) = (peeks σ h rs).map (.lst l :: ·) := by
  rw [peeks, peek_al]; cases peeks σ h rs <;> rfl
theorem peeks_bw {i : Nat} {l : List T} (e : σ[i]? = some (some (.al l))) (rs : List R) : peeks σ h (.bw i :: rs) = (peeks σ h rs).map (.lst l :: ·) := by
  rw [peeks, peek_bw σ h e]; cases peeks σ h rs <;> rfl
@[simp] theorem seen_non : seen h .non = .non := (rfl)
@[simp] theorem seen_bl (b : Bool) : seen h (.bl b) = .bl b := (rfl)
@[simp] theorem seen_int (b : Int) : seen h (.int b) = .int b := (rfl)
@[simp] theorem seen_str (b : Str) : seen h (.str b) = .str b := (rfl)
@[simp] theorem seen_ty (b : String) : seen h (.ty b) = .ty b := (rfl)
@[simp] theorem seen_gl (b : Str) : seen h (.gl b) = .gl b := (rfl)
@[simp] theorem seen_tup (l : List T) : seen h (.tup l) = .tup l := (rfl)
@[simp] theorem seen_lst (l : List T) : seen h (.lst l) = .lst l := (rfl)
@[simp] theorem seen_slst (l : List T) : seen h (.slst l) = .slst l := (rfl)
@[simp] theorem seen_dct (l : List (L2.Key × T)) : seen h (.dct l) = .dct l := (rfl)
@[simp] theorem seen_ins (c : Str) (l : List (Str × T)) : seen h (.ins c l) = .ins c l := (rfl)
def seenO (n : Nat) : Option HOb → T
  | some (.lst l) => .lst l
  | some (.dct l) => .dct l
  | some (.set l) => .kst l
  | some (.tst l) => .tst l
  | _ => .ref n
@[simp] theorem seenO_set (n : Nat) (l : List L2.Key) : seenO n (some (.set l)) = .kst l := (rfl)
@[simp] theorem seenO_tst (n : Nat) (l : List (List L2.Key)) : seenO n (some (.tst l)) = .tst l := (rfl)
@[simp] theorem seen_ref (n : Nat) : seen h (.ref n) = seenO n h[n]? := by
  unfold seen seenO; rfl
@[simp] theorem seenO_lst (n : Nat) (l : List T) : seenO n (some (.lst l)) = .lst l := (rfl)
@[simp] theorem seenO_dct (n : Nat) (l : List (L2.Key × T)) : seenO n (some (.dct l)) = .dct l := (rfl)
@[simp] theorem seenO_ins (n : Nat) (c : Str) (l : List (Str × T)) : seenO n (some (.ins c l)) = .ref n := (rfl)
@[simp] theorem evO_no : evO Γ .no σ h = .ok none h := by rw [evO]
def intL (x : R) (h : Hs) : Out (Option Int) := match x with
  | .v (.int i) => .ok (some i) h
  | _ => .bad
@[simp] theorem intL_int (i : Int) : intL (.v (.int i)) h = .ok (some i) h := (rfl)
@[simp] theorem evO_at (e : E) : evO Γ (.at e) σ h = (evE Γ e σ h).bind intL := by rw [evO]; rfl
@[simp] theorem walkL_al (own : Bool) (l : List T) : walkL own σ h (.al l) = some ⟨l, none⟩ := (rfl)
@[simp] theorem walkL_v (own : Bool) (t : T) : walkL own σ h (.v t) = walkT h t := (rfl)
@[simp] theorem walkT_lst (l : List T) : walkT h (.lst l) = some ⟨l, none⟩ := (rfl)
@[simp] theorem walkT_slst (l : List T) : walkT h (.slst l) = some ⟨l, none⟩ := (rfl)
@[simp] theorem walkT_tup (l : List T) : walkT h (.tup l) = some ⟨l, none⟩ := (rfl)
@[simp] theorem walkT_str (z : Str) : walkT h (.str z) = some ⟨z.cps.toList.map fun c => .str ⟨#[c]⟩, none⟩ := (rfl)
@[simp] theorem walkT_dct (l : List (L2.Key × T)) : walkT h (.dct l) = some ⟨l.map fun kv => keyU kv.1, none⟩ := (rfl)
@[simp] theorem enumL_al (own : Bool) (l : List T) : enumL own σ h (.al l) = some ⟨numT l, none⟩ := (rfl)
@[simp] theorem enumL_tup (own : Bool) (l : List T) : enumL own σ h (.v (.tup l)) = some ⟨numT l, none⟩ := (rfl)
@[simp] theorem enumL_lst (own : Bool) (l : List T) : enumL own σ h (.v (.lst l)) = some ⟨numT l, none⟩ := (rfl)
@[simp] theorem evIt_en (own : Bool) (x : E) : evIt Γ own (.en x) σ h = (evE Γ x σ h).bind fun r h1 => lift (enumL own σ h1 r) h1 := by rw [evIt]
theorem walkT_ref {n : Nat} {l : List T} (e : h[n]? = some (.lst l)) : walkT h (.ref n) = some ⟨l, some (n, .lst l)⟩ := by simp [walkT, e]
@[simp] theorem gdB_none : gdB none h = true := (rfl)
theorem gdB_lst {n : Nat} {l : List T} (e : h[n]? = some (.lst l)) : gdB (some (n, .lst l)) h = true := by simp [gdB, e, HOb.beq, Ts.beq_rfl]
@[simp] theorem evIt_e (own : Bool) (x : E) : evIt Γ own (.e x) σ h = (evE Γ x σ h).bind fun r h1 => lift (walkL own σ h1 r) h1 := by rw [evIt]
/-- the items, nothing that must stay -/
abbrev itm (l : List T) : Itm := ⟨l, none⟩
def rg1L (x : R) (h : Hs) : Out Itm := match x with
  | .v (.int j) => lift ((rngT 0 j).map fun l => itm l) h
  | _ => .bad
@[simp] theorem rg1L_int (j : Int) : rg1L (.v (.int j)) h = lift ((rngT 0 j).map fun l => itm l) h := (rfl)
@[simp] theorem evIt_r1 (own : Bool) (a : E) : evIt Γ own (.r1 a) σ h = (evE Γ a σ h).bind rg1L := by rw [evIt]; rfl
def rg2L (r s : R) (h : Hs) : Out Itm := match r, s with
  | .v (.int i), .v (.int j) => lift ((rngT i j).map fun l => itm l) h
  | _, _ => .bad
@[simp] theorem rg2L_int (i j : Int) : rg2L (.v (.int i)) (.v (.int j)) h = lift ((rngT i j).map fun l => itm l) h := (rfl)
@[simp] theorem evIt_r2 (own : Bool) (a b : E) : evIt Γ own (.r2 a b) σ h = (evE Γ a σ h).bind fun r h1 => (evE Γ b σ h1).bind fun s h2 => rg2L r s h2 := by rw [evIt]; rfl
@[simp] theorem evS_asg (i : Nat) (e : E) : evS Γ (.asg i e) σ h = sb σ (evE Γ e σ h) fun r h1 => liftS ((putR r).map fun s => σ.set i (some s)) h1 := by rw [evS]
@[simp] theorem evS_asgT (tg : Tg) (e : E) : evS Γ (.asgT tg e) σ h = sb σ (evE Γ e σ h) fun r h1 => liftS ((frz r).bind fun t => asgT tg (tgSee tg h1 t) σ) h1 := by rw [evS]
def setS (σ : Slots) (o : Option Hs) : SO := match o with
  | some h4 => .ok .nx σ h4
  | none => .bad
@[simp] theorem setS_some (h4 : Hs) : setS σ (some h4) = .ok .nx σ h4 := (rfl)
@[simp] theorem evS_setIx (o i e : E) : evS Γ (.setIx o i e) σ h = sb σ (evE Γ e σ h) fun r h1 => sb σ (evE Γ o σ h1) fun x h2 => sb σ (evE Γ i σ h2) fun y h3 => setS σ (setL r x y h3) := by rw [evS]; rfl
@[simp] theorem evS_expr (e : E) : evS Γ (.expr e) σ h = sb σ (evE Γ e σ h) fun _ h1 => .ok .nx σ h1 := by rw [evS]
@[simp] theorem evS_ret (e : E) : evS Γ (.ret e) σ h = sb σ (evE Γ e σ h) fun r h1 => retS σ r h1 := by rw [evS]
def rtS (i : Nat) (σ : Slots) (o : Option (Option Sl)) (h : Hs) : SO := match o with
  | some (some (.al l)) => .ok (.ret (.al l)) (σ.set i none) h
  | _ => .bad
@[simp] theorem rtS_al (i : Nat) (l : List T) : rtS i σ (some (some (.al l))) h = .ok (.ret (.al l)) (σ.set i none) h := (rfl)
@[simp] theorem evS_retS (i : Nat) : evS Γ (.retS i) σ h = rtS i σ σ[i]? h := by rw [evS]; rfl
@[simp] theorem evS_retN : evS Γ .retN σ h = .ok (.ret (.v .non)) σ h := by rw [evS]
@[simp] theorem evS_ife (c : C) (a b : List S) : evS Γ (.ife c a b) σ h = sb σ (evC Γ c σ h) fun k h1 => if k then evSs Γ a σ h1 else evSs Γ b σ h1 := by rw [evS]
/-- a loop's turn -/
def forB (Γ : Ctx) (tg : Tg) (body : List S) : T → Slots → Hs → SO := fun x σ' h' => (liftS (asgT tg x σ') h').seq (evSs Γ body)
theorem forB_nm (i : Nat) (body : List S) (x : T) : forB Γ (.nm i) body x σ h = evSs Γ body (σ.set i (some (.v x))) h := by unfold forB; rw [asgT]; rfl
@[simp] theorem evS_for (tg : Tg) (it : It) (body : List S) : evS Γ (.for tg it body) σ h = sb σ (evIt Γ false it σ h) fun p h1 => forL (forB Γ tg body) p.g p.ts σ h1 := by rw [evS]; rfl
@[simp] theorem evS_whl (c : C) (body : List S) : evS Γ (.whl c body) σ h = whlL (evC Γ c) (evSs Γ body) whlMost σ h := by rw [evS]
@[simp] theorem evS_brk : evS Γ .brk σ h = .ok .brk σ h := by rw [evS]
@[simp] theorem evS_cnt : evS Γ .cnt σ h = .ok .ct σ h := by rw [evS]
@[simp] theorem evS_pass : evS Γ .pass σ h = .ok .nx σ h := by rw [evS]
@[simp] theorem evS_try1 (x : String) (body suite : List S) : evS Γ (.try1 x body suite) σ h = (evSs Γ body σ h).catch x (evSs Γ suite) := by rw [evS]
theorem evS_tryX {c : Str} {fs : List Str} (e : Γ.cs.xs c = some fs) (i : Nat) (body suite : List S) : evS Γ (.tryX i c body suite) σ h = (evSs Γ body σ h).catchX c fun fs σ1 h1 => (evSs Γ suite (σ1.set i (xnS c fs)) h1).fin fun σ2 => (wipeX σ2).set i none := by
  rw [evS, e]; rfl
theorem evS_tryN {c : Str} {fs : List Str} (e : Γ.cs.xs c = some fs) (body suite : List S) : evS Γ (.tryN c body suite) σ h = (evSs Γ body σ h).catchX c fun _ σ1 h1 => (evSs Γ suite σ1 h1).fin wipeX := by
  rw [evS, e]; rfl
def rseL (c : Str) (fs : List Str) (ts : List T) (σ : Slots) (h1 : Hs) : SO := if ts.length = fs.length ∧ ts ≠ [] ∧ ts.length ≤ 900 then .ex (.own c (fs.zip ts).reverse) σ h1 else .bad
theorem evS_rse {c : Str} {fs : List Str} (e : Γ.cs.xs c = some fs) (es : List E) : evS Γ (.rse c es) σ h = sb σ (evEs Γ es σ h) fun ts h1 => rseL c fs ts σ h1 := by
  rw [evS, e]; rfl
@[simp] theorem rseL_1 (c f : Str) (t : T) : rseL c [f] [t] σ h = .ex (.own c [(f, t)]) σ h := by unfold rseL; rw [if_pos (by simp)]; rfl
@[simp] theorem rseL_2 (c f g : Str) (t u : T) : rseL c [f, g] [t, u] σ h = .ex (.own c [(g, u), (f, t)]) σ h := by unfold rseL; rw [if_pos (by simp)]; rfl
@[simp] theorem catchX_own (c : Str) (fs : List (Str × T)) (k : List (Str × T) → Slots → Hs → SO) : (SO.ex (.own c fs) σ h).catchX c k = k fs σ h := by rw [SO.catchX_ex, if_pos rfl]
@[simp] theorem xnS_cons (c : Str) (p : Str × T) (fs : List (Str × T)) : xnS c (p :: fs) = some (.xn c (p :: fs)) := (rfl)
@[simp] theorem wipeX_nil : wipeX [] = [] := (rfl)
@[simp] theorem wipeX_none (σ : Slots) : wipeX (none :: σ) = none :: wipeX σ := (rfl)
@[simp] theorem wipeXs_v (t : T) (σ : Slots) : wipeX (some (.v t) :: σ) = some (.v t) :: wipeX σ := (rfl)
@[simp] theorem wipeXs_al (t : List T) (σ : Slots) : wipeX (some (.al t) :: σ) = some (.al t) :: wipeX σ := (rfl)
@[simp] theorem wipeXs_xn (c : Str) (fs : List (Str × T)) (σ : Slots) : wipeX (some (.xn c fs) :: σ) = none :: wipeX σ := (rfl)
def setFS (cz : Cs) (r x : R) (f : Str) (σ : Slots) (h : Hs) : SO := match setF cz r x f h with
    | some h3 => .ok .nx σ h3
    | none => .bad
theorem setFS_ref {n : Nat} {c f : Str} {fs : List (Str × T)} (t : T) (e : h[n]? = some (.ins c fs)) (a : cz.at_ c f = true) (l : fs.length < 1000) : setFS cz (.v t) (.v (.ref n)) f σ h = .ok .nx σ (h.set n (.ins c (putA f t fs))) := by
  have q : setF cz (.v t) (.v (.ref n)) f h = some (h.set n (.ins c (putA f t fs))) := by
    show (match h[n]? with | some (.ins c fs) => if cz.at_ c f = true ∧ fs.length < 1000 then some (h.set n (.ins c (putA f t fs))) else none | _ => none) = _
    rw [e]
    exact if_pos ⟨a, l⟩
  unfold setFS
  rw [q]
@[simp] theorem evS_setA (o e : E) (f : Str) : evS Γ (.setA o f e) σ h = sb σ (evE Γ e σ h) fun r h1 => sb σ (evE Γ o σ h1) fun x h2 => setFS Γ.cs r x f σ h2 := by rw [evS]; rfl
@[simp] theorem evS_asgR (ts : List Nat) (i : Nat) (e : E) : evS Γ (.asgR ts i e) σ h = sb σ (evE Γ e σ h) fun r h1 => liftS (((peek σ h1 r).bind seqT).bind fun l => starS ts i l σ) h1 := by rw [evS]
@[simp] theorem seqT_lst (l : List T) : seqT (.lst l) = some l := (rfl)
@[simp] theorem seqT_tup (l : List T) : seqT (.tup l) = some l := (rfl)
@[simp] theorem seqT_slst (l : List T) : seqT (.slst l) = some l := (rfl)
def lkfL (o : Option Hs) (σ : Slots) : SO := match o with
    | some h1 => .ok .nx σ h1
    | none => .bad
@[simp] theorem lkfL_some (h : Hs) : lkfL (some h) σ = .ok .nx σ h := (rfl)
@[simp] theorem evS_lkf (i : Nat) (f : Str) : evS Γ (.lkf i f) σ h = lkfL (lkfS σ i f h) σ := by rw [evS]; rfl
@[simp] theorem tgSee_nm (i : Nat) (t : T) : tgSee (.nm i) h t = t := (rfl)
@[simp] theorem tgSee_tp (l : List Tg) (t : T) : tgSee (.tp l) h t = seen h t := (rfl)
@[simp] theorem asgT_tpl (l : List Tg) (ts : List T) : asgT (.tp l) (.lst ts) σ = asgTs l ts σ := by rw [asgT]
@[simp] theorem evS_app (i : Nat) (e : E) : evS Γ (.app i e) σ h = if appOk h σ[i]? then sb σ (evE Γ e σ h) fun r h1 => appS σ i r h1 else .bad := by rw [evS]
@[simp] theorem evS_par2 (i j : Nat) (a b : E) : evS Γ (.par2 i j a b) σ h = sb σ (evE Γ a σ h) fun r h1 => sb σ (evE Γ b σ h1) fun s h2 => liftS ((putR r).bind fun x => (putR s).map fun y => (σ.set i (some x)).set j (some y)) h2 := by rw [evS]
@[simp] theorem evS_par3 (i j l : Nat) (a b c : E) : evS Γ (.par3 i j l a b c) σ h = sb σ (evE Γ a σ h) fun r h1 => sb σ (evE Γ b σ h1) fun s h2 => sb σ (evE Γ c σ h2) fun t h3 =>
      liftS ((putR r).bind fun x => (putR s).bind fun y => (putR t).map fun z => ((σ.set i (some x)).set j (some y)).set l (some z)) h3 := by rw [evS]
def fzS (i : Nat) (σ : Slots) (o : Option (Option Sl)) (h : Hs) : SO := match o with
  | some (some (.al l)) => .ok .nx (σ.set i (some (.v (.lst l)))) h
  | _ => .bad
@[simp] theorem fzS_al (i : Nat) (l : List T) : fzS i σ (some (some (.al l))) h = .ok .nx (σ.set i (some (.v (.lst l)))) h := (rfl)
@[simp] theorem evS_fz (i : Nat) : evS Γ (.fz i) σ h = fzS i σ σ[i]? h := by rw [evS]; rfl
def prS (i : Nat) (σ : Slots) (o : Option (Option Sl)) (h : Hs) : SO := match o with
  | some (some (.al l)) => .ok .nx (σ.set i (some (.v (.ref h.length)))) (h ++ [.lst l])
  | _ => .bad
@[simp] theorem prS_al (i : Nat) (l : List T) : prS i σ (some (some (.al l))) h = .ok .nx (σ.set i (some (.v (.ref h.length)))) (h ++ [.lst l]) := (rfl)
@[simp] theorem evS_pr (i : Nat) : evS Γ (.pr i) σ h = prS i σ σ[i]? h := by rw [evS]; rfl
@[simp] theorem evSs_nil : evSs Γ [] σ h = .ok .nx σ h := by rw [evSs]
@[simp] theorem evSs_cons (s : S) (ss : List S) : evSs Γ (s :: ss) σ h = (evS Γ s σ h).seq (evSs Γ ss) := by rw [evSs]
@[simp] theorem putR_v (t : T) : putR (.v t) = some (.v t) := (rfl)
@[simp] theorem putR_al (l : List T) : putR (.al l) = some (.al l) := (rfl)
@[simp] theorem frz_v (t : T) : frz (.v t) = some t := (rfl)
@[simp] theorem frz_al (l : List T) : frz (.al l) = some (.lst l) := (rfl)
@[simp] theorem retS_v (t : T) : retS σ (.v t) h = .ok (.ret (.v t)) σ h := (rfl)
@[simp] theorem retS_al (l : List T) : retS σ (.al l) h = .ok (.ret (.al l)) σ h := (rfl)
@[simp] theorem out_ret (r : R) : (SO.ok (.ret r) σ h).out = .ok r h := (rfl)
@[simp] theorem out_nx : (SO.ok .nx σ h).out = .ok (.v .non) h := (rfl)
@[simp] theorem out_ex (x : Xn) : (SO.ex x σ h).out = .ex x h := (rfl)
@[simp] theorem asgT_nm (i : Nat) (t : T) : asgT (.nm i) t σ = some (σ.set i (some (.v t))) := by rw [asgT]
@[simp] theorem asgT_tp (l : List Tg) (ts : List T) : asgT (.tp l) (.tup ts) σ = asgTs l ts σ := by rw [asgT]
@[simp] theorem asgTs_nil : asgTs [] [] σ = some σ := by rw [asgTs]
@[simp] theorem asgTs_cons (g : Tg) (l : List Tg) (t : T) (ts : List T) : asgTs (g :: l) (t :: ts) σ = (asgT g t σ).bind (asgTs l ts) := by
  rw [asgTs]; cases asgT g t σ <;> rfl
@[simp] theorem forL_nil (body : T → Slots → Hs → SO) : forL body none [] σ h = .ok .nx σ h := (rfl)
theorem forL_cons (body : T → Slots → Hs → SO) (x : T) (xs : List T) : forL body none (x :: xs) σ h = (body x σ h).turn (forL body none xs) := (rfl)
@[simp] theorem lcL_nil (f : T → Hs → Out (Option T)) (acc : List T) : lcL f none [] acc h = .ok acc h := (rfl)
@[simp] theorem opL_v (op : Operator) (t u : T) : opL σ op (.v t) (.v u) h = lift (opR op (seen h t) (seen h u)) h := (rfl)
@[simp] theorem opL_al (op : Operator) (l : List T) (u : T) : opL σ op (.al l) (.v u) h = lift (opR op (.lst l) (seen h u)) h := (rfl)
@[simp] theorem truL_v (t : T) : truL σ (.v t) h = lift (truT (seen h t)) h := (rfl)
@[simp] theorem truL_al (l : List T) : truL σ (.al l) h = .ok (!l.isEmpty) h := (rfl)
@[simp] theorem cmpL_v (op : CmpOp) (t u : T) : cmpL σ op (.v t) (.v u) h = lift (cmpR op (seen h t) (seen h u)) h := (rfl)
@[simp] theorem cmpL_va (op : CmpOp) (t : T) (l : List T) : cmpL σ op (.v t) (.al l) h = lift (cmpR op (seen h t) (.lst l)) h := (rfl)
@[simp] theorem cmpL_av (op : CmpOp) (t : T) (l : List T) : cmpL σ op (.al l) (.v t) h = lift (cmpR op (.lst l) (seen h t)) h := (rfl)
@[simp] theorem cmpL_aa (op : CmpOp) (l m : List T) : cmpL σ op (.al l) (.al m) h = lift (cmpR op (.lst l) (.lst m)) h := (rfl)
section
variable (wd : Str → Str → Option T)
@[simp] theorem ixL_ref (n : Nat) (u : T) : ixL wd σ (.v (.ref n)) (.v u) h = lift ((ixR (seen h (.ref n)) u).map .v) h := (rfl)
@[simp] theorem ixL_str (n : Str) (u : T) : ixL wd σ (.v (.str n)) (.v u) h = lift ((ixR (seen h (.str n)) u).map .v) h := (rfl)
@[simp] theorem ixL_tup (n : List T) (u : T) : ixL wd σ (.v (.tup n)) (.v u) h = lift ((ixR (seen h (.tup n)) u).map .v) h := (rfl)
@[simp] theorem ixL_lst (n : List T) (u : T) : ixL wd σ (.v (.lst n)) (.v u) h = lift ((ixR (seen h (.lst n)) u).map .v) h := (rfl)
@[simp] theorem ixL_slst (n : List T) (u : T) : ixL wd σ (.v (.slst n)) (.v u) h = lift ((ixR (seen h (.slst n)) u).map .v) h := (rfl)
@[simp] theorem ixL_dct (n : List (L2.Key × T)) (u : T) : ixL wd σ (.v (.dct n)) (.v u) h = lift ((ixR (seen h (.dct n)) u).map .v) h := (rfl)
@[simp] theorem ixL_al (l : List T) (u : T) : ixL wd σ (.al l) (.v u) h = lift ((ixR (.lst l) u).map .v) h := (rfl)
@[simp] theorem ixL_gl (g z : Str) : ixL wd σ (.v (.gl g)) (.v (.str z)) h = lift ((wd g z).map .v) h := (rfl)
theorem ixL_bw {j : Nat} {l : List T} (e : σ[j]? = some (some (.al l))) (u : T) : ixL wd σ (.bw j) (.v u) h = lift ((ixR (.lst l) u).map .v) h := by simp [ixL, peek, e]
end
@[simp] theorem ixR_dct (l : List (L2.Key × T)) (t : T) : ixR (.dct l) t = (keyT t).bind (lookT l) := by cases t <;> rfl
@[simp] theorem ixR_lst (l : List T) (i : Int) : ixR (.lst l) (.int i) = L2.atI l i := (rfl)
@[simp] theorem ixR_slst (l : List T) (i : Int) : ixR (.slst l) (.int i) = L2.atI l i := (rfl)
@[simp] theorem ixR_tup (l : List T) (i : Int) : ixR (.tup l) (.int i) = L2.atI l i := (rfl)
@[simp] theorem slL_v (t : T) (l u : Option Int) : slL σ (.v t) l u h = lift (slR (seen h t) l u) h := (rfl)
@[simp] theorem slL_al (t : List T) (l u : Option Int) : slL σ (.al t) l u h = .ok (.al (cutT t l u)) h := (rfl)
@[simp] theorem slR_lst (t : List T) (l u : Option Int) : slR (.lst t) l u = some (.al (cutT t l u)) := (rfl)
@[simp] theorem opR_add (i j : Int) : opR .Add (.int i) (.int j) = some (.v (.int (i + j))) := (rfl)
@[simp] theorem opR_catT (a b : List T) : opR .Add (.tup a) (.tup b) = if a.length + b.length ≤ SL then some (.v (.tup (a ++ b))) else none := (rfl)
@[simp] theorem opR_catS (a b : Str) : opR .Add (.str a) (.str b) = if a.length + b.length ≤ SL then some (.v (.str (a ++ b))) else none := (rfl)
@[simp] theorem opR_catL (a b : List T) : opR .Add (.lst a) (.lst b) = if a.length + b.length ≤ SL then some (.al (a ++ b)) else none := (rfl)
@[simp] theorem opR_sub (i j : Int) : opR .Sub (.int i) (.int j) = some (.v (.int (i - j))) := (rfl)
theorem opR_mul {i j : Int} (e : mulOk i j = true) : opR .Mult (.int i) (.int j) = some (.v (.int (i * j))) := if_pos e
theorem opR_div {i j : Int} (e : 0 < j) (l : j.natAbs.log2 < 9000) : opR .FloorDiv (.int i) (.int j) = some (.v (.int (i / j))) := by
  show (fdivT i j).map _ = _
  unfold fdivT; rw [if_pos ⟨e, l⟩]; rfl
theorem opR_mod {i j : Int} (e : 0 < j) : opR .Mod (.int i) (.int j) = some (.v (.int (i % j))) := by
  show (modT i j).map _ = _
  unfold modT; rw [if_pos e]; rfl
theorem opR_pow {i j : Int} (e : 0 ≤ j) (l : (Builtin.Int.intBits i : Int) * j ≤ 2 ^ 27) : opR .Pow (.int i) (.int j) = some (.v (.int (i ^ j.toNat))) := by
  show (powT i j).map _ = _
  unfold powT; rw [if_pos ⟨e, l⟩]; rfl
theorem mulOk_l {i j : Int} (a : -(2 ^ 64) < i) (b : i < 2 ^ 64) : mulOk i j = true := by unfold mulOk; rw [decide_eq_true ⟨a, b⟩]; rfl
theorem mulOk_r {i j : Int} (a : -(2 ^ 64) < j) (b : j < 2 ^ 64) : mulOk i j = true := by unfold mulOk; rw [decide_eq_true (p := _ ∧ j < 2 ^ 64) ⟨a, b⟩]; simp
@[simp] theorem cmpR_lt (i j : Int) : cmpR .Lt (.int i) (.int j) = some (decide (i < j)) := (rfl)
@[simp] theorem cmpR_le (i j : Int) : cmpR .LtE (.int i) (.int j) = some (decide (i ≤ j)) := (rfl)
@[simp] theorem cmpR_gt (i j : Int) : cmpR .Gt (.int i) (.int j) = some (decide (j < i)) := (rfl)
@[simp] theorem cmpR_ge (i j : Int) : cmpR .GtE (.int i) (.int j) = some (decide (j ≤ i)) := (rfl)
@[simp] theorem cmpR_is (t : T) : cmpR .Is t .non = some (match t with | .non => true | _ => false) := (rfl)
@[simp] theorem cmpR_isnot (t : T) : cmpR .IsNot t .non = some (match t with | .non => false | _ => true) := (rfl)
@[simp] theorem cmpR_eq (t u : T) : cmpR .Eq t u = eqT t u := (rfl)
@[simp] theorem cmpR_ne (t u : T) : cmpR .NotEq t u = (eqT t u).map (!·) := (rfl)
@[simp] theorem cmpR_in (t u : T) : cmpR .In t u = inT t u := (rfl)
theorem cmpR_notin (t u : T) (e : ∀ l, u ≠ .tst l) : cmpR .NotIn t u = (inT t u).map (!·) := by cases u <;> first | rfl | exact (e _ rfl).elim
@[simp] theorem cmpR_notin_lst (t : T) (l : List T) : cmpR .NotIn t (.lst l) = (inT t (.lst l)).map (!·) := (rfl)
@[simp] theorem cmpR_notin_tup (t : T) (l : List T) : cmpR .NotIn t (.tup l) = (inT t (.tup l)).map (!·) := (rfl)
@[simp] theorem cmpR_notin_str (t : T) (l : Str) : cmpR .NotIn t (.str l) = (inT t (.str l)).map (!·) := (rfl)
@[simp] theorem cmpR_notin_slst (t : T) (l : List T) : cmpR .NotIn t (.slst l) = (inT t (.slst l)).map (!·) := (rfl)
@[simp] theorem truT_bl (b : Bool) : truT (.bl b) = some b := (rfl)
@[simp] theorem truT_int (i : Int) : truT (.int i) = some (i != 0) := (rfl)
@[simp] theorem truT_non : truT .non = some false := (rfl)
@[simp] theorem truT_lst (l : List T) : truT (.lst l) = some (!l.isEmpty) := (rfl)
@[simp] theorem truT_tup (l : List T) : truT (.tup l) = some (!l.isEmpty) := (rfl)
@[simp] theorem truT_slst (l : List T) : truT (.slst l) = some (!l.isEmpty) := (rfl)
@[simp] theorem items_lst (l : List T) : itemsT (.lst l) = some l := (rfl)
@[simp] theorem items_tup (l : List T) : itemsT (.tup l) = some l := (rfl)
@[simp] theorem items_slst (l : List T) : itemsT (.slst l) = some l := (rfl)
@[simp] theorem eqT_int (i j : Int) : eqT (.int i) (.int j) = some (decide (i = j)) := by
  simp [eqT, toD, SeqAt.shaped, PyData.canLay0, PyData.depth, PyData.eqv]
  rfl
@[simp] theorem eqT_bl (a b : Bool) : eqT (.bl a) (.bl b) = some (a == b) := by
  simp [eqT, toD, SeqAt.shaped, PyData.canLay0, PyData.depth, PyData.eqv]
@[simp] theorem eqT_bi (a : Bool) (j : Int) : eqT (.bl a) (.int j) = some (decide ((if a then 1 else 0) = j)) := by
  simp [eqT, toD, SeqAt.shaped, PyData.canLay0, PyData.depth, PyData.eqv]; rfl
@[simp] theorem eqT_nn : eqT .non .non = some true := by
  simp [eqT, toD, SeqAt.shaped, PyData.canLay0, PyData.depth, PyData.eqv]
@[simp] theorem eqT_ni (i : Int) : eqT .non (.int i) = some false := by
  simp [eqT, toD, SeqAt.shaped, PyData.canLay0, PyData.depth, PyData.eqv]
@[simp] theorem eqT_in (i : Int) : eqT (.int i) .non = some false := by
  simp [eqT, toD, SeqAt.shaped, PyData.canLay0, PyData.depth, PyData.eqv]
def setR (o : Option HOb) (n : Nat) (k : T) (t : T) (h : Hs) : Option Hs := match o, k with
    | some (.lst l), .int k => (L2.ixN l.length k).map fun j => h.set n (.lst (l.set j t))
    | some (.dct l), k => (keyT k).bind fun k => if l.length < SL then some (h.set n (.dct (putT l k t))) else none
    | _, _ => none
@[simp] theorem setR_lst (l : List T) (n : Nat) (k : Int) (t : T) : setR (some (.lst l)) n (.int k) t h = (L2.ixN l.length k).map fun j => h.set n (.lst (l.set j t)) := (rfl)
@[simp] theorem setR_dct (l : List (L2.Key × T)) (n : Nat) (k : T) (t : T) : setR (some (.dct l)) n k t h = (keyT k).bind fun k => if l.length < SL then some (h.set n (.dct (putT l k t))) else none := by cases k <;> rfl
@[simp] theorem setL_ref (t : T) (n : Nat) (k : T) : setL (.v t) (.v (.ref n)) (.v k) h = setR h[n]? n k t h := (rfl)
@[simp] theorem len_lst (l : List T) : bltR .len [.lst l] = some (.v (.int l.length)) := (rfl)
@[simp] theorem len_slst (l : List T) : bltR .len [.slst l] = some (.v (.int l.length)) := (rfl)
@[simp] theorem len_tup (l : List T) : bltR .len [.tup l] = some (.v (.int l.length)) := (rfl)
def absI (i : Int) : Int := if i < 0 then -i else i
@[simp] theorem abs_int (i : Int) : bltR .abs [.int i] = some (.v (.int (absI i))) := (rfl)
@[simp] theorem int_int (i : Int) : bltR .int [.int i] = some (.v (.int i)) := (rfl)
@[simp] theorem int_str (z : Str) : bltR .int [.str z] = if z.length ≤ 640 then (intText? z).map fun n => .v (.int n) else none := (rfl)
@[simp] theorem int_bl (b : Bool) : bltR .int [.bl b] = some (.v (.int (if b then 1 else 0))) := (rfl)
@[simp] theorem max_int (i j : Int) : bltR .max [.int i, .int j] = some (.v (.int (if j > i then j else i))) := (rfl)
@[simp] theorem min_int (i j : Int) : bltR .min [.int i, .int j] = some (.v (.int (if j < i then j else i))) := (rfl)
@[simp] theorem tuple_lst (l : List T) : bltR .tuple [.lst l] = some (.v (.tup l)) := (rfl)
@[simp] theorem list_lst (l : List T) : bltR .list [.lst l] = some (.al l) := (rfl)
@[simp] theorem pow_10_9 : opR .Pow (.int 10) (.int 9) = some (.v (.int 1000000000)) := by rw [opR_pow (by decide) (by decide)]; rfl
@[simp] theorem pow_10_18 : opR .Pow (.int 10) (.int 18) = some (.v (.int 1000000000000000000)) := by rw [opR_pow (by decide) (by decide)]; rfl
end
theorem runD_eq (Γ : Ctx) (d : FD) {ts : List T} (h : Hs) (e : ts.length = d.ps) : runD Γ d ts h = (evSs Γ d.body (startT d.n ts) h).out := if_pos e
theorem callK_eq {P : Pg} {k f : Nat} {d : FD} (e : P.ds[f]? = some d) (ts : List T) (h : Hs) : callK P (k + 3) f ts h = runD ⟨callK P (k + 2), callK P (k + 1), P.gv, P.ix, P.wd, P.cs⟩ d ts h := by
  rw [callK, e]
theorem forL_run {body : T → Slots → Hs → SO} (Inv : Nat → Slots → Hs → Prop) : ∀ (xs : List T) (k : Nat), (∀ i x, xs[i]? = some x → ∀ σ h, Inv (k + i) σ h → ∃ σ' h', (body x σ h = .ok .nx σ' h' ∨ body x σ h = .ok .ct σ' h') ∧ Inv (k + i + 1) σ' h') →
    ∀ σ h, Inv k σ h → ∃ σ' h', forL body none xs σ h = .ok .nx σ' h' ∧ Inv (k + xs.length) σ' h'
  | [], k, _, σ, h, q => ⟨σ, h, rfl, q⟩
  | x :: xs, k, step, σ, h, q => by
    obtain ⟨σ1, h1, e1, q1⟩ := step 0 x rfl σ h q
    obtain ⟨σ2, h2, e2, q2⟩ := forL_run Inv xs (k + 1) (fun i y e σ h q => by
      have := step (i + 1) y e σ h (by rw [show k + (i + 1) = k + 1 + i by omega]; exact q)
      rw [show k + (i + 1) + 1 = k + 1 + i + 1 by omega] at this
      exact this) σ1 h1 q1
    refine ⟨σ2, h2, ?_, by rw [List.length_cons, show k + (xs.length + 1) = k + 1 + xs.length by omega]; exact q2⟩
    rw [forL_cons]
    rcases e1 with e1 | e1 <;> rw [e1] <;> exact e2
theorem rng0 {j : Int} {n : Nat} (e : j = n) (hn : n < 2 ^ 62) : rngT 0 j = some ((List.range n).map fun k : Nat => .int k) := by
  subst e
  unfold rngT
  rw [if_pos (by omega)]
  simp
theorem rng_get {n i : Nat} {x : T} (e : ((List.range n).map fun k : Nat => T.int (k : Int))[i]? = some x) : x = .int (i : Int) ∧ i < n := by
  rw [List.getElem?_map] at e
  cases h : (List.range n)[i]? with
  | none => rw [h] at e; cases e
  | some j =>
    rw [h] at e
    cases e
    rw [List.getElem?_eq_some_iff] at h
    obtain ⟨h1, h2⟩ := h
    simp at h1 h2
    subst h2
    exact ⟨rfl, h1⟩
/-- range(max(lo, min(hi, len(x)))) -/
theorem it_lim (Γ : Ctx) (own : Bool) {i : Nat} {l : List T} {σ : Slots} (lo hi : Int) (h : Hs) (e : σ[i]? = some (some (.v (.slst l)))) (h0 : 0 ≤ lo) (h1 : lo ≤ hi) (h2 : hi < 2 ^ 62) :
    ∃ m : Nat, lo ≤ m ∧ (m : Int) ≤ hi ∧ evIt Γ own (.r1 (.blt .max [.c (.int lo), .blt .min [.c (.int hi), .blt .len [.var i]]])) σ h = .ok (itm ((List.range m).map fun k : Nat => .int k)) h := by
  obtain ⟨a, ha, ea⟩ : ∃ a : Nat, (a : Int) ≤ hi ∧ (if (l.length : Int) < hi then (l.length : Int) else hi) = (a : Int) := by
    by_cases c : (l.length : Int) < hi
    · exact ⟨l.length, by omega, if_pos c⟩
    · exact ⟨hi.toNat, by omega, by rw [if_neg c]; omega⟩
  obtain ⟨m, hm, hm2, em⟩ : ∃ m : Nat, lo ≤ m ∧ (m : Int) ≤ hi ∧ (if lo < (a : Int) then (a : Int) else lo) = (m : Int) := by
    by_cases c : lo < a
    · exact ⟨a, by omega, ha, if_pos c⟩
    · exact ⟨lo.toNat, by omega, by omega, by rw [if_neg c]; omega⟩
  refine ⟨m, hm, hm2, ?_⟩
  simp [e, ea, em, rng0 (rfl : (m : Int) = m) (by omega)]
end VY
namespace VY
open PySem
def takeB1 : List S := [.ife (.t (.cmp .Gt (.ix (.var 0) (.c (.int 0))) (.c (.int 0)))) [.asg 6 (.bin .Mod (.ix (.var 0) (.c (.int 0))) (.var 1)), .setIx (.var 0) (.c (.int 0)) (.bin .FloorDiv (.ix (.var 0) (.c (.int 0))) (.var 1)), .ret (.var 6)] [], .asg 2 (.tup [.c (.int 2147483647), .c (.int 2147483629), .c (.int 2147483587), .c (.int 2147483579), .c (.int 2147483563), .c (.int 2147483549), .c (.int 2147483543), .c (.int 2147483497)]), .setIx (.var 0) (.c (.int 2)) (.bin .Add (.ix (.var 0) (.c (.int 2))) (.c (.int 1))), .asg 3 (.ix (.var 0) (.c (.int 2))), .asg 4 (.bin .Add (.bin .Add (.bin .Mult (.ix (.var 0) (.c (.int 1))) (.bin .Add (.bin .Mult (.c (.int 2)) (.var 3)) (.c (.int 1)))) (.bin .Mult (.bin .Mult (.c (.int 6121)) (.var 3)) (.var 3))) (.c (.int 37))), .asg 5 (.bin .Mod (.bin .Pow (.var 4) (.c (.int 3))) (.ix (.var 2) (.bin .Mod (.var 3) (.c (.int 8))))), .ret (.bin .Mod (.bin .FloorDiv (.bin .Mod (.bin .Mult (.var 5) (.bin .Add (.bin .FloorDiv (.var 5) (.c (.int 4093))) (.var 3))) (.ix (.var 2) (.bin .Mod (.bin .Add (.var 3) (.c (.int 3))) (.c (.int 8))))) (.c (.int 16))) (.var 1))]
theorem take1_pos (Γ : Ctx) {n : Nat} {g b c many : Int} {h : Hs} (e : h[n]? = some (.lst [.int g, .int b, .int c])) (hm : 0 < many) (hl : many.natAbs.log2 < 9000) (hg : 0 < g) :
    runD Γ ⟨2, 7, takeB1⟩ [.ref n, .int many] h = .ok (.v (.int (g % many))) (h.set n (.lst [.int (g / many), .int b, .int c])) := by
  have hn : n < h.length := (List.getElem?_eq_some_iff.mp e).1
  rw [runD_eq _ _ _ rfl]
  simp [takeB1, startT, e, L2.atI, L2.ixN, CT.t, hg, opR_mod hm, opR_div hm hl]
theorem bits_le {i : Int} {n : Nat} (h : i.natAbs < 2 ^ n) : Builtin.Int.intBits i ≤ n := by
  unfold Builtin.Int.intBits
  split
  · exact Nat.zero_le _
  · rename_i c
    have hz : i.natAbs ≠ 0 := fun z => c (by simpa using z)
    exact (Nat.log2_lt hz).mpr h
def primes1 : List T := [.int 2147483647, .int 2147483629, .int 2147483587, .int 2147483579, .int 2147483563, .int 2147483549, .int 2147483543, .int 2147483497]
def prm1 (x : Int) : Int := if x % 8 = 0 then 2147483647 else if x % 8 = 1 then 2147483629 else if x % 8 = 2 then 2147483587 else if x % 8 = 3 then 2147483579 else if x % 8 = 4 then 2147483563 else if x % 8 = 5 then 2147483549 else if x % 8 = 6 then 2147483543 else 2147483497
theorem prm1_at (x : Int) : L2.atI primes1 (x % 8) = some (.int (prm1 x)) := by
  have h1 : 0 ≤ x % 8 := Int.emod_nonneg _ (by decide)
  have h2 : x % 8 < 8 := Int.emod_lt_of_pos _ (by decide)
  unfold prm1
  generalize x % 8 = y at h1 h2
  have : y = 0 ∨ y = 1 ∨ y = 2 ∨ y = 3 ∨ y = 4 ∨ y = 5 ∨ y = 6 ∨ y = 7 := by omega
  rcases this with rfl | rfl | rfl | rfl | rfl | rfl | rfl | rfl <;> rfl
theorem prm1_pos (x : Int) : 0 < prm1 x ∧ prm1 x < 2 ^ 31 := by
  unfold prm1
  repeat' split
  all_goals decide
def found1 (b c : Int) : Int := (b * (2 * (c + 1) + 1) + 6121 * (c + 1) * (c + 1) + 37) ^ 3 % prm1 (c + 1)
def mixed1 (b c : Int) : Int := found1 b c * (found1 b c / 4093 + (c + 1)) % prm1 (c + 1 + 3) / 16
theorem take1_mix (Γ : Ctx) {n : Nat} {g b c many : Int} {h : Hs} (e : h[n]? = some (.lst [.int g, .int b, .int c])) (hm : 0 < many) (hg : ¬ 0 < g) (hb : 0 ≤ b) (hb2 : b < 2 ^ 63) (hc : 0 ≤ c) (hc2 : c < 2 ^ 20) :
    runD Γ ⟨2, 7, takeB1⟩ [.ref n, .int many] h = .ok (.v (.int (mixed1 b c % many))) (h.set n (.lst [.int g, .int b, .int (c + 1)])) := by
  have hn : n < h.length := (List.getElem?_eq_some_iff.mp e).1
  have p1 := prm1_pos (c + 1)
  have p2 := prm1_pos (c + 1 + 3)
  have f1 : 0 ≤ found1 b c := Int.emod_nonneg _ (by omega)
  have f2 : found1 b c < 2 ^ 31 := Int.lt_trans (Int.emod_lt_of_pos _ p1.1) p1.2
  have m1 : opR .Mult (.int b) (.int (2 * (c + 1) + 1)) = some (.v (.int (b * (2 * (c + 1) + 1)))) := opR_mul (mulOk_l (by omega) (by omega))
  have m2 : opR .Mult (.int 2) (.int (c + 1)) = some (.v (.int (2 * (c + 1)))) := opR_mul (mulOk_l (by decide) (by decide))
  have m3 : opR .Mult (.int 6121) (.int (c + 1)) = some (.v (.int (6121 * (c + 1)))) := opR_mul (mulOk_l (by decide) (by decide))
  have m4 : opR .Mult (.int (6121 * (c + 1))) (.int (c + 1)) = some (.v (.int (6121 * (c + 1) * (c + 1)))) := opR_mul (mulOk_r (by omega) (by omega))
  have bb : (b * (2 * (c + 1) + 1) + 6121 * (c + 1) * (c + 1) + 37).natAbs < 2 ^ 100 := by
    have q1 : b * (2 * (c + 1) + 1) ≤ 2 ^ 63 * 2 ^ 22 := Int.mul_le_mul (by omega) (by omega) (by omega) (by decide)
    have q2 : 6121 * (c + 1) * (c + 1) ≤ 6121 * 2 ^ 21 * 2 ^ 21 := Int.mul_le_mul (by omega) (by omega) (by omega) (by decide)
    have q3 : 0 ≤ b * (2 * (c + 1) + 1) := Int.mul_nonneg hb (by omega)
    have q4 : 0 ≤ 6121 * (c + 1) * (c + 1) := Int.mul_nonneg (by omega) (by omega)
    omega
  have pw : opR .Pow (.int (b * (2 * (c + 1) + 1) + 6121 * (c + 1) * (c + 1) + 37)) (.int 3) = some (.v (.int ((b * (2 * (c + 1) + 1) + 6121 * (c + 1) * (c + 1) + 37) ^ 3))) := opR_pow (by decide) (by have := bits_le bb; omega)
  have mm1 : opR .Mod (.int ((b * (2 * (c + 1) + 1) + 6121 * (c + 1) * (c + 1) + 37) ^ 3)) (.int (prm1 (c + 1))) = some (.v (.int (found1 b c))) := opR_mod p1.1
  have md : opR .FloorDiv (.int (found1 b c)) (.int 4093) = some (.v (.int (found1 b c / 4093))) := opR_div (by decide) (by decide)
  have m5 : opR .Mult (.int (found1 b c)) (.int (found1 b c / 4093 + (c + 1))) = some (.v (.int (found1 b c * (found1 b c / 4093 + (c + 1))))) := opR_mul (mulOk_l (by omega) (by omega))
  have mm2 : opR .Mod (.int (found1 b c * (found1 b c / 4093 + (c + 1)))) (.int (prm1 (c + 1 + 3))) = some (.v (.int (found1 b c * (found1 b c / 4093 + (c + 1)) % prm1 (c + 1 + 3)))) := opR_mod p2.1
  have md2 : opR .FloorDiv (.int (found1 b c * (found1 b c / 4093 + (c + 1)) % prm1 (c + 1 + 3))) (.int 16) = some (.v (.int (mixed1 b c))) := opR_div (by decide) (by decide)
  have a1 : L2.atI primes1 ((c + 1) % 8) = some (.int (prm1 (c + 1))) := prm1_at _
  have a2 : L2.atI primes1 ((c + 1 + 3) % 8) = some (.int (prm1 (c + 1 + 3))) := prm1_at _
  have i0 : L2.atI [T.int g, T.int b, T.int c] 0 = some (.int g) := rfl
  have i2 : L2.atI [T.int g, T.int b, T.int c] 2 = some (.int c) := rfl
  have i2' : L2.atI [T.int g, T.int b, T.int (c + 1)] 2 = some (.int (c + 1)) := rfl
  have i1' : L2.atI [T.int g, T.int b, T.int (c + 1)] 1 = some (.int b) := rfl
  have ix : L2.ixN 3 2 = some 2 := rfl
  have m8 : ∀ i : Int, opR .Mod (.int i) (.int 8) = some (.v (.int (i % 8))) := fun i => opR_mod (by decide)
  have mf : opR .Mod (.int (mixed1 b c)) (.int many) = some (.v (.int (mixed1 b c % many))) := opR_mod hm
  have pr : ([.int 2147483647, .int 2147483629, .int 2147483587, .int 2147483579, .int 2147483563, .int 2147483549, .int 2147483543, .int 2147483497] : List T) = primes1 := rfl
  rw [runD_eq _ _ _ rfl]
  have hs : ∀ x, (h.set n x)[n]? = some x := fun x => List.getElem?_set_self hn
  have pl : primes1.length ≤ SL := by decide
  simp [takeB1, startT, e, CT.t, hg, hs, pl, i0, i2, i2', i1', ix, pr, a1, a2, m1, m2, m3, m4, pw, mm1, md, m5, mm2, md2, m8, mf]
/-- a bag of the first sort: k draws at most -/
structure Bag1 (h : Hs) (n k : Nat) : Prop where
  ex : ∃ g b c : Int, h[n]? = some (.lst [.int g, .int b, .int c]) ∧ 0 ≤ b ∧ b < 2 ^ 63 ∧ 0 ≤ c ∧ c ≤ k
/-- nothing but the n-th object has changed -/
structure Only1 (h h' : Hs) (n : Nat) : Prop where
  len : h'.length = h.length
  same : ∀ m, m ≠ n → h'[m]? = h[m]?
theorem Only1.set {h : Hs} {n : Nat} {o : HOb} : Only1 h (h.set n o) n := ⟨List.length_set .., fun m hm => List.getElem?_set_ne (Ne.symm hm)⟩
theorem Only1.refl {h : Hs} {n : Nat} : Only1 h h n := ⟨rfl, fun _ _ => rfl⟩
theorem Only1.trans {h h' h'' : Hs} {n : Nat} (a : Only1 h h' n) (b : Only1 h' h'' n) : Only1 h h'' n := ⟨b.len.trans a.len, fun m hm => (b.same m hm).trans (a.same m hm)⟩
theorem Bag1.le {h : Hs} {n k k' : Nat} (b : Bag1 h n k) (e : k ≤ k') : Bag1 h n k' := by
  obtain ⟨g, b, c, e1, e2, e3, e4, e5⟩ := b
  exact ⟨g, b, c, e1, e2, e3, e4, by omega⟩
theorem take1 (Γ : Ctx) {n k : Nat} {many : Int} {h : Hs} (bg : Bag1 h n k) (hm : 0 < many) (hl : many.natAbs.log2 < 9000) (hk : k < 2 ^ 20) :
    ∃ d h', runD Γ ⟨2, 7, takeB1⟩ [.ref n, .int many] h = .ok (.v (.int d)) h' ∧ 0 ≤ d ∧ d < many ∧ Bag1 h' n (k + 1) ∧ Only1 h h' n := by
  obtain ⟨g, b, c, e, hb, hb2, hc, hc2⟩ := bg
  have hn : n < h.length := (List.getElem?_eq_some_iff.mp e).1
  by_cases hg : 0 < g
  · exact ⟨_, _, take1_pos Γ e hm hl hg, Int.emod_nonneg _ (by omega), Int.emod_lt_of_pos _ hm, ⟨_, _, _, List.getElem?_set_self hn, hb, hb2, hc, by omega⟩, Only1.set⟩
  · exact ⟨_, _, take1_mix Γ e hm hg hb hb2 hc (by omega), Int.emod_nonneg _ (by omega), Int.emod_lt_of_pos _ hm, ⟨_, _, _, List.getElem?_set_self hn, hb, hb2, by omega, by omega⟩, Only1.set⟩
def bagT1 : List S := [.asg 3 (.bin .Mult (.blt .abs [.var 2]) (.blt .int [.cmp .GtE (.blt .abs [.var 2]) (.bin .Pow (.c (.int 10)) (.c (.int 18)))])), .ret (.lst [.var 3, .bin .Add (.bin .Add (.bin .Add (.bin .Mod (.var 2) (.bin .Add (.bin .Pow (.c (.int 10)) (.c (.int 18))) (.c (.int 9)))) (.bin .Mult (.bin .Mult (.c (.int 50021)) (.var 1)) (.var 1))) (.bin .Mult (.c (.int 7013)) (.var 1))) (.c (.int 19)), .c (.int 0)])]
def bagB1 : List S := .asg 2 (.c (.int 0)) :: .ife (.t (.cmp .Lt (.var 1) (.blt .len [.var 0]))) [.asg 2 (.ix (.var 0) (.var 1))] [] :: bagT1
theorem bag1_great (Γ : Ctx) (cell : Int) (a b x : Option Sl) (h : Hs) : ∃ g : Int, evE Γ (.bin .Mult (.blt .abs [.var 2]) (.blt .int [.cmp .GtE (.blt .abs [.var 2]) (.bin .Pow (.c (.int 10)) (.c (.int 18)))])) [a, b, some (.v (.int cell)), x] h = .ok (.v (.int g)) h := by
  simp
  generalize hz : (if 1000000000000000000 ≤ absI cell then (1 : Int) else 0) = z
  have hz2 : z = 0 ∨ z = 1 := by
    split at hz
    · exact .inr hz.symm
    · exact .inl hz.symm
  refine ⟨absI cell * z, ?_⟩
  rw [opR_mul (by rcases hz2 with rfl | rfl <;> exact mulOk_r (by decide) (by decide))]
  rfl
theorem bag1_tail (Γ : Ctx) {i : Nat} {h : Hs} (cell : Int) (a x : Option Sl) (hi : i ≤ 1000) :
    ∃ g b, (evSs Γ bagT1 [a, some (.v (.int i)), some (.v (.int cell)), x] h).out = .ok (.al [.int g, .int b, .int 0]) h ∧ 0 ≤ b ∧ b < 2 ^ 63 := by
  have md : opR .Mod (.int cell) (.int 1000000000000000009) = some (.v (.int (cell % 1000000000000000009))) := opR_mod (by decide)
  have m1 : opR .Mult (.int 50021) (.int i) = some (.v (.int (50021 * i))) := opR_mul (mulOk_l (by decide) (by decide))
  have m2 : opR .Mult (.int (50021 * i)) (.int i) = some (.v (.int (50021 * i * i))) := opR_mul (mulOk_r (by omega) (by omega))
  have m3 : opR .Mult (.int 7013) (.int i) = some (.v (.int (7013 * i))) := opR_mul (mulOk_l (by decide) (by decide))
  have q1 : 0 ≤ cell % 1000000000000000009 := Int.emod_nonneg _ (by decide)
  have q2 : cell % 1000000000000000009 < 1000000000000000009 := Int.emod_lt_of_pos _ (by decide)
  have q3 : (50021 * (i : Int) * i) ≤ 50021 * 1000 * 1000 := Int.mul_le_mul (by omega) (by omega) (by omega) (by decide)
  have q4 : 0 ≤ (50021 * (i : Int) * i) := Int.mul_nonneg (by omega) (by omega)
  obtain ⟨g, hg⟩ := bag1_great Γ cell a (some (.v (.int i))) x h
  refine ⟨g, cell % 1000000000000000009 + 50021 * i * i + 7013 * i + 19, ?_, by omega, by omega⟩
  have sl : (3 : Nat) ≤ SL := by decide
  unfold bagT1
  rw [evSs_cons, evS_asg, hg]
  simp [md, m1, m2, m3, sl]
theorem atI_nat {α : Type} {l : List α} {i : Nat} (h : i < l.length) : L2.atI l (i : Int) = some l[i] := by
  unfold L2.atI L2.ixN
  rw [if_pos (by omega), if_pos (by omega)]
  simp
theorem bag1 (Γ : Ctx) (ns : List Int) {i : Nat} (h : Hs) (hi : i ≤ 1000) : ∃ g b, runD Γ ⟨2, 4, bagB1⟩ [.slst (ns.map .int), .int i] h = .ok (.al [.int g, .int b, .int 0]) h ∧ 0 ≤ b ∧ b < 2 ^ 63 := by
  rw [runD_eq _ _ _ rfl]
  by_cases hc : i < ns.length
  · obtain ⟨g, b, e, q⟩ := bag1_tail Γ (i := i) (h := h) ns[i] (some (.v (.slst (ns.map .int)))) none hi
    refine ⟨g, b, ?_, q⟩
    rw [← e]
    have at_ : L2.atI (ns.map T.int) (i : Int) = some (.int ns[i]) := by rw [atI_nat (by simpa using hc)]; simp
    have lt : (i : Int) < ns.length := by omega
    unfold bagB1
    simp [startT, hc, at_]
  · obtain ⟨g, b, e, q⟩ := bag1_tail Γ (i := i) (h := h) 0 (some (.v (.slst (ns.map .int)))) none hi
    refine ⟨g, b, ?_, q⟩
    rw [← e]
    unfold bagB1
    simp [startT, hc]
end VY
namespace VY
open PySem
/-- t is a list with these items, kept or in the heap -/
def Ls (h : Hs) (t : T) (l : List T) : Prop := t = .lst l ∨ ∃ n, t = .ref n ∧ h[n]? = some (.lst l)
theorem Ls.seen {h : Hs} {t : T} {l : List T} (a : Ls h t l) : VY.seen h t = .lst l := by
  rcases a with rfl | ⟨n, rfl, e⟩
  · rfl
  · rw [seen_ref, e]; rfl
theorem Ls.walk {h : Hs} {t : T} {l : List T} (a : Ls h t l) : ∃ g, walkT h t = some ⟨l, g⟩ ∧ gdB g h = true := by
  rcases a with rfl | ⟨n, rfl, e⟩
  · exact ⟨none, rfl, rfl⟩
  · exact ⟨_, walkT_ref h e, gdB_lst h e⟩
/-- nothing that stood has changed -/
def Gr (h h' : Hs) : Prop := ∃ e, h' = h ++ e
theorem Gr.refl {h : Hs} : Gr h h := ⟨[], by simp⟩
theorem Gr.trans {a b c : Hs} (x : Gr a b) (y : Gr b c) : Gr a c := by
  obtain ⟨e, rfl⟩ := x
  obtain ⟨f, rfl⟩ := y
  exact ⟨e ++ f, by simp⟩
theorem Gr.push {h : Hs} {o : HOb} : Gr h (h ++ [o]) := ⟨[o], rfl⟩
theorem Gr.get {h h' : Hs} (x : Gr h h') {n : Nat} {o : HOb} (e : h[n]? = some o) : h'[n]? = some o := by
  obtain ⟨f, rfl⟩ := x
  rw [List.getElem?_append_left (List.getElem?_eq_some_iff.mp e).1]
  exact e
theorem Gr.set_end {h : Hs} {o o' : HOb} : (h ++ [o]).set h.length o' = h ++ [o'] := by simp
theorem Ls.grow {h h' : Hs} {t : T} {l : List T} (a : Ls h t l) (g : Gr h h') : Ls h' t l := by
  rcases a with rfl | ⟨n, rfl, e⟩
  · exact .inl rfl
  · exact .inr ⟨n, rfl, g.get e⟩
theorem Bag1.grow {h h' : Hs} {n k : Nat} (b : Bag1 h n k) (g : Gr h h') : Bag1 h' n k := by
  obtain ⟨x, y, z, e, q⟩ := b
  exact ⟨x, y, z, g.get e, q⟩
theorem intsOf_map : ∀ ns : List Int, intsOf (ns.map .int) = some ns
  | [] => rfl
  | n :: ns => by rw [List.map_cons, intsOf, intsOf_map ns]; rfl
theorem blsOf_map : ∀ ns : List Bool, blsOf (ns.map .bl) = some ns
  | [] => rfl
  | n :: ns => by rw [List.map_cons, blsOf, blsOf_map ns]; rfl
theorem minI_some : ∀ {ns : List Int}, ns ≠ [] → ∃ m, minI ns = some m
  | [], h => (h rfl).elim
  | [a], _ => ⟨a, rfl⟩
  | a :: b :: r, _ => by
    obtain ⟨m, e⟩ := minI_some (ns := b :: r) (by simp)
    exact ⟨if m < a then m else a, by rw [minI, e]; rfl; simp⟩
theorem maxI_some : ∀ {ns : List Int}, ns ≠ [] → ∃ m, maxI ns = some m
  | [], h => (h rfl).elim
  | [a], _ => ⟨a, rfl⟩
  | a :: b :: r, _ => by
    obtain ⟨m, e⟩ := maxI_some (ns := b :: r) (by simp)
    exact ⟨if a < m then m else a, by rw [maxI, e]; rfl; simp⟩
def nubS (σ : List Int) (k : Int) : List Int := if σ.any (· == k) then σ else σ ++ [k]
theorem nub_le : ∀ (r σ : List Int), σ.length ≤ (r.foldl nubS σ).length
  | [], σ => Nat.le_refl _
  | k :: r, σ => by
    rw [List.foldl_cons]
    refine Nat.le_trans ?_ (nub_le r _)
    unfold nubS
    split
    · exact Nat.le_refl _
    · rw [List.length_append]; omega
theorem nub_one (a : Int) : ∀ r : List Int, decide ((r.foldl nubS [a]).length = 1) = r.all fun x => decide (x = a)
  | [] => rfl
  | x :: r => by
    rw [List.foldl_cons, List.all_cons]
    by_cases c : x = a
    · subst c
      have : nubS [x] x = [x] := by unfold nubS; simp
      rw [this, nub_one x r]
      simp
    · have e : nubS [a] x = [a, x] := by
        unfold nubS
        have : ([a].any fun z => z == x) = false := by simpa using fun z => c z.symm
        rw [this]; rfl
      rw [e]
      have := nub_le r [a, x]
      simp only [List.length_cons, List.length_nil] at this
      rw [decide_eq_false c, decide_eq_false (by omega)]
      rfl
theorem nubI_one (a : Int) (r : List Int) : decide ((nubI (a :: r)).length = 1) = (a :: r).all fun x => decide (x = a) := by
  have e : nubI (a :: r) = r.foldl nubS [a] := rfl
  rw [e, nub_one, List.all_cons, decide_eq_true rfl]
  rfl
/-- a letter, or none -/
def optT : Option Int → T
  | some i => .int i
  | none => .non
def optD : Option Int → PyData
  | some i => .int i
  | none => .none
theorem toD_opt (o : Option Int) : toD (optT o) = some (optD o) := by cases o <;> simp [optT, optD, toD]
theorem toDs_opt : ∀ L : List (Option Int), toDs (L.map optT) = some (L.map optD)
  | [] => by simp [toDs]
  | o :: L => by rw [List.map_cons, toDs, toD_opt, toDs_opt L]; rfl
theorem lay_opt : ∀ L : List (Option Int), PyData.canLayAll0 (L.map optD) = true ∧ PyData.depthAll (L.map optD) = 0
  | [] => by simp [PyData.canLayAll0, PyData.depthAll]
  | o :: L => by
    obtain ⟨a, b⟩ := lay_opt L
    cases o <;> simp [PyData.canLayAll0, PyData.depthAll, PyData.canLay0, PyData.depth, optD, a, b]
theorem shp_opt (L : List (Option Int)) : SeqAt.shaped (.list (L.map optD)) = true := by
  obtain ⟨a, b⟩ := lay_opt L
  simp [SeqAt.shaped, PyData.canLay0, PyData.depth, a, b]
theorem shp_opt1 (o : Option Int) : SeqAt.shaped (optD o) = true := by cases o <;> simp [SeqAt.shaped, PyData.canLay0, PyData.depth, optD]
theorem eqv_opt (o p : Option Int) : PyData.eqv (optD o) (optD p) = decide (o = p) := by
  cases o <;> cases p <;> simp [optD, PyData.eqv]
  rfl
theorem eqT_opt (o p : Option Int) : eqT (optT o) (optT p) = some (decide (o = p)) := by
  unfold eqT
  rw [toD_opt, toD_opt]
  simp [shp_opt1, eqv_opt]
theorem in_opt (L : List (Option Int)) : inT .non (.lst (L.map optT)) = some (L.any fun o => o.isNone) := by
  have e : toD .non = some .none := by simp [toD]
  show (match toD .non, toDs (L.map optT) with | some d, some ds => if SeqAt.shaped d && SeqAt.shaped (.list ds) then some (ds.any fun z => PyData.eqv z d) else none | _, _ => none) = _
  rw [e, toDs_opt]
  have s0 : SeqAt.shaped .none = true := shp_opt1 none
  simp only [s0, shp_opt, Bool.and_self, if_true]
  congr 1
  rw [List.any_map]
  congr 1
  funext o
  exact (eqv_opt o none).trans (by cases o <;> rfl)
theorem eqvs_opt : ∀ L M : List (Option Int), PyData.eqv (.list (L.map optD)) (.list (M.map optD)) = decide (L = M)
  | [], [] => by simp [PyData.eqv, PyData.eqvAll]
  | [], _ :: _ => by simp [PyData.eqv, PyData.eqvAll]
  | _ :: _, [] => by simp [PyData.eqv, PyData.eqvAll]
  | o :: L, p :: M => by
    have ih := eqvs_opt L M
    simp only [PyData.eqv] at ih
    simp only [List.map_cons, PyData.eqv, PyData.eqvAll, ih, eqv_opt]
    by_cases c : o = p <;> by_cases c' : L = M <;> simp [c, c']
theorem eqL_opt (L M : List (Option Int)) : eqT (.lst (L.map optT)) (.lst (M.map optT)) = some (decide (L = M)) := by
  have e : ∀ L : List (Option Int), toD (.lst (L.map optT)) = some (.list (L.map optD)) := fun L => by rw [toD, toDs_opt]; rfl
  unfold eqT
  rw [e, e]
  simp [shp_opt, eqvs_opt]
theorem ints_opt (ns : List Int) : (ns.map some).map optT = ns.map T.int := by simp [optT]
/-- all are there -/
theorem opt_all : ∀ {L : List (Option Int)}, (L.any fun o => o.isNone) = false → ∃ ns : List Int, L = ns.map some
  | [], _ => ⟨[], rfl⟩
  | none :: L, h => by simp at h
  | some n :: L, h => by
    obtain ⟨ns, rfl⟩ := opt_all (L := L) (by simpa using h)
    exact ⟨n :: ns, rfl⟩
theorem forL_stay {body : T → Slots → Hs → SO} {g : Option (Nat × HOb)} {h : Hs} (hg : gdB g h = true) (Inv : Nat → Slots → Prop) : ∀ (xs : List T) (k : Nat), (∀ i x, xs[i]? = some x → ∀ σ, Inv (k + i) σ → ∃ σ', body x σ h = .ok .nx σ' h ∧ Inv (k + i + 1) σ') →
    ∀ σ, Inv k σ → ∃ σ', forL body g xs σ h = .ok .nx σ' h ∧ Inv (k + xs.length) σ'
  | [], k, _, σ, q => ⟨σ, by rw [forL, if_pos hg], q⟩
  | x :: xs, k, step, σ, q => by
    obtain ⟨σ1, e1, q1⟩ := step 0 x rfl σ q
    obtain ⟨σ2, e2, q2⟩ := forL_stay hg Inv xs (k + 1) (fun i y e σ q => by
      have := step (i + 1) y e σ (by rw [show k + (i + 1) = k + 1 + i by omega]; exact q)
      rw [show k + (i + 1) + 1 = k + 1 + i + 1 by omega] at this
      exact this) σ1 q1
    refine ⟨σ2, ?_, by rw [List.length_cons, show k + (xs.length + 1) = k + 1 + xs.length by omega]; exact q2⟩
    rw [forL, if_pos hg, e1]
    exact e2
theorem lcL_map {f : T → Hs → Out (Option T)} {g : Option (Nat × HOb)} {h : Hs} (F : T → T) (hg : gdB g h = true) : ∀ (xs acc : List T), (∀ x ∈ xs, f x h = .ok (some (F x)) h) → acc.length + xs.length ≤ SL → lcL f g xs acc h = .ok (acc ++ xs.map F) h
  | [], acc, _, _ => by rw [lcL, if_pos hg]; simp
  | x :: xs, acc, hf, hl => by
    simp only [List.length_cons] at hl
    rw [lcL, if_pos hg, hf x (by simp), Out.bind_ok]
    simp only []
    rw [if_pos (by omega), lcL_map F hg xs _ (fun y hy => hf y (by simp [hy])) (by simp; omega)]
    simp
end VY
namespace VY
open PySem L2
/-- is_whole(thing): 0 thing -/
def nb0 : List S := [.ret (.bop .And [.blt .isinstance [.var 0, .gl 0], .not (.blt .isinstance [.var 0, .gl 1])])]
def nf0 : FD := ⟨1, 1, nb0⟩
/-- is_letter(thing): 0 thing -/
def nb1 : List S := [.ret (.bop .Or [.cmp .Is (.var 0) (.c .non), .bop .And [.call 0 [.var 0], .ch .LtE .LtE (.neg (.gl 2)) (.var 0) (.gl 2)]])]
def nf1 : FD := ⟨1, 1, nb1⟩
/-- takes(word, many): 0 word, 1 many -/
def nb2 : List S := [.ife (.t (.cmp .In (.var 0) (.gl 3))) [.ret (.cmp .Eq (.var 1) (.c (.int 2)))] [], .ret (.bop .And [.cmp .In (.var 0) (.gl 4), .ch .LtE .LtE (.c (.int 1)) (.var 1) (.gl 5)])]
def nf2 : FD := ⟨2, 2, nb2⟩
/-- is_name(thing): 0 thing, 1 sign -/
def nb3 : List S := [.ife (.bop .Or [.not (.t (.blt .isinstance [.var 0, .gl 6])), .not (.t (.ch .LtE .LtE (.c (.int 1)) (.blt .len [.var 0]) (.gl 7)))]) [.ret (.c (.bl false))] [], .ret (.blt .all [.lc (.cmp .In (.var 1) (.gl 8)) (.nm 1) (.e (.var 0)) .yes])]
def nf3 : FD := ⟨1, 2, nb3⟩
/-- is_within(thing, least, most): 0 thing, 1 least, 2 most -/
def nb4 : List S := [.ret (.bop .And [.call 0 [.var 0], .ch .LtE .LtE (.var 1) (.var 0) (.var 2)])]
def nf4 : FD := ⟨3, 3, nb4⟩
/-- is_room(thing, many): 0 thing, 1 many -/
def nb5 : List S := [.ret (.bop .Or [.cmp .Is (.var 0) (.c .non), .call 4 [.var 0, .blt .max [.c (.int 1), .var 1], .gl 9]])]
def nf5 : FD := ⟨2, 2, nb5⟩
/-- is_work(thing): 0 thing -/
def nb6 : List S := [.ife (.bop .Or [.not (.t (.blt .isinstance [.var 0, .gl 10])), .t (.cmp .NotIn (.blt .len [.var 0]) (.tup [.c (.int 2), .c (.int 3)])), .not (.t (.call 3 [.ix (.var 0) (.c (.int 1))]))]) [.ret (.c (.bl false))] [], .ife (.t (.cmp .Eq (.blt .len [.var 0]) (.c (.int 2)))) [.ret (.bop .And [.blt .isinstance [.ix (.var 0) (.c (.int 0)), .gl 6], .cmp .In (.ix (.var 0) (.c (.int 0))) (.gl 11)])] [], .ret (.bop .And [.cmp .Eq (.ix (.var 0) (.c (.int 0))) (.c (.str "fold")), .blt .isinstance [.ix (.var 0) (.c (.int 2)), .gl 6], .cmp .In (.ix (.var 0) (.c (.int 2))) (.gl 4)])]
def nf6 : FD := ⟨1, 1, nb6⟩
/-- is_wire(thing, names): 0 thing, 1 names, 2 start, 3 goal, 4 at, 5 first, 6 far, 7 room, 8 letter -/
def nb7 : List S := [.ife (.bop .Or [.not (.t (.blt .isinstance [.var 0, .gl 10])), .t (.cmp .NotEq (.blt .len [.var 0]) (.c (.int 6)))]) [.ret (.c (.bl false))] [], .asgT (.tp [.nm 2, .nm 3, .nm 4, .nm 5, .nm 6, .nm 7]) (.var 0), .ife (.bop .Or [.not (.t (.blt .isinstance [.var 2, .gl 6])), .not (.t (.blt .isinstance [.var 3, .gl 6])), .t (.cmp .NotIn (.var 2) (.var 1)), .t (.cmp .NotIn (.var 3) (.var 1))]) [.ret (.c (.bl false))] [], .ife (.bop .Or [.not (.t (.call 4 [.var 4, .c (.int 0), .bin .Sub (.gl 12) (.c (.int 1))])), .not (.t (.blt .isinstance [.var 5, .gl 10])), .t (.cmp .Gt (.blt .len [.var 5]) (.gl 13))]) [.ret (.c (.bl false))] [], .ife (.bop .Or [.not (.t (.blt .all [.lc (.call 1 [.var 8]) (.nm 8) (.e (.var 5)) .yes])), .not (.t (.call 4 [.var 6, .c (.int 1), .gl 14]))]) [.ret (.c (.bl false))] [], .ret (.call 5 [.var 7, .blt .len [.var 5]])]
def nf7 : FD := ⟨2, 9, nb7⟩
/-- look_works(works): 0 works, 1 seen, 2 at, 3 work -/
def nb8 : List S := [.ife (.bop .Or [.not (.t (.blt .isinstance [.var 0, .gl 10])), .not (.t (.ch .LtE .LtE (.c (.int 1)) (.blt .len [.var 0]) (.gl 15)))]) [.rse "NoNet" [.c (.str "works"), .neg (.c (.int 1))]] [], .asg 1 (.op .set0 []), .for (.tp [.nm 2, .nm 3]) (.en (.var 0)) [.ife (.bop .Or [.not (.t (.call 6 [.var 3])), .t (.cmp .In (.ix (.var 3) (.c (.int 1))) (.var 1))]) [.rse "NoNet" [.c (.str "works"), .var 2]] [], .expr (.mth .add (.var 1) [.ix (.var 3) (.c (.int 1))])]]
def nf8 : FD := ⟨1, 4, nb8⟩
/-- look_wires(works, wires): 0 works, 1 wires, 2 names, 3 ends, 4 at, 5 wire, 6 work -/
def nb9 : List S := [.ife (.bop .Or [.not (.t (.blt .isinstance [.var 1, .gl 10])), .t (.cmp .Gt (.blt .len [.var 1]) (.gl 16))]) [.rse "NoNet" [.c (.str "wires"), .neg (.c (.int 1))]] [], .asg 2 (.lc (.ix (.var 6) (.c (.int 1))) (.nm 6) (.e (.var 0)) .yes), .fz 2, .asg 3 (.op .tset0 []), .for (.tp [.nm 4, .nm 5]) (.en (.var 1)) [.ife (.bop .Or [.not (.t (.call 7 [.var 5, .var 2])), .t (.cmp .In (.sl (.var 5) (.at (.c (.int 1))) (.at (.c (.int 3)))) (.var 3))]) [.rse "NoNet" [.c (.str "wires"), .var 4]] [], .expr (.mth .add (.var 3) [.sl (.var 5) (.at (.c (.int 1))) (.at (.c (.int 3)))])]]
def nf9 : FD := ⟨2, 7, nb9⟩
/-- is_fed(work, many): 0 work, 1 many, 2 kind, 3 name, 4 least, 5 most, 6 words -/
def nb10 : List S := [.asgR [2, 3] 6 (.var 0), .ife (.t (.cmp .Eq (.var 2) (.c (.str "fold")))) [.ret (.call 2 [.ix (.var 6) (.c (.int 0)), .var 1])] [], .asgT (.tp [.nm 4, .nm 5]) (.ix (.dsp [.c (.str "spring"), .tup [.c (.int 0), .c (.int 0)], .c (.str "mouth"), .tup [.c (.int 1), .c (.int 1)], .c (.str "pick"), .tup [.c (.int 2), .gl 12]]) (.var 2)), .ret (.ch .LtE .LtE (.var 4) (.var 1) (.var 5))]
def nf10 : FD := ⟨2, 7, nb10⟩
/-- look_ins(works, wires): 0 works, 1 wires, 2 at, 3 work, 4 ins, 5 leaves, 6 wire -/
def nb11 : List S := [.for (.tp [.nm 2, .nm 3]) (.en (.var 0)) [.asg 4 (.blt .sorted [.lc (.ix (.var 6) (.c (.int 2))) (.nm 6) (.e (.var 1)) (.t (.cmp .Eq (.ix (.var 6) (.c (.int 1))) (.ix (.var 3) (.c (.int 1)))))]), .fz 4, .asg 5 (.blt .any [.lc (.cmp .Eq (.ix (.var 6) (.c (.int 0))) (.ix (.var 3) (.c (.int 1)))) (.nm 6) (.e (.var 1)) .yes]), .ife (.bop .Or [.t (.cmp .NotEq (.var 4) (.op .lrg [.blt .len [.var 4]])), .not (.t (.call 10 [.var 3, .blt .len [.var 4]])), .t (.cmp .Eq (.var 5) (.cmp .Eq (.ix (.var 3) (.c (.int 0))) (.c (.str "mouth"))))]) [.rse "NoNet" [.c (.str "ins"), .var 2]] []]]
def nf11 : FD := ⟨2, 7, nb11⟩
/-- Net.__init__(self, works, wires): 0 self, 1 works, 2 wires, 3 at, 4 wire, 5 work, 6 name -/
def nbN : List S := [.expr (.call 8 [.var 1]), .expr (.call 9 [.var 1, .var 2]), .expr (.call 11 [.var 1, .var 2]), .setA (.var 0) "held_works" (.var 1), .setA (.var 0) "held_wires" (.var 2), .setA (.var 0) "by_name" (.dc (.ix (.var 5) (.c (.int 1))) (.var 5) (.nm 5) (.e (.var 1))), .lkf 0 "by_name", .setA (.var 0) "into" (.dc (.var 6) (.pr (.lst [])) (.nm 6) (.e (.op (.at "by_name") [.var 0]))), .setA (.var 0) "from_there" (.dc (.var 6) (.pr (.lst [])) (.nm 6) (.e (.op (.at "by_name") [.var 0]))), .for (.tp [.nm 3, .nm 4]) (.en (.var 2)) [.expr (.mth .append (.ix (.op (.at "into") [.var 0]) (.ix (.var 4) (.c (.int 1)))) [.tup [.ix (.var 4) (.c (.int 2)), .var 3]]), .expr (.mth .append (.ix (.op (.at "from_there") [.var 0]) (.ix (.var 4) (.c (.int 0)))) [.var 3])]]
def nfN : FD := ⟨3, 7, nbN⟩
/-- a text that holds the defs of nets -/
structure NetP (P : Pg) where
  g0 : P.gv 0 = some (.ty "int")
  g1 : P.gv 1 = some (.ty "bool")
  g2 : P.gv 2 = some (.int 1000000000)
  g3 : P.gv 3 = some (.tup [.str "less", .str "over", .str "rest", .str "below"])
  g4 : P.gv 4 = some (.tup [.str "plus", .str "times", .str "least", .str "most", .str "same", .str "less", .str "over", .str "rest", .str "below"])
  g5 : P.gv 5 = some (.int 6)
  g6 : P.gv 6 = some (.ty "str")
  g7 : P.gv 7 = some (.int 8)
  g8 : P.gv 8 = some (.str "abcdefghijklmnopqrstuvwxyz")
  g9 : P.gv 9 = some (.int 20)
  g10 : P.gv 10 = some (.ty "tuple")
  g11 : P.gv 11 = some (.tup [.str "spring", .str "pick", .str "mouth"])
  g12 : P.gv 12 = some (.int 7)
  g13 : P.gv 13 = some (.int 8)
  g14 : P.gv 14 = some (.int 9)
  g15 : P.gv 15 = some (.int 40)
  g16 : P.gv 16 = some (.int 100)
  d0 : P.ds[0]? = some nf0
  d1 : P.ds[1]? = some nf1
  d2 : P.ds[2]? = some nf2
  d3 : P.ds[3]? = some nf3
  d4 : P.ds[4]? = some nf4
  d5 : P.ds[5]? = some nf5
  d6 : P.ds[6]? = some nf6
  d7 : P.ds[7]? = some nf7
  d8 : P.ds[8]? = some nf8
  d9 : P.ds[9]? = some nf9
  d10 : P.ds[10]? = some nf10
  d11 : P.ds[11]? = some nf11
  xs : P.cs.xs "NoNet" = some (["part", "at"] : List Str)
/-- the defs' context -/
abbrev Γn (P : Pg) (k : Nat) : VY.Ctx := ⟨callK P (k + 2), callK P (k + 1), P.gv, P.ix, P.wd, P.cs⟩
mutual
def fineT : T → Bool
  | .non => true | .bl _ => true | .int _ => true
  | .str s => decide (s.length ≤ 1000) && PyData.strOk s
  | .tup l => decide (l.length ≤ 1000) && fineTs l
  | .lst l => decide (l.length ≤ 1000) && fineTs l
  | _ => false
def fineTs : List T → Bool
  | [] => true
  | t :: l => fineT t && fineTs l
end
mutual
def depT : T → Nat
  | .tup l => 1 + depTs l
  | .lst l => 1 + depTs l
  | _ => 0
def depTs : List T → Nat
  | [] => 0
  | t :: l => max (depT t) (depTs l)
end
mutual
theorem fine_toD : ∀ {t : T}, fineT t = true → ∃ d, toD t = some d ∧ PyData.canLay0 d = true ∧ PyData.depth d ≤ depT t
  | .non, _ => ⟨_, by rw [toD], by simp [PyData.canLay0], by simp [PyData.depth]⟩
  | .bl _, _ => ⟨_, by rw [toD], by simp [PyData.canLay0], by simp [PyData.depth]⟩
  | .int _, _ => ⟨_, by rw [toD], by simp [PyData.canLay0], by simp [PyData.depth]⟩
  | .str s, e => ⟨_, by rw [toD], by simp [fineT] at e; simp [PyData.canLay0, e.2], by simp [PyData.depth]⟩
  | .tup l, e => by
    simp only [fineT, Bool.and_eq_true] at e
    obtain ⟨ds, e1, e2, e3⟩ := fine_toDs e.2
    exact ⟨_, by rw [toD, e1]; rfl, by simp [PyData.canLay0, e2], by simp only [PyData.depth, depT]; omega⟩
  | .lst l, e => by
    simp only [fineT, Bool.and_eq_true] at e
    obtain ⟨ds, e1, e2, e3⟩ := fine_toDs e.2
    exact ⟨_, by rw [toD, e1]; rfl, by simp [PyData.canLay0, e2], by simp only [PyData.depth, depT]; omega⟩
  | .ty _, e => by simp [fineT] at e
  | .gl _, e => by simp [fineT] at e
  | .ref _, e => by simp [fineT] at e
  | .slst _, e => by simp [fineT] at e
  | .dct _, e => by simp [fineT] at e
  | .ins _ _, e => by simp [fineT] at e
  | .kst _, e => by simp [fineT] at e
  | .tst _, e => by simp [fineT] at e
theorem fine_toDs : ∀ {l : List T}, fineTs l = true → ∃ ds, toDs l = some ds ∧ PyData.canLayAll0 ds = true ∧ PyData.depthAll ds ≤ depTs l
  | [], _ => ⟨[], by rw [toDs], by simp [PyData.canLayAll0], by simp [PyData.depthAll]⟩
  | t :: l, e => by
    simp only [fineTs, Bool.and_eq_true] at e
    obtain ⟨d, a1, a2, a3⟩ := fine_toD e.1
    obtain ⟨ds, b1, b2, b3⟩ := fine_toDs e.2
    exact ⟨d :: ds, by rw [toDs, a1, b1], by simp [PyData.canLayAll0, a2, b2], by simp only [PyData.depthAll, depTs]; omega⟩
end
theorem fine_shp {t : T} (e : fineT t = true) (l : depT t ≤ 64) : ∃ d, toD t = some d ∧ SeqAt.shaped d = true := by
  obtain ⟨d, a, b, c⟩ := fine_toD e
  exact ⟨d, a, by simp [SeqAt.shaped, b]; omega⟩
theorem fine_mem : ∀ {l : List T}, fineTs l = true → ∀ t ∈ l, fineT t = true
  | a :: l, e, t, m => by
    simp only [fineTs, Bool.and_eq_true] at e
    rcases List.mem_cons.mp m with rfl | m
    · exact e.1
    · exact fine_mem e.2 t m
theorem dep_mem : ∀ {l : List T}, ∀ t ∈ l, depT t ≤ depTs l
  | a :: l, t, m => by
    simp only [depTs]
    rcases List.mem_cons.mp m with rfl | m
    · omega
    · have := dep_mem t m; omega
/-- is it this text? -/
def isS (s : Str) : T → Bool
  | .str x => decide (x = s)
  | _ => false
theorem eqT_str {t : T} {s : Str} (e : fineT t = true) (l : depT t ≤ 64) (hs : PyData.strOk s = true) : eqT t (.str s) = some (isS s t) := by
  obtain ⟨d, a, b⟩ := fine_shp e l
  have e2 : toD (.str s) = some (.str s) := by rw [toD]
  have e3 : SeqAt.shaped (.str s) = true := by simp [SeqAt.shaped, PyData.canLay0, hs, PyData.depth]
  unfold eqT
  rw [a, e2]
  simp only [b, e3, Bool.and_self, if_true]
  congr 1
  cases t <;> simp [fineT] at e
  case tup l => simp [toD] at a; obtain ⟨ds, _, rfl⟩ := a; simp [isS, PyData.eqv]
  case lst l => simp [toD] at a; obtain ⟨ds, _, rfl⟩ := a; simp [isS, PyData.eqv]
  case str x => simp [toD] at a; subst a; simp only [isS, PyData.eqv]; rw [Bool.eq_iff_iff]; simp
  all_goals (simp [toD] at a; subst a; simp [isS, PyData.eqv])
theorem all_bls (bs : List Bool) : bltR .all [.lst (bs.map .bl)] = some (.v (.bl (bs.all id))) := by simp [bltR, blsOf_map]
theorem any_bls (bs : List Bool) : bltR .any [.lst (bs.map .bl)] = some (.v (.bl (bs.any id))) := by simp [bltR, blsOf_map]
def isStrB : T → Bool | .str _ => true | _ => false
def isTupB : T → Bool | .tup _ => true | _ => false
theorem isi_str {t : T} (e : fineT t = true) : bltR .isinstance [t, .ty "str"] = some (.v (.bl (isStrB t))) := by
  cases t <;> simp [fineT] at e <;> simp [bltR, tyN, isiS, isStrB]
theorem isi_tup {t : T} (e : fineT t = true) : bltR .isinstance [t, .ty "tuple"] = some (.v (.bl (isTupB t))) := by
  cases t <;> simp [fineT] at e <;> simp [bltR, tyN, isiS, isTupB]
theorem seen_fine {t : T} (h : Hs) (e : fineT t = true) : seen h t = t := by
  cases t <;> simp [fineT] at e <;> rfl
def wholeB : T → Bool | .int _ => true | _ => false
def letterB : T → Bool
  | .non => true
  | .int i => decide (-1000000000 ≤ i) && decide (i ≤ 1000000000)
  | _ => false
def withinB (lo hi : Int) : T → Bool
  | .int i => decide (lo ≤ i) && decide (i ≤ hi)
  | _ => false
def roomB (many : Nat) : T → Bool
  | .non => true
  | t => withinB (if 1 < (many : Int) then many else 1) 20 t
abbrev azS : Str := "abcdefghijklmnopqrstuvwxyz"
def nameS (s : Str) : Bool := decide (1 ≤ s.length) && decide (s.length ≤ 8) && s.cps.toList.all fun c => decide (c ∈ azS.cps.toList)
def nameB : T → Bool
  | .str s => nameS s
  | _ => false
section
variable {P : Pg} (n : NetP P) (k : Nat) (h : Hs)
include n
theorem w_whole {t : T} (e : fineT t = true) : callK P (k + 3) 0 [t] h = .ok (.v (.bl (wholeB t))) h := by
  rw [callK_eq n.d0, runD_eq _ _ _ rfl]
  cases t <;> simp [fineT] at e <;> simp [nf0, nb0, startT, n.g0, n.g1, bltR, tyN, isiS, wholeB]
theorem w_letter {t : T} (e : fineT t = true) : callK P (k + 4) 1 [t] h = .ok (.v (.bl (letterB t))) h := by
  rw [callK_eq (k := k + 1) n.d1, runD_eq _ _ _ rfl]
  have w := w_whole n k h e
  cases t <;> simp [fineT] at e <;> try (simp [nf1, nb1, startT, n.g2, w, wholeB, letterB]; done)
  rename_i i
  by_cases c : (-1000000000 : Int) ≤ i <;> simp [nf1, nb1, startT, n.g2, w, wholeB, letterB, c]
theorem w_within {t : T} (lo hi : Int) (e : fineT t = true) : callK P (k + 4) 4 [t, .int lo, .int hi] h = .ok (.v (.bl (withinB lo hi t))) h := by
  rw [callK_eq (k := k + 1) n.d4, runD_eq _ _ _ rfl]
  have w := w_whole n k h e
  cases t <;> simp [fineT] at e <;> try (simp [nf4, nb4, startT, w, wholeB, withinB]; done)
  rename_i i
  by_cases c : lo ≤ i <;> simp [nf4, nb4, startT, w, wholeB, withinB, c]
theorem w_room {t : T} (m : Nat) (e : fineT t = true) : callK P (k + 5) 5 [t, .int m] h = .ok (.v (.bl (roomB m t))) h := by
  rw [callK_eq (k := k + 2) n.d5, runD_eq _ _ _ rfl]
  have w := w_within n k h (if 1 < (m : Int) then m else 1) 20 e
  cases t <;> simp [fineT] at e <;> simp [nf5, nb5, startT, n.g9, roomB, w]
theorem lcL_bls {f : T → Hs → Out (Option T)} {h : Hs} (p : T → Bool) (xs : List T) (hf : ∀ x ∈ xs, f x h = .ok (some (.bl (p x))) h) (hl : xs.length ≤ SL) : lcL f none xs [] h = .ok ((xs.map p).map .bl) h := by
  rw [lcL_map (fun x => .bl (p x)) rfl xs [] hf (by simpa using hl), List.nil_append, List.map_map]
  rfl
theorem w_name {t : T} (e : fineT t = true) : callK P (k + 3) 3 [t] h = .ok (.v (.bl (nameB t))) h := by
  rw [callK_eq n.d3, runD_eq _ _ _ rfl]
  have i1 := isi_str e
  cases t <;> simp [fineT] at e <;> try (simp [nf3, nb3, startT, n.g6, i1, isStrB, nameB]; done)
  rename_i s
  have len : bltR .len [.str s] = some (.v (.int s.length)) := by simp only [bltR, lenT]; rw [if_pos (by show _ ≤ 16777216; omega)]; rfl
  by_cases c1 : 1 ≤ s.length
  · by_cases c2 : s.length ≤ 8
    · have c1' : (1 : Int) ≤ s.length := by omega
      have c2' : (s.length : Int) ≤ 8 := by omega
      have lc := lcL_bls (P := P) n (f := lcT (Γn P k) (.cmp .In (.var 1) (.gl 8)) (.nm 1) .yes [some (.v (.str s)), none]) (h := h) (fun x => match x with | .str y => (match y.cps.toList with | [c] => decide (c ∈ azS.cps.toList) | _ => false) | _ => false) (s.cps.toList.map fun c => .str ⟨#[c]⟩) (fun x hx => by
        obtain ⟨c, _, rfl⟩ := List.mem_map.mp hx
        simp [lcT, n.g8, inT, Tg.ixs, wipeT]; rfl) (by simp; show s.length ≤ 16777216; omega)
      simp [nf3, nb3, startT, n.g6, n.g7, i1, isStrB, nameB, len, c1', c2', -List.map_map, lc, all_bls, nameS, c1, c2]
      done
    · have c1' : (1 : Int) ≤ s.length := by omega
      have c2' : ¬ (s.length : Int) ≤ 8 := by omega
      simp [nf3, nb3, startT, n.g6, n.g7, i1, isStrB, nameB, len, c1', c2', nameS, c1, c2]
  · have c1' : ¬ (1 : Int) ≤ s.length := by omega
    simp [nf3, nb3, startT, n.g6, n.g7, i1, isStrB, nameB, len, c1', nameS, c1]
end
theorem flat_strs : ∀ l : List Str, (l.map T.str).mapM inT.flatOf = some (l.map V.str)
  | [] => rfl
  | x :: l => by rw [List.map_cons, List.mapM_cons, flat_strs l]; rfl
theorem flat_ints : ∀ l : List Int, (l.map T.int).mapM inT.flatOf = some (l.map V.int)
  | [] => rfl
  | x :: l => by rw [List.map_cons, List.mapM_cons, flat_ints l]; rfl
theorem all_flatS (l : List Str) : (l.map V.str).all flatV = true := by rw [List.all_map]; exact List.all_eq_true.mpr fun _ _ => rfl
theorem all_flatI (l : List Int) : (l.map V.int).all flatV = true := by rw [List.all_map]; exact List.all_eq_true.mpr fun _ _ => rfl
def oneOf (s : Str) (l : List Str) : Bool := l.any fun x => decide (x = s)
theorem inS (s : Str) (l : List Str) : inT (.str s) (.tup (l.map .str)) = some (oneOf s l) := by
  show inT.flatIn (.str s) (l.map .str) = _
  unfold inT.flatIn
  rw [flat_strs]
  show (if flatV (V.str s) && (l.map V.str).all flatV then some (inV (V.str s) (l.map V.str)) else none) = _
  rw [all_flatS, if_pos (by rfl)]
  unfold inV oneOf
  rw [List.any_map]
  congr 2
theorem inI (s : Int) (l : List Int) : inT (.int s) (.tup (l.map .int)) = some (l.any fun x => decide (x = s)) := by
  show inT.flatIn (.int s) (l.map .int) = _
  unfold inT.flatIn
  rw [flat_ints]
  show (if flatV (V.int s) && (l.map V.int).all flatV then some (inV (V.int s) (l.map V.int)) else none) = _
  rw [all_flatI, if_pos (by rfl)]
  unfold inV
  rw [List.any_map]
  congr 2
theorem in23 (m : Int) : inT (.int m) (.tup [.int 2, .int 3]) = some (decide (m = 2) || decide (m = 3)) := by
  rw [show ([.int 2, .int 3] : List T) = [2, 3].map .int from rfl, inI]
  congr 1
  rw [Bool.eq_iff_iff]
  simp
  omega
abbrev plainL : List Str := ["spring", "pick", "mouth"]
abbrev wordsL : List Str := ["plus", "times", "least", "most", "same", "less", "over", "rest", "below"]
abbrev pairsL : List Str := ["less", "over", "rest", "below"]
theorem in_plain (s : Str) : inT (.str s) (.tup [.str "spring", .str "pick", .str "mouth"]) = some (oneOf s plainL) := inS s plainL
theorem in_words (s : Str) : inT (.str s) (.tup [.str "plus", .str "times", .str "least", .str "most", .str "same", .str "less", .str "over", .str "rest", .str "below"]) = some (oneOf s wordsL) := inS s wordsL
theorem in_pairs (s : Str) : inT (.str s) (.tup [.str "less", .str "over", .str "rest", .str "below"]) = some (oneOf s pairsL) := inS s pairsL
def workB : T → Bool
  | .tup [.str k, .str x] => nameS x && oneOf k plainL
  | .tup [.str k, .str x, .str w] => nameS x && (decide (k = "fold") && oneOf w wordsL)
  | _ => false
@[simp] theorem at0 {α : Type} (a : α) (l : List α) : L2.atI (a :: l) 0 = some a := by rw [show (0 : Int) = ((0 : Nat) : Int) from rfl, atI_nat (by simp)]; rfl
@[simp] theorem at1 {α : Type} (a b : α) (l : List α) : L2.atI (a :: b :: l) 1 = some b := by rw [show (1 : Int) = ((1 : Nat) : Int) from rfl, atI_nat (by simp)]; rfl
@[simp] theorem at2 {α : Type} (a b c : α) (l : List α) : L2.atI (a :: b :: c :: l) 2 = some c := by rw [show (2 : Int) = ((2 : Nat) : Int) from rfl, atI_nat (by simp)]; rfl
theorem strB {t : T} (e : isStrB t = true) : ∃ s, t = .str s := by cases t <;> first | exact ⟨_, rfl⟩ | exact ff e
theorem tupB {t : T} (e : isTupB t = true) : ∃ s, t = .tup s := by cases t <;> first | exact ⟨_, rfl⟩ | exact ff e
theorem isS_eq {t : T} {s : Str} (e : isS s t = true) : t = .str s := by cases t <;> first | exact congrArg T.str (of_decide_eq_true e) | exact ff e
theorem workB_2 {a b : T} (e : isStrB a = false) : workB (.tup [a, b]) = false := by cases a <;> first | (cases e; done) | rfl
theorem workB_3 {a b c : T} (e : isS "fold" a = false) : workB (.tup [a, b, c]) = false := by
  cases a <;> try rfl
  cases b <;> try rfl
  cases c <;> try rfl
  simp only [isS] at e
  simp [workB, e]
theorem workB_3c {a b c : T} (e : isStrB c = false) : workB (.tup [a, b, c]) = false := by
  cases c <;> first | (cases e; done) | (cases a <;> first | rfl | (cases b <;> rfl))
theorem wfold_ok : PyData.strOk "fold" = true := by decide +kernel
section
variable {P : Pg} (n : NetP P) (k : Nat) (h : Hs)
include n
theorem w_work {t : T} (e : fineT t = true) (dp : depT t ≤ 60) : callK P (k + 4) 6 [t] h = .ok (.v (.bl (workB t))) h := by
  rw [callK_eq (k := k + 1) n.d6, runD_eq _ _ _ rfl]
  have i1 := isi_tup e
  cases t
  case tup l =>
    simp only [fineT, Bool.and_eq_true, decide_eq_true_eq] at e
    simp only [depT] at dp
    have nm : ∀ (a b : T) (r : List T), l = a :: b :: r → callK P (k + 3) 3 [b] h = .ok (.v (.bl (nameB b))) h := fun a b r z => w_name n k h (fine_mem e.2 b (by rw [z]; simp))
    match l, nm with
    | [], _ => simp [nf6, nb6, startT, n.g10, i1, isTupB, in23, workB, SL]
    | [a], _ => simp [nf6, nb6, startT, n.g10, i1, isTupB, in23, workB, SL]
    | [a, b], nm =>
      have w := nm a b [] rfl
      have ea := fine_mem e.2 a (by simp)
      have sa := seen_fine h ea
      have j := isi_str ea
      cases c : nameB b
      · have z : workB (.tup [a, b]) = false := by
          cases hb : isStrB b
          · cases b <;> first | (cases hb; done) | (cases a <;> rfl)
          · obtain ⟨b, rfl⟩ := strB hb
            cases a <;> first | rfl | (simp only [nameB] at c; simp [workB, c])
        simp [nf6, nb6, startT, n.g10, i1, isTupB, in23, w, SL, c, z]
      · cases hb : isStrB a
        · simp [nf6, nb6, startT, n.g10, n.g11, n.g6, i1, isTupB, in23, w, SL, c, j, sa, hb, workB_2 hb]
        · obtain ⟨a, rfl⟩ := strB hb
          have hx : isStrB b = true := by cases b <;> first | rfl | (cases c; done)
          obtain ⟨b, rfl⟩ := strB hx
          simp only [nameB] at c w
          rw [c] at w
          simp [nf6, nb6, startT, n.g10, n.g11, n.g6, i1, isTupB, in23, w, SL, workB, c, j, isStrB, in_plain]
    | [a, b, c], nm =>
      have w := nm a b [c] rfl
      have ea := fine_mem e.2 a (by simp)
      have sa := seen_fine h ea
      have ec := fine_mem e.2 c (by simp)
      have sc := seen_fine h ec
      have q := eqT_str (s := "fold") ea (by have := dep_mem a (l := [a, b, c]) (by simp); omega) wfold_ok
      have j := isi_str ec
      cases z : nameB b
      · have y : workB (.tup [a, b, c]) = false := by
          cases hb : isStrB b
          · cases b <;> first | (cases hb; done) | (cases a <;> rfl)
          · obtain ⟨b, rfl⟩ := strB hb
            simp only [nameB] at z
            cases hc : isStrB c
            · exact workB_3c hc
            · obtain ⟨c, rfl⟩ := strB hc
              cases a <;> first | rfl | (simp [workB, z])
        simp [nf6, nb6, startT, n.g10, i1, isTupB, in23, w, SL, z, y]
      · cases hb : isS "fold" a
        · rw [hb] at q
          simp [nf6, nb6, startT, n.g10, n.g4, n.g6, i1, isTupB, in23, w, SL, z, j, sa, q, workB_3 hb]
        · rw [hb] at q
          cases hc : isStrB c
          · simp [nf6, nb6, startT, n.g10, n.g4, n.g6, i1, isTupB, in23, w, SL, z, j, sa, sc, q, hc, workB_3c hc]
          · obtain ⟨c, rfl⟩ := strB hc
            cases isS_eq hb
            have hx : isStrB b = true := by cases b <;> first | rfl | (cases z; done)
            obtain ⟨b, rfl⟩ := strB hx
            simp only [nameB] at z w
            rw [z] at w
            simp [nf6, nb6, startT, n.g10, n.g4, n.g6, i1, isTupB, in23, w, SL, z, j, q, isStrB, in_words, workB]
    | a :: b :: c :: d :: r, _ =>
      have z1 : ¬ ((r.length : Int) + 1 + 1 + 1 + 1 = 2) := by omega
      have z2 : ¬ ((r.length : Int) + 1 + 1 + 1 + 1 = 3) := by omega
      simp [nf6, nb6, startT, n.g10, i1, isTupB, in23, workB, SL, z1, z2]
  all_goals first | (simp [fineT] at e; done) | (simp [nf6, nb6, startT, n.g10, i1, isTupB, workB]; done)
theorem w_notin (s : Str) (l : List Str) (hs : PyData.strOk s = true) (hl : ∀ x ∈ l, PyData.strOk x = true) : inT (.str s) (.lst (l.map .str)) = some (oneOf s l) := by
  show (match toD (.str s), toDs (l.map .str) with | some d, some ds => if SeqAt.shaped d && SeqAt.shaped (.list ds) then some (ds.any fun z => PyData.eqv z d) else none | _, _ => none) = _
  have e1 : ∀ l : List Str, toDs (l.map .str) = some (l.map PyData.str) := fun l => by
    induction l with
    | nil => simp [toDs]
    | cons x l ih => rw [List.map_cons, toDs, ih]; simp [toD]
  have e2 : ∀ l : List Str, (∀ x ∈ l, PyData.strOk x = true) → PyData.canLayAll0 (l.map PyData.str) = true ∧ PyData.depthAll (l.map PyData.str) = 0 := fun l => by
    induction l with
    | nil => intro _; simp [PyData.canLayAll0, PyData.depthAll]
    | cons x l ih =>
      intro hx
      obtain ⟨a, b⟩ := ih fun y hy => hx y (by simp [hy])
      simp [PyData.canLayAll0, PyData.depthAll, PyData.canLay0, PyData.depth, a, b, hx x (by simp)]
  obtain ⟨e3, e4⟩ := e2 l hl
  rw [e1, show toD (.str s) = some (.str s) by rw [toD]]
  have e5 : (SeqAt.shaped (.str s) && SeqAt.shaped (.list (l.map PyData.str))) = true := by simp [SeqAt.shaped, PyData.canLay0, PyData.depth, hs, e3, e4]
  show (if (SeqAt.shaped (.str s) && SeqAt.shaped (.list (l.map PyData.str))) = true then some ((l.map PyData.str).any fun z => PyData.eqv z (.str s)) else none) = _
  rw [if_pos e5, List.any_map]
  unfold oneOf
  congr 2
end
def wireB (names : List Str) : T → Bool
  | .tup [.str s, .str g, a, .tup fi, far, room] => oneOf s names && (oneOf g names && (withinB 0 6 a && (decide (fi.length ≤ 8) && (fi.all letterB && (withinB 1 9 far && roomB fi.length room)))))
  | _ => false
section
variable {P : Pg} (n : NetP P) (k : Nat) (h : Hs)
include n
theorem w_wire {t : T} {names : List Str} (e : fineT t = true) (hn : ∀ x ∈ names, PyData.strOk x = true) : callK P (k + 6) 7 [t, .lst (names.map .str)] h = .ok (.v (.bl (wireB names t))) h := by
  rw [callK_eq (k := k + 3) n.d7, runD_eq _ _ _ rfl]
  have i1 := isi_tup e
  cases ht : isTupB t
  · have z : wireB names t = false := by cases t <;> first | rfl | (cases ht; done)
    simp [nf7, nb7, startT, n.g10, i1, ht, z, seen_fine h e]
  obtain ⟨l, rfl⟩ := tupB ht
  simp only [fineT, Bool.and_eq_true, decide_eq_true_eq] at e
  by_cases h6 : l.length = 6
  case neg =>
    have z : wireB names (.tup l) = false := by
      unfold wireB
      split
      · rename_i heq; cases heq; exact absurd rfl h6
      · rfl
    have h6' : ¬ ((l.length : Int) = 6) := by omega
    simp [nf7, nb7, startT, n.g10, i1, ht, z, h6']
  obtain ⟨s, g, a, fi, far, room, rfl⟩ : ∃ s g a fi far room, l = [s, g, a, fi, far, room] := by
    match l, h6 with
    | [s, g, a, fi, far, room], _ => exact ⟨s, g, a, fi, far, room, rfl⟩
  have es := fine_mem e.2 s (by simp)
  have eg := fine_mem e.2 g (by simp)
  have ea := fine_mem e.2 a (by simp)
  have ef := fine_mem e.2 fi (by simp)
  have er := fine_mem e.2 far (by simp)
  have eo := fine_mem e.2 room (by simp)
  have is := isi_str es
  have ig := isi_str eg
  have jf := isi_tup ef
  cases hs : isStrB s
  · have z : wireB names (.tup [s, g, a, fi, far, room]) = false := by cases s <;> first | rfl | (cases hs; done)
    simp [nf7, nb7, startT, n.g10, n.g6, i1, ht, z, seen_fine h es, is, hs]
  obtain ⟨s, rfl⟩ := strB hs
  cases hg : isStrB g
  · have z : wireB names (.tup [.str s, g, a, fi, far, room]) = false := by cases g <;> first | rfl | (cases hg; done)
    simp [nf7, nb7, startT, n.g10, n.g6, i1, ht, z, seen_fine h eg, is, ig, hs, hg]
  obtain ⟨g, rfl⟩ := strB hg
  simp only [fineT, Bool.and_eq_true, decide_eq_true_eq] at es eg
  have ns := w_notin n s names es.2 hn
  have ng := w_notin n g names eg.2 hn
  cases c1 : oneOf s names
  · have z : wireB names (.tup [.str s, .str g, a, fi, far, room]) = false := by cases fi <;> first | rfl | (simp [wireB, c1])
    simp [nf7, nb7, startT, n.g10, n.g6, i1, ht, is, ig, hs, hg, ns, ng, z, c1]
  cases c2 : oneOf g names
  · have z : wireB names (.tup [.str s, .str g, a, fi, far, room]) = false := by cases fi <;> first | rfl | (simp [wireB, c2])
    simp [nf7, nb7, startT, n.g10, n.g6, i1, ht, is, ig, hs, hg, ns, ng, z, c1, c2]
  have wa := w_within n (k + 1) h 0 6 ea
  cases c3 : withinB 0 6 a
  · have z : wireB names (.tup [.str s, .str g, a, fi, far, room]) = false := by cases fi <;> first | rfl | (simp [wireB, c3])
    simp [nf7, nb7, startT, n.g10, n.g6, n.g12, i1, ht, is, ig, hs, hg, ns, ng, c1, c2, wa, c3, z]
  cases hf : isTupB fi
  · have z : wireB names (.tup [.str s, .str g, a, fi, far, room]) = false := by cases fi <;> first | rfl | (cases hf; done)
    simp [nf7, nb7, startT, n.g10, n.g6, n.g12, i1, ht, is, ig, hs, hg, ns, ng, c1, c2, wa, c3, seen_fine h ef, jf, hf, z]
  obtain ⟨fi, rfl⟩ := tupB hf
  simp only [fineT, Bool.and_eq_true, decide_eq_true_eq] at ef
  by_cases c4 : fi.length ≤ 8
  case neg =>
    have c4' : (8 : Int) < fi.length := by omega
    simp [nf7, nb7, startT, n.g10, n.g6, n.g12, n.g13, i1, ht, is, ig, hs, hg, ns, ng, c1, c2, wa, c3, jf, hf, c4', wireB, c4]
  have c4' : ¬ (8 : Int) < fi.length := by omega
  have lc := lcL_bls (P := P) n (f := lcT (Γn P (k + 3)) (.call 1 [.var 8]) (.nm 8) .yes [some (.v (.tup [.str s, .str g, a, .tup fi, far, room])), some (.v (.lst (names.map .str))), some (.v (.str s)), some (.v (.str g)), some (.v a), some (.v (.tup fi)), some (.v far), some (.v room), none]) (h := h) letterB fi (fun x hx => by
    have w := w_letter n (k + 1) h (fine_mem ef.2 x hx)
    simp [lcT, Tg.ixs, wipeT, w]
    rfl) (by show _ ≤ 16777216; omega)
  cases c5 : fi.all letterB
  · simp [nf7, nb7, startT, n.g10, n.g6, n.g12, n.g13, i1, ht, is, ig, hs, hg, ns, ng, c1, c2, wa, c3, jf, hf, c4', wireB, c4, -List.map_map, lc, all_bls, c5]
  have wf := w_within n (k + 1) h 1 9 er
  cases c6 : withinB 1 9 far
  · simp [nf7, nb7, startT, n.g10, n.g6, n.g12, n.g13, n.g14, i1, ht, is, ig, hs, hg, ns, ng, c1, c2, wa, c3, jf, hf, c4', wireB, c4, -List.map_map, lc, all_bls, c5, wf, c6]
  have wr := w_room n k h fi.length eo
  simp [nf7, nb7, startT, n.g10, n.g6, n.g12, n.g13, n.g14, i1, ht, is, ig, hs, hg, ns, ng, c1, c2, wa, c3, jf, hf, c4', wireB, c4, -List.map_map, lc, all_bls, c5, wf, c6, wr]
end
theorem numT_nil : numT [] = [] := rfl
/-- numbered, from a number on -/
def numF : Nat → List T → List T
  | _, [] => []
  | i, x :: l => .tup [.int (i : Nat), x] :: numF (i + 1) l
theorem numT_eq (l : List T) : numT l = numF 0 l := by
  have : ∀ (l : List T) (i : Nat), ((l.zipIdx i).map fun p => T.tup [.int (p.2 : Nat), p.1]) = numF i l := fun l => by
    induction l with
    | nil => intro i; rfl
    | cons x l ih => intro i; rw [List.zipIdx_cons, List.map_cons, ih]; rfl
  exact this l 0
abbrev noNet (part : Str) (at_ : Int) : Xn := .own "NoNet" [("at", .int at_), ("part", .str part)]
/-- the name of a work -/
def nameOf : T → Str
  | .tup (_ :: .str x :: _) => x
  | _ => Str.empty
/-- the first work that is none, or of a name told already; the names -/
def worksX : Nat → List Str → List T → Except Int (List Str)
  | _, acc, [] => .ok acc
  | i, acc, t :: l => if workB t && !(oneOf (nameOf t) acc) then worksX (i + 1) (acc ++ [nameOf t]) l else .error i
theorem workB_ix {t : T} (e : workB t = true) : ∃ r s, t = .tup (s :: .str (nameOf t) :: r) := by
  unfold workB at e
  split at e
  · exact ⟨_, _, rfl⟩
  · exact ⟨_, _, rfl⟩
  · cases e
theorem set_same {h : Hs} {m : Nat} {o : HOb} (e : h[m]? = some o) : h.set m o = h := by
  obtain ⟨hm, rfl⟩ := List.getElem?_eq_some_iff.mp e
  exact List.set_getElem_self hm
theorem memK_str (s : Str) (l : List Str) : memK (.inr s) (l.map .inr) = oneOf s l := by
  unfold memK oneOf
  rw [List.any_map]
  congr 1
  funext x
  simp only [Function.comp_def]
  rw [Bool.eq_iff_iff]; simp
section
variable {P : Pg} (n : NetP P) (k : Nat)
include n
/-- a turn of look_works -/
abbrev lwB : List S := [.ife (.bop .Or [.not (.t (.call 6 [.var 3])), .t (.cmp .In (.ix (.var 3) (.c (.int 1))) (.var 1))]) [.rse "NoNet" [.c (.str "works"), .var 2]] [], .expr (.mth .add (.var 1) [.ix (.var 3) (.c (.int 1))])]
theorem works_loop (ws : List T) {m : Nat} : ∀ (l : List T) (i : Nat) (acc : List Str) (a b : Option Sl) (h : Hs), (∀ t ∈ l, fineT t = true ∧ depT t ≤ 60) → acc.length + l.length ≤ 4000 → h[m]? = some (.set (acc.map .inr)) →
    (match worksX i acc l with
      | .ok ns => ∃ a' b', forL (forB (Γn P (k + 2)) (.tp [.nm 2, .nm 3]) lwB) none (numF i l) [some (.v (.tup ws)), some (.v (.ref m)), a, b] h = .ok .nx [some (.v (.tup ws)), some (.v (.ref m)), a', b'] (h.set m (.set (ns.map .inr)))
      | .error j => ∃ σ o, forL (forB (Γn P (k + 2)) (.tp [.nm 2, .nm 3]) lwB) none (numF i l) [some (.v (.tup ws)), some (.v (.ref m)), a, b] h = .ex (noNet "works" j) σ (h.set m o))
  | [], i, acc, a, b, h, _, _, hm => by
    refine ⟨a, b, ?_⟩
    rw [show numF i [] = [] from rfl, forL_nil, set_same hm]
  | t :: l, i, acc, a, b, h, hf, hl, hm => by
    obtain ⟨e1, e2⟩ := hf t (by simp)
    have w := w_work n k h e1 e2
    have rs := fun σ h => evS_rse (Γn P (k + 2)) σ h n.xs
    unfold worksX
    rw [show numF i (t :: l) = .tup [.int (i : Nat), t] :: numF (i + 1) l from rfl, forL_cons]
    cases c : workB t
    · rw [c] at w
      have body : forB (Γn P (k + 2)) (.tp [.nm 2, .nm 3]) lwB (.tup [.int (i : Nat), t]) [some (.v (.tup ws)), some (.v (.ref m)), a, b] h = .ex (noNet "works" i) [some (.v (.tup ws)), some (.v (.ref m)), some (.v (.int i)), some (.v t)] h := by
        simp [forB, w, rs]
      rw [body]
      exact ⟨_, _, by rw [SO.turn_ex, set_same hm]⟩
    · rw [c] at w
      obtain ⟨r, s, et⟩ := workB_ix c
      have ix : ∀ σ, ixL P.wd σ (.v t) (.v (.int 1)) h = .ok (.v (.str (nameOf t))) h := fun σ => by
        conv => lhs; rw [et]
        simp
      have mem := memK_str (nameOf t) acc
      cases c2 : oneOf (nameOf t) acc
      · rw [c2] at mem
        have ad : adL m (some (.set (acc.map .inr))) (.str (nameOf t)) h = .ok (.v .non) (h.set m (.set ((acc ++ [nameOf t]).map .inr))) := by
          rw [adL_set h (k := .inr (nameOf t)) rfl (by simp only [List.length_map, List.length_cons] at hl ⊢; omega), mem]
          simp
        have body : forB (Γn P (k + 2)) (.tp [.nm 2, .nm 3]) lwB (.tup [.int (i : Nat), t]) [some (.v (.tup ws)), some (.v (.ref m)), a, b] h = .ok .nx [some (.v (.tup ws)), some (.v (.ref m)), some (.v (.int i)), some (.v t)] (h.set m (.set ((acc ++ [nameOf t]).map .inr))) := by
          simp [forB, w, rs, ix, hm, inT, mem, ad]
        rw [body, SO.turn_nx]
        have hm' : (h.set m (.set ((acc ++ [nameOf t]).map .inr)))[m]? = some (.set ((acc ++ [nameOf t]).map .inr)) := by
          rw [List.getElem?_set_self (List.getElem?_eq_some_iff.mp hm).1]
        have ih := works_loop ws l (i + 1) (acc ++ [nameOf t]) (some (.v (.int i))) (some (.v t)) _ (fun t m => hf t (by simp [m])) (by simp only [List.length_append, List.length_cons, List.length_nil] at hl ⊢; omega) hm'
        simp only [Bool.not_false, Bool.and_true, if_true]
        simpa only [List.set_set] using ih
      · rw [c2] at mem
        have body : forB (Γn P (k + 2)) (.tp [.nm 2, .nm 3]) lwB (.tup [.int (i : Nat), t]) [some (.v (.tup ws)), some (.v (.ref m)), a, b] h = .ex (noNet "works" i) [some (.v (.tup ws)), some (.v (.ref m)), some (.v (.int i)), some (.v t)] h := by
          simp [forB, w, rs, ix, hm, inT, mem]
        rw [body]
        exact ⟨_, _, by rw [SO.turn_ex, set_same hm]⟩
/-- look_works -/
def lookWorks (ws : List T) : Except Int (List Str) := if 1 ≤ ws.length ∧ ws.length ≤ 40 then worksX 0 [] ws else .error (-1)
theorem w_works {ws : List T} (hf : ∀ t ∈ ws, fineT t = true ∧ depT t ≤ 60) (h : Hs) :
    (match lookWorks ws with
      | .ok _ => ∃ h', callK P (k + 5) 8 [.tup ws] h = .ok (.v .non) h' ∧ Gr h h'
      | .error j => ∃ h', callK P (k + 5) 8 [.tup ws] h = .ex (noNet "works" j) h' ∧ Gr h h') := by
  have rs := fun σ h => evS_rse (Γn P (k + 2)) σ h n.xs
  have i1 : bltR .isinstance [.tup ws, .ty "tuple"] = some (.v (.bl true)) := by simp [bltR, tyN, isiS]
  rw [callK_eq (k := k + 2) n.d8, runD_eq _ _ _ rfl]
  unfold lookWorks
  by_cases c1 : 1 ≤ ws.length
  · by_cases c2 : ws.length ≤ 40
    · have c1' : (1 : Int) ≤ ws.length := by omega
      have c2' : (ws.length : Int) ≤ 40 := by omega
      rw [if_pos ⟨c1, c2⟩]
      have lp := works_loop n k ws (m := h.length) ws 0 [] none none (h ++ [.set []]) hf (by simp; omega) (by simp)
      simp only [List.set_append_right _ _ (Nat.le_refl _), Nat.sub_self, List.set_cons_zero] at lp
      cases e : worksX 0 [] ws with
      | ok ns =>
        rw [e] at lp
        obtain ⟨a', b', lp⟩ := lp
        refine ⟨h ++ [.set (ns.map .inr)], ?_, Gr.push⟩
        simp [nf8, nb8, startT, n.g10, n.g15, i1, c1', c2', numT_eq, lp]
      | error j =>
        rw [e] at lp
        obtain ⟨σ, o, lp⟩ := lp
        refine ⟨h ++ [o], ?_, Gr.push⟩
        simp [nf8, nb8, startT, n.g10, n.g15, i1, c1', c2', numT_eq, lp]
    · have c1' : (1 : Int) ≤ ws.length := by omega
      have c2' : ¬ (ws.length : Int) ≤ 40 := by omega
      rw [if_neg (by omega)]
      exact ⟨h, by simp [nf8, nb8, startT, n.g10, n.g15, i1, c1', c2', rs], Gr.refl⟩
  · have c1' : ¬ (1 : Int) ≤ ws.length := by omega
    rw [if_neg (by omega)]
    exact ⟨h, by simp [nf8, nb8, startT, n.g10, n.g15, i1, c1', rs], Gr.refl⟩
end
end VY
namespace VY
open PySem L2
theorem worksX_ok : ∀ {l : List T} {i : Nat} {acc ns : List Str}, worksX i acc l = .ok ns → ns = acc ++ l.map nameOf ∧ (∀ t ∈ l, workB t = true) ∧ (acc.Nodup → ns.Nodup)
  | [], i, acc, ns, e => by
    cases e
    exact ⟨by simp, fun _ m => (List.not_mem_nil m).elim, id⟩
  | t :: l, i, acc, ns, e => by
    unfold worksX at e
    split at e
    · rename_i c
      rw [Bool.and_eq_true] at c
      obtain ⟨a, b, d⟩ := worksX_ok e
      refine ⟨by rw [a]; simp, fun u m => ?_, fun z => d ?_⟩
      · rcases List.mem_cons.mp m with rfl | m
        · exact c.1
        · exact b u m
      · rw [List.nodup_append]
        refine ⟨z, by simp, fun x hx y hy => ?_⟩
        rw [List.mem_singleton] at hy
        subst hy
        intro he
        subst he
        have : oneOf (nameOf t) acc = true := List.any_eq_true.mpr ⟨_, hx, decide_eq_true rfl⟩
        rw [this] at c
        cases c.2
    · cases e
theorem name_ok {t : T} (e : workB t = true) (f : fineT t = true) : PyData.strOk (nameOf t) = true ∧ (nameOf t).length ≤ 1000 := by
  obtain ⟨r, s, et⟩ := workB_ix e
  rw [et] at f
  simp only [fineT, Bool.and_eq_true] at f
  have z := fine_mem f.2 (.str (nameOf t)) (by simp)
  simp only [fineT, Bool.and_eq_true, decide_eq_true_eq] at z
  exact ⟨z.2, z.1⟩
def endOf : T → Str × Int
  | .tup (_ :: .str g :: .int a :: _) => (g, a)
  | _ => (Str.empty, 0)
abbrev endK (p : Str × Int) : List L2.Key := [.inr p.1, .inl p.2]
def oneE (p : Str × Int) (l : List (Str × Int)) : Bool := l.any fun x => decide (x = p)
theorem memK_end (p : Str × Int) (l : List (Str × Int)) : memKs (endK p) (l.map endK) = oneE p l := by
  unfold memKs oneE
  rw [List.any_map]
  congr 1
  funext x
  simp only [Function.comp_def]
  rw [Bool.eq_iff_iff]
  simp
  exact ⟨fun ⟨a, b⟩ => Prod.ext a b, fun e => by rw [e]; exact ⟨rfl, rfl⟩⟩
theorem wireB_shape {names : List Str} {t : T} (e : wireB names t = true) : ∃ s fi far room, t = .tup [.str s, .str (endOf t).1, .int (endOf t).2, .tup fi, far, room] ∧ oneOf s names = true ∧ oneOf (endOf t).1 names = true := by
  unfold wireB at e
  split at e
  · rename_i s g a fi far room
    simp only [Bool.and_eq_true] at e
    obtain ⟨e1, e2, e3, -⟩ := e
    cases a <;> first | (cases e3; done) | exact ⟨s, fi, far, room, rfl, e1, e2⟩
  · cases e
/-- the first wire that is none, or ends where one does -/
def wiresX (names : List Str) : Nat → List (Str × Int) → List T → Except Int (List (Str × Int))
  | _, acc, [] => .ok acc
  | i, acc, t :: l => if wireB names t && !(oneE (endOf t) acc) then wiresX names (i + 1) (acc ++ [endOf t]) l else .error i
theorem wiresX_ok {names : List Str} : ∀ {l : List T} {i : Nat} {acc ns : List (Str × Int)}, wiresX names i acc l = .ok ns → (∀ t ∈ l, wireB names t = true)
  | [], i, acc, ns, e => fun _ m => (List.not_mem_nil m).elim
  | t :: l, i, acc, ns, e => by
    unfold wiresX at e
    split at e
    · rename_i c
      rw [Bool.and_eq_true] at c
      have b := wiresX_ok e
      intro u m
      rcases List.mem_cons.mp m with rfl | m
      · exact c.1
      · exact b u m
    · cases e
abbrev wiB : List S := [.ife (.bop .Or [.not (.t (.call 7 [.var 5, .var 2])), .t (.cmp .In (.sl (.var 5) (.at (.c (.int 1))) (.at (.c (.int 3)))) (.var 3))]) [.rse "NoNet" [.c (.str "wires"), .var 4]] [], .expr (.mth .add (.var 3) [.sl (.var 5) (.at (.c (.int 1))) (.at (.c (.int 3)))])]
section
variable {P : Pg} (n : NetP P) (k : Nat)
include n
theorem wires_loop (wk ws : List T) (names : List Str) (hn : ∀ x ∈ names, PyData.strOk x = true) {m : Nat} : ∀ (l : List T) (i : Nat) (acc : List (Str × Int)) (a b c : Option Sl) (h : Hs), (∀ t ∈ l, fineT t = true) → acc.length + l.length ≤ 300 → h[m]? = some (.tst (acc.map endK)) →
    (match wiresX names i acc l with
      | .ok ns => ∃ a' b', forL (forB (Γn P (k + 4)) (.tp [.nm 4, .nm 5]) wiB) none (numF i l) [some (.v (.tup wk)), some (.v (.tup ws)), some (.v (.lst (names.map .str))), some (.v (.ref m)), a, b, c] h = .ok .nx [some (.v (.tup wk)), some (.v (.tup ws)), some (.v (.lst (names.map .str))), some (.v (.ref m)), a', b', c] (h.set m (.tst (ns.map endK)))
      | .error j => ∃ σ o, forL (forB (Γn P (k + 4)) (.tp [.nm 4, .nm 5]) wiB) none (numF i l) [some (.v (.tup wk)), some (.v (.tup ws)), some (.v (.lst (names.map .str))), some (.v (.ref m)), a, b, c] h = .ex (noNet "wires" j) σ (h.set m o))
  | [], i, acc, a, b, c, h, _, _, hm => by
    refine ⟨a, b, ?_⟩
    rw [show numF i [] = [] from rfl, forL_nil, set_same hm]
  | t :: l, i, acc, a, b, c, h, hf, hl, hm => by
    have e1 := hf t (by simp)
    have w := w_wire n k h (names := names) e1 hn
    have rs := fun σ h => evS_rse (Γn P (k + 4)) σ h n.xs
    unfold wiresX
    rw [show numF i (t :: l) = .tup [.int (i : Nat), t] :: numF (i + 1) l from rfl, forL_cons]
    cases z : wireB names t
    · rw [z] at w
      have body : forB (Γn P (k + 4)) (.tp [.nm 4, .nm 5]) wiB (.tup [.int (i : Nat), t]) [some (.v (.tup wk)), some (.v (.tup ws)), some (.v (.lst (names.map .str))), some (.v (.ref m)), a, b, c] h = .ex (noNet "wires" i) [some (.v (.tup wk)), some (.v (.tup ws)), some (.v (.lst (names.map .str))), some (.v (.ref m)), some (.v (.int i)), some (.v t), c] h := by
        simp [forB, w, rs]
      rw [body]
      exact ⟨_, _, by rw [SO.turn_ex, set_same hm]⟩
    · rw [z] at w
      obtain ⟨s, fi, far, room, et, -, -⟩ := wireB_shape z
      have sl : slR (seen h t) (some 1) (some 3) = some (.v (.tup [.str (endOf t).1, .int (endOf t).2])) := by
        conv => lhs; rw [et]
        rfl
      have mem := memK_end (endOf t) acc
      cases c2 : oneE (endOf t) acc
      · rw [c2] at mem
        have ad : adL m (some (.tst (acc.map endK))) (.tup [.str (endOf t).1, .int (endOf t).2]) h = .ok (.v .non) (h.set m (.tst ((acc ++ [endOf t]).map endK))) := by
          rw [adL_tst h (ks := endK (endOf t)) rfl (by simp only [List.length_map, List.length_cons] at hl ⊢; omega), mem]
          simp
        have body : forB (Γn P (k + 4)) (.tp [.nm 4, .nm 5]) wiB (.tup [.int (i : Nat), t]) [some (.v (.tup wk)), some (.v (.tup ws)), some (.v (.lst (names.map .str))), some (.v (.ref m)), a, b, c] h = .ok .nx [some (.v (.tup wk)), some (.v (.tup ws)), some (.v (.lst (names.map .str))), some (.v (.ref m)), some (.v (.int i)), some (.v t), c] (h.set m (.tst ((acc ++ [endOf t]).map endK))) := by
          simp [forB, w, rs, sl, hm, inT, keysT, mem, ad]
        rw [body, SO.turn_nx]
        have hm' : (h.set m (.tst ((acc ++ [endOf t]).map endK)))[m]? = some (.tst ((acc ++ [endOf t]).map endK)) := by
          rw [List.getElem?_set_self (List.getElem?_eq_some_iff.mp hm).1]
        have ih := wires_loop wk ws names hn l (i + 1) (acc ++ [endOf t]) (some (.v (.int i))) (some (.v t)) c _ (fun t m => hf t (by simp [m])) (by simp only [List.length_append, List.length_cons, List.length_nil] at hl ⊢; omega) hm'
        simp only [Bool.not_false, Bool.and_true, if_true]
        simpa only [List.set_set] using ih
      · rw [c2] at mem
        have body : forB (Γn P (k + 4)) (.tp [.nm 4, .nm 5]) wiB (.tup [.int (i : Nat), t]) [some (.v (.tup wk)), some (.v (.tup ws)), some (.v (.lst (names.map .str))), some (.v (.ref m)), a, b, c] h = .ex (noNet "wires" i) [some (.v (.tup wk)), some (.v (.tup ws)), some (.v (.lst (names.map .str))), some (.v (.ref m)), some (.v (.int i)), some (.v t), c] h := by
          simp [forB, w, rs, sl, hm, inT, keysT, mem]
        rw [body]
        exact ⟨_, _, by rw [SO.turn_ex, set_same hm]⟩
/-- look_wires -/
def lookWires (names : List Str) (ws : List T) : Except Int (List (Str × Int)) := if ws.length ≤ 100 then wiresX names 0 [] ws else .error (-1)
theorem w_wires {wk ws : List T} (hk : ∀ t ∈ wk, workB t = true ∧ fineT t = true) (hl : wk.length ≤ 40) (hf : ∀ t ∈ ws, fineT t = true) (h : Hs) :
    (match lookWires (wk.map nameOf) ws with
      | .ok _ => ∃ h', callK P (k + 7) 9 [.tup wk, .tup ws] h = .ok (.v .non) h' ∧ Gr h h'
      | .error j => ∃ h', callK P (k + 7) 9 [.tup wk, .tup ws] h = .ex (noNet "wires" j) h' ∧ Gr h h') := by
  have rs := fun σ h => evS_rse (Γn P (k + 4)) σ h n.xs
  have i1 : bltR .isinstance [.tup ws, .ty "tuple"] = some (.v (.bl true)) := by simp [bltR, tyN, isiS]
  rw [callK_eq (k := k + 4) n.d9, runD_eq _ _ _ rfl]
  unfold lookWires
  by_cases c : ws.length ≤ 100
  · have c1' : ¬ (100 : Int) < ws.length := by omega
    rw [if_pos c]
    have lc := lcL_map (f := lcT (Γn P (k + 4)) (.ix (.var 6) (.c (.int 1))) (.nm 6) .yes [some (.v (.tup wk)), some (.v (.tup ws)), none, none, none, none, none]) (g := none) (h := h) (fun t => .str (nameOf t)) rfl wk [] (fun t ht => by
      obtain ⟨r, s, et⟩ := workB_ix (hk t ht).1
      have ix : ∀ σ, ixL P.wd σ (.v t) (.v (.int 1)) h = .ok (.v (.str (nameOf t))) h := fun σ => by
        conv => lhs; rw [et]
        simp
      simp [lcT, Tg.ixs, wipeT, ix]
      rfl) (by show 0 + wk.length ≤ 16777216; omega)
    have en : wk.map (fun t => T.str (nameOf t)) = (wk.map nameOf).map .str := by rw [List.map_map]; rfl
    rw [List.nil_append, en] at lc
    have lp := wires_loop n k wk ws (wk.map nameOf) (fun x hx => by
      obtain ⟨t, ht, rfl⟩ := List.mem_map.mp hx
      exact (name_ok (hk t ht).1 (hk t ht).2).1) (m := h.length) ws 0 [] none none none (h ++ [.tst []]) hf (by simp; omega) (by simp)
    simp only [List.set_append_right _ _ (Nat.le_refl _), Nat.sub_self, List.set_cons_zero] at lp
    cases e : wiresX (wk.map nameOf) 0 [] ws with
    | ok ns =>
      rw [e] at lp
      obtain ⟨a', b', lp⟩ := lp
      refine ⟨h ++ [.tst (ns.map endK)], ?_, Gr.push⟩
      simp [nf9, nb9, startT, n.g10, n.g16, i1, c1', numT_eq, -List.map_map, lc, lp]
    | error j =>
      rw [e] at lp
      obtain ⟨σ, o, lp⟩ := lp
      refine ⟨h ++ [o], ?_, Gr.push⟩
      simp [nf9, nb9, startT, n.g10, n.g16, i1, c1', numT_eq, -List.map_map, lc, lp]
  · have c1' : (100 : Int) < ws.length := by omega
    rw [if_neg c]
    exact ⟨h, by simp [nf9, nb9, startT, n.g10, n.g16, i1, c1', rs], Gr.refl⟩
end
end VY
namespace VY
open PySem L2
theorem lcL_filter {f : T → Hs → Out (Option T)} {h : Hs} (p : T → Bool) (F : T → T) : ∀ (xs acc : List T), (∀ x ∈ xs, f x h = .ok (if p x then some (F x) else none) h) → acc.length + xs.length ≤ SL → lcL f none xs acc h = .ok (acc ++ (xs.filter p).map F) h
  | [], acc, _, _ => by rw [lcL, if_pos (gdB_none h)]; simp
  | x :: xs, acc, hf, hl => by
    simp only [List.length_cons] at hl
    rw [lcL, if_pos (gdB_none h), hf x (by simp), Out.bind_ok]
    cases c : p x
    · simp only [Bool.false_eq_true, if_false]
      rw [lcL_filter p F xs acc (fun y hy => hf y (by simp [hy])) (by omega)]
      simp [c]
    · simp only [if_true]
      rw [if_pos (by omega), lcL_filter p F xs _ (fun y hy => hf y (by simp [hy])) (by simp; omega)]
      simp [c]
theorem eqT_ss {a b : Str} (ha : PyData.strOk a = true) (hb : PyData.strOk b = true) : eqT (.str a) (.str b) = some (decide (a = b)) := by
  have e1 : toD (.str a) = some (.str a) := by rw [toD]
  have e2 : toD (.str b) = some (.str b) := by rw [toD]
  have e3 : (SeqAt.shaped (.str a) && SeqAt.shaped (.str b)) = true := by simp [SeqAt.shaped, PyData.canLay0, ha, hb, PyData.depth]
  unfold eqT
  rw [e1, e2]
  simp only [e3, if_true]
  congr 1
theorem eqL_int (a b : List Int) : eqT (.lst (a.map .int)) (.lst (b.map .int)) = some (decide (a = b)) := by
  rw [← ints_opt, ← ints_opt, eqL_opt]
  congr 1
  rw [Bool.eq_iff_iff]
  simp
  exact ⟨fun h => List.map_inj_right (fun _ _ e => Option.some.inj e) |>.mp h, fun h => by rw [h]⟩
theorem ixL_bw6 (wd : Str → Str → Option T) (h : Hs) (a b c d e f : Option Sl) (l : List T) (u : T) : ixL wd [a, b, c, d, e, f, some (.al l)] (.bw 6) (.v u) h = lift ((ixR (.lst l) u).map .v) h := ixL_bw _ _ _ (l := l) rfl u
def takesB (w : Str) (m : Nat) : Bool := if oneOf w pairsL then decide (m = 2) else oneOf w wordsL && (decide (1 ≤ m) && decide (m ≤ 6))
def fedB (m : Nat) : T → Bool
  | .tup [_, _, .str w] => takesB w m
  | .tup [.str k, _] => if k = "spring" then decide (m = 0) else if k = "mouth" then decide (m = 1) else decide (2 ≤ m) && decide (m ≤ 7)
  | _ => false
section
variable {P : Pg} (n : NetP P) (k : Nat)
include n
theorem w_takes (w : Str) (m : Nat) (h : Hs) : callK P (k + 3) 2 [.str w, .int m] h = .ok (.v (.bl (takesB w m))) h := by
  rw [callK_eq (k := k) n.d2, runD_eq _ _ _ rfl]
  have z : ((m : Int) = 2) ↔ m = 2 := by omega
  cases c : oneOf w pairsL
  · cases c2 : oneOf w wordsL
    · simp [nf2, nb2, startT, n.g3, n.g4, n.g5, in_pairs, in_words, c, c2, takesB]
    · by_cases c3 : 1 ≤ m
      · have c3' : (1 : Int) ≤ m := by omega
        have z : ((m : Int) ≤ 6) ↔ m ≤ 6 := by omega
        simp [nf2, nb2, startT, n.g3, n.g4, n.g5, in_pairs, in_words, c, c2, takesB, c3, c3', z]
      · have c3' : ¬ (1 : Int) ≤ m := by omega
        simp [nf2, nb2, startT, n.g3, n.g4, n.g5, in_pairs, in_words, c, c2, takesB, c3, c3']
  · simp [nf2, nb2, startT, n.g3, n.g4, n.g5, in_pairs, in_words, c, takesB, z]
theorem w_fed {t : T} (e : workB t = true) (m : Nat) (h : Hs) : ∃ h', callK P (k + 4) 10 [t, .int m] h = .ok (.v (.bl (fedB m t))) h' ∧ Gr h h' := by
  rw [callK_eq (k := k + 1) n.d10, runD_eq _ _ _ rfl]
  unfold workB at e
  split at e
  · rename_i kd x
    rw [Bool.and_eq_true] at e
    have hk : kd = "spring" ∨ kd = "pick" ∨ kd = "mouth" := by
      have := e.2
      simp only [oneOf, plainL, List.any_cons, List.any_nil, Bool.or_false, Bool.or_eq_true, decide_eq_true_eq] at this
      rcases this with h | h | h <;> simp [h]
    refine ⟨h ++ [.dct (mergeT [] [(.inr "spring", .tup [.int 0, .int 0]), (.inr "mouth", .tup [.int 1, .int 1]), (.inr "pick", .tup [.int 2, .int 7])])], ?_, Gr.push⟩
    have pt : ∀ a b c : T, pairsT [.str "spring", a, .str "mouth", b, .str "pick", c] = some [(.inr "spring", a), (.inr "mouth", b), (.inr "pick", c)] := fun a b c => by simp [pairsT]
    have ds : ∀ (h : Hs), dspL [.str "spring", .tup [.int 0, .int 0], .str "mouth", .tup [.int 1, .int 1], .str "pick", .tup [.int 2, .int 7]] h = .ok (.v (.ref h.length)) (h ++ [.dct (mergeT [] [(.inr "spring", .tup [.int 0, .int 0]), (.inr "mouth", .tup [.int 1, .int 1]), (.inr "pick", .tup [.int 2, .int 7])])]) := fun h => dspL_of h (pt _ _ _) (by decide)
    rcases hk with rfl | rfl | rfl
    · have q : eqT (.str "spring") (.str "fold") = some false := by decide +kernel
      have lk : lookT (mergeT [] [(.inr "spring", .tup [.int 0, .int 0]), (.inr "mouth", .tup [.int 1, .int 1]), (.inr "pick", .tup [.int 2, .int 7])]) (.inr "spring") = some (.tup [.int 0, .int 0]) := by rfl
      have z0 : (0 : Int) ≤ m := by omega
      have z : (m : Int) ≤ 0 ↔ m = 0 := by omega
      simp [nf10, nb10, startT, n.g12, starS, setsV, q, ds, lk, fedB, SL, z]
    · have q : eqT (.str "pick") (.str "fold") = some false := by decide +kernel
      have lk : lookT (mergeT [] [(.inr "spring", .tup [.int 0, .int 0]), (.inr "mouth", .tup [.int 1, .int 1]), (.inr "pick", .tup [.int 2, .int 7])]) (.inr "pick") = some (.tup [.int 2, .int 7]) := by rfl
      have n1 : ¬ ("pick" : Str) = "spring" := by decide
      have n2 : ¬ ("pick" : Str) = "mouth" := by decide
      by_cases c : 2 ≤ m
      · have c' : (2 : Int) ≤ m := by omega
        have z : (m : Int) ≤ 7 ↔ m ≤ 7 := by omega
        simp [nf10, nb10, startT, n.g12, starS, setsV, q, ds, lk, fedB, SL, z, n1, n2, c, c']
      · have c' : ¬ (2 : Int) ≤ m := by omega
        simp [nf10, nb10, startT, n.g12, starS, setsV, q, ds, lk, fedB, SL, n1, n2, c, c']
    · have q : eqT (.str "mouth") (.str "fold") = some false := by decide +kernel
      have lk : lookT (mergeT [] [(.inr "spring", .tup [.int 0, .int 0]), (.inr "mouth", .tup [.int 1, .int 1]), (.inr "pick", .tup [.int 2, .int 7])]) (.inr "mouth") = some (.tup [.int 1, .int 1]) := by rfl
      have n1 : ¬ ("mouth" : Str) = "spring" := by decide
      by_cases c : 1 ≤ m
      · have c' : (1 : Int) ≤ m := by omega
        have z : (m : Int) ≤ 1 ↔ m = 1 := by omega
        simp [nf10, nb10, startT, n.g12, starS, setsV, q, ds, lk, fedB, SL, z, n1, c']
      · have c' : ¬ (1 : Int) ≤ m := by omega
        have c2 : ¬ m = 1 := by omega
        simp [nf10, nb10, startT, n.g12, starS, setsV, q, ds, lk, fedB, SL, n1, c', c2]
  · rename_i kd x w
    simp only [Bool.and_eq_true, decide_eq_true_eq] at e
    obtain ⟨e1, rfl, e3⟩ := e
    have q : eqT (.str "fold") (.str "fold") = some true := by decide +kernel
    have t := w_takes n k w m h
    exact ⟨h, by simp [nf10, nb10, startT, starS, setsV, q, t, fedB, ixL_bw6], Gr.refl⟩
  · cases e
end
theorem evSs_app (Γ : VY.Ctx) : ∀ (a b : List S) (σ : Slots) (h : Hs), evSs Γ (a ++ b) σ h = (evSs Γ a σ h).seq (evSs Γ b)
  | [], b, σ, h => by rw [List.nil_append, evSs_nil, SO.seq_nx]
  | s :: a, b, σ, h => by
    rw [List.cons_append, evSs_cons, evSs_cons]
    cases evS Γ s σ h with
    | ok f σ1 h1 => cases f <;> simp [evSs_app Γ a b]
    | ex x σ1 h1 => simp
    | bad => simp
def startOf : T → Str
  | .tup (.str s :: _) => s
  | _ => Str.empty
def kindOf : T → Str
  | .tup (.str s :: _) => s
  | _ => Str.empty
def insOf (x : Str) (ws : List T) : List Int := (ws.filter fun w => decide ((endOf w).1 = x)).map fun w => (endOf w).2
def leavesB (x : Str) (ws : List T) : Bool := ws.any fun w => decide (startOf w = x)
def insOkB (ws : List T) (t : T) : Bool :=
  decide (sortI (insOf (nameOf t) ws) = (List.range (insOf (nameOf t) ws).length).map fun (k : Nat) => (k : Int)) && (fedB (insOf (nameOf t) ws).length t && !(leavesB (nameOf t) ws == decide (kindOf t = "mouth")))
/-- the first work that isn't fed as it wants -/
def insX (ws : List T) : Nat → List T → Option Int
  | _, [] => none
  | i, t :: l => if insOkB ws t then insX ws (i + 1) l else some i
/-- what is in a wire -/
structure WireIs (w : T) : Prop where
  sh : ∃ fi far room, w = .tup [.str (startOf w), .str (endOf w).1, .int (endOf w).2, .tup fi, far, room]
  s : PyData.strOk (startOf w) = true
  g : PyData.strOk (endOf w).1 = true
theorem wireIs {names : List Str} {w : T} (e : wireB names w = true) (f : fineT w = true) : WireIs w := by
  obtain ⟨s, fi, far, room, et, -, -⟩ := wireB_shape e
  have es : startOf w = s := by rw [et]; rfl
  have f' := f
  rw [et] at f'
  simp only [fineT, Bool.and_eq_true] at f'
  have a := fine_mem f'.2 (.str s) (by simp)
  have b := fine_mem f'.2 (.str (endOf w).1) (by simp)
  simp only [fineT, Bool.and_eq_true] at a b
  exact ⟨⟨fi, far, room, by rw [es]; exact et⟩, by rw [es]; exact a.2, b.2⟩
theorem workB_shape {t : T} (e : workB t = true) (f : fineT t = true) : ∃ r, t = .tup (.str (kindOf t) :: .str (nameOf t) :: r) ∧ PyData.strOk (kindOf t) = true := by
  unfold workB at e
  split at e
  · rename_i kd x
    simp only [fineT, fineTs, Bool.and_eq_true] at f
    exact ⟨_, rfl, f.2.1.2⟩
  · rename_i kd x w
    simp only [fineT, fineTs, Bool.and_eq_true] at f
    exact ⟨_, rfl, f.2.1.2⟩
  · cases e
abbrev liA : List S := [.asg 4 (.blt .sorted [.lc (.ix (.var 6) (.c (.int 2))) (.nm 6) (.e (.var 1)) (.t (.cmp .Eq (.ix (.var 6) (.c (.int 1))) (.ix (.var 3) (.c (.int 1)))))]), .fz 4, .asg 5 (.blt .any [.lc (.cmp .Eq (.ix (.var 6) (.c (.int 0))) (.ix (.var 3) (.c (.int 1)))) (.nm 6) (.e (.var 1)) .yes])]
def liB : List S := liA ++ [.ife (.bop .Or [.t (.cmp .NotEq (.var 4) (.op .lrg [.blt .len [.var 4]])), .not (.t (.call 10 [.var 3, .blt .len [.var 4]])), .t (.cmp .Eq (.var 5) (.cmp .Eq (.ix (.var 3) (.c (.int 0))) (.c (.str "mouth"))))]) [.rse "NoNet" [.c (.str "ins"), .var 2]] []]
section
variable {P : Pg} (n : NetP P) (k : Nat)
include n
theorem ins_a {t : T} {wk ws : List T} (ht : workB t = true) (hf : fineT t = true) (hw : ∀ w ∈ ws, WireIs w) (hl : ws.length ≤ 4000) (i : T) (x4 x5 x6 : Option Sl) (h : Hs) :
    evSs (Γn P (k + 2)) liA [some (.v (.tup wk)), some (.v (.tup ws)), some (.v i), some (.v t), x4, x5, x6] h
      = .ok .nx [some (.v (.tup wk)), some (.v (.tup ws)), some (.v i), some (.v t), some (.v (.lst ((sortI (insOf (nameOf t) ws)).map .int))), some (.v (.bl (leavesB (nameOf t) ws))), x6] h := by
  obtain ⟨r, et, ok⟩ := workB_shape ht hf
  have okn := (name_ok ht hf).1
  have ixn : ∀ σ, ixL P.wd σ (.v t) (.v (.int 1)) h = .ok (.v (.str (nameOf t))) h := fun σ => by
    conv => lhs; rw [et]
    simp
  have ix : ∀ w ∈ ws, ∀ σ, ixL P.wd σ (.v w) (.v (.int 0)) h = .ok (.v (.str (startOf w))) h ∧ ixL P.wd σ (.v w) (.v (.int 1)) h = .ok (.v (.str (endOf w).1)) h ∧ ixL P.wd σ (.v w) (.v (.int 2)) h = .ok (.v (.int (endOf w).2)) h := fun w hm σ => by
    obtain ⟨fi, far, room, e⟩ := (hw w hm).sh
    refine ⟨?_, ?_, ?_⟩ <;> (conv => lhs; rw [e]) <;> simp
  have l1 : ∀ x4 x5, lcL (lcT (Γn P (k + 2)) (.ix (.var 6) (.c (.int 2))) (.nm 6) (.t (.cmp .Eq (.ix (.var 6) (.c (.int 1))) (.ix (.var 3) (.c (.int 1))))) [some (.v (.tup wk)), some (.v (.tup ws)), some (.v i), some (.v t), x4, x5, x6]) none ws [] h = .ok ((insOf (nameOf t) ws).map .int) h := fun x4 x5 => by
    rw [lcL_filter (fun w => decide ((endOf w).1 = nameOf t)) (fun w => .int (endOf w).2) ws [] (fun w hm => ?_) (by show 0 + ws.length ≤ 16777216; omega)]
    · unfold insOf
      rw [List.map_map, List.nil_append]; rfl
    · obtain ⟨-, i1, i2⟩ := ix w hm [some (.v (.tup wk)), some (.v (.tup ws)), some (.v i), some (.v t), x4, x5, some (.v w)]
      have q := eqT_ss (hw w hm).g okn
      simp [lcT, Tg.ixs, wipeT, i1, i2, ixn, q]
      by_cases c : (endOf w).1 = nameOf t <;> simp [c] <;> rfl
  have l2 : ∀ x4 x5, lcL (lcT (Γn P (k + 2)) (.cmp .Eq (.ix (.var 6) (.c (.int 0))) (.ix (.var 3) (.c (.int 1)))) (.nm 6) .yes [some (.v (.tup wk)), some (.v (.tup ws)), some (.v i), some (.v t), x4, x5, x6]) none ws [] h = .ok ((ws.map fun w => decide (startOf w = nameOf t)).map .bl) h := fun x4 x5 => by
    refine lcL_bls (P := P) n (fun w => decide (startOf w = nameOf t)) ws (fun w hm => ?_) (by show ws.length ≤ 16777216; omega)
    obtain ⟨i0, -, -⟩ := ix w hm [some (.v (.tup wk)), some (.v (.tup ws)), some (.v i), some (.v t), x4, x5, some (.v w)]
    have q := eqT_ss (hw w hm).s okn
    simp [lcT, Tg.ixs, wipeT, i0, ixn, q]
    rfl
  have so : ∀ l : List Int, bltR .sorted [.lst (l.map .int)] = some (.al ((sortI l).map .int)) := fun l => by simp [bltR, intsOf_map]
  simp only [liA]
  simp [-List.map_map, l1, l2, so, any_bls]
  rfl
theorem ins_loop {wk ws : List T} (hw : ∀ w ∈ ws, WireIs w) (hl : ws.length ≤ 4000) : ∀ (l : List T) (i : Nat) (a b x4 x5 x6 : Option Sl) (h : Hs), (∀ t ∈ l, workB t = true ∧ fineT t = true) →
    (match insX ws i l with
      | none => ∃ a' b' c' d' h', forL (forB (Γn P (k + 2)) (.tp [.nm 2, .nm 3]) liB) none (numF i l) [some (.v (.tup wk)), some (.v (.tup ws)), a, b, x4, x5, x6] h = .ok .nx [some (.v (.tup wk)), some (.v (.tup ws)), a', b', c', d', x6] h' ∧ Gr h h'
      | some j => ∃ σ h', forL (forB (Γn P (k + 2)) (.tp [.nm 2, .nm 3]) liB) none (numF i l) [some (.v (.tup wk)), some (.v (.tup ws)), a, b, x4, x5, x6] h = .ex (noNet "ins" j) σ h' ∧ Gr h h')
  | [], i, a, b, x4, x5, x6, h, _ => ⟨a, b, x4, x5, h, by rw [show numF i [] = [] from rfl, forL_nil], Gr.refl⟩
  | t :: l, i, a, b, x4, x5, x6, h, ht => by
    obtain ⟨ht1, ht2⟩ := ht t (by simp)
    obtain ⟨r, et, ok⟩ := workB_shape ht1 ht2
    have rs := fun σ h => evS_rse (Γn P (k + 2)) σ h n.xs
    have A := ins_a n k (wk := wk) ht1 ht2 hw hl (.int i) x4 x5 x6 h
    have ix0 : ∀ σ h, ixL P.wd σ (.v t) (.v (.int 0)) h = .ok (.v (.str (kindOf t))) h := fun σ h => by
      conv => lhs; rw [et]
      simp
    have q := eqT_ss (b := "mouth") ok (by decide +kernel)
    have ls : (sortI (insOf (nameOf t) ws)).length = (insOf (nameOf t) ws).length := List.length_mergeSort ..
    have lw : (insOf (nameOf t) ws).length ≤ ws.length := by unfold insOf; rw [List.length_map]; exact List.length_filter_le ..
    have rg := rng0 (j := ((insOf (nameOf t) ws).length : Int)) rfl (by omega)
    have rg2 : ((List.range (insOf (nameOf t) ws).length).map fun k : Nat => T.int k) = ((List.range (insOf (nameOf t) ws).length).map fun (k : Nat) => (k : Int)).map .int := by rw [List.map_map]; rfl
    rw [rg2] at rg
    have lim : 0 ≤ ((insOf (nameOf t) ws).length : Int) ∧ ((insOf (nameOf t) ws).length : Int) ≤ 16777216 := by omega
    have eq := eqL_int (sortI (insOf (nameOf t) ws)) ((List.range (insOf (nameOf t) ws).length).map fun (k : Nat) => (k : Int))
    obtain ⟨h1, fd, gr⟩ := w_fed n k ht1 (insOf (nameOf t) ws).length h
    unfold insX
    rw [show numF i (t :: l) = .tup [.int (i : Nat), t] :: numF (i + 1) l from rfl, forL_cons]
    have body : ∃ h', Gr h h' ∧ forB (Γn P (k + 2)) (.tp [.nm 2, .nm 3]) liB (.tup [.int (i : Nat), t]) [some (.v (.tup wk)), some (.v (.tup ws)), a, b, x4, x5, x6] h =
        if insOkB ws t then .ok .nx [some (.v (.tup wk)), some (.v (.tup ws)), some (.v (.int i)), some (.v t), some (.v (.lst ((sortI (insOf (nameOf t) ws)).map .int))), some (.v (.bl (leavesB (nameOf t) ws))), x6] h'
        else .ex (noNet "ins" i) [some (.v (.tup wk)), some (.v (.tup ws)), some (.v (.int i)), some (.v t), some (.v (.lst ((sortI (insOf (nameOf t) ws)).map .int))), some (.v (.bl (leavesB (nameOf t) ws))), x6] h' := by
      have pre : forB (Γn P (k + 2)) (.tp [.nm 2, .nm 3]) liB (.tup [.int (i : Nat), t]) [some (.v (.tup wk)), some (.v (.tup ws)), a, b, x4, x5, x6] h = evSs (Γn P (k + 2)) liB [some (.v (.tup wk)), some (.v (.tup ws)), some (.v (.int i)), some (.v t), x4, x5, x6] h := by
        simp only [forB, asgT_tp, asgTs_cons, asgTs_nil, asgT_nm, Option.bind_some, liftS_some, SO.seq_nx]
        rfl
      rw [pre]
      show ∃ h', Gr h h' ∧ evSs (Γn P (k + 2)) (liA ++ _) _ h = _
      rw [evSs_app, A]
      cases c1 : decide (sortI (insOf (nameOf t) ws) = (List.range (insOf (nameOf t) ws).length).map fun (k : Nat) => (k : Int))
      · refine ⟨h, Gr.refl, ?_⟩
        rw [c1] at eq
        simp [rs, ls, lim, rg, eq, insOkB, c1, -List.map_map]
      · rw [c1] at eq
        refine ⟨h1, gr, ?_⟩
        cases c2 : fedB (insOf (nameOf t) ws).length t
        · rw [c2] at fd
          simp [rs, ls, lim, rg, eq, insOkB, c1, c2, fd, -List.map_map]
        · rw [c2] at fd
          cases c3 : (leavesB (nameOf t) ws == decide (kindOf t = "mouth"))
          · simp [rs, ls, lim, rg, eq, insOkB, c1, c2, c3, fd, ix0, q, -List.map_map]
          · simp [rs, ls, lim, rg, eq, insOkB, c1, c2, c3, fd, ix0, q, -List.map_map]
    obtain ⟨h', gr', body⟩ := body
    rw [body]
    cases c : insOkB ws t
    · exact ⟨_, _, by simp only [Bool.false_eq_true, if_false]; rw [SO.turn_ex], gr'⟩
    · simp only [if_true, SO.turn_nx]
      have ih := ins_loop (wk := wk) hw hl l (i + 1) (some (.v (.int i))) (some (.v t)) (some (.v (.lst ((sortI (insOf (nameOf t) ws)).map .int)))) (some (.v (.bl (leavesB (nameOf t) ws)))) x6 h' (fun t m => ht t (by simp [m]))
      cases e : insX ws (i + 1) l with
      | none =>
        rw [e] at ih
        obtain ⟨a, b, x4, x5, h2, e1, e2⟩ := ih
        exact ⟨a, b, x4, x5, h2, e1, gr'.trans e2⟩
      | some j =>
        rw [e] at ih
        obtain ⟨σ, h2, e1, e2⟩ := ih
        exact ⟨σ, h2, e1, gr'.trans e2⟩
theorem w_ins {wk ws : List T} (hw : ∀ w ∈ ws, WireIs w) (hl : ws.length ≤ 4000) (h : Hs) (hk : ∀ t ∈ wk, workB t = true ∧ fineT t = true) :
    (match insX ws 0 wk with
      | none => ∃ h', callK P (k + 5) 11 [.tup wk, .tup ws] h = .ok (.v .non) h' ∧ Gr h h'
      | some j => ∃ h', callK P (k + 5) 11 [.tup wk, .tup ws] h = .ex (noNet "ins" j) h' ∧ Gr h h') := by
  rw [callK_eq (k := k + 2) n.d11, runD_eq _ _ _ rfl]
  have lp := ins_loop n k (wk := wk) hw hl wk 0 none none none none none h hk
  cases e : insX ws 0 wk with
  | none =>
    rw [e] at lp
    obtain ⟨a, b, x4, x5, h', lp, gr⟩ := lp
    refine ⟨h', ?_, gr⟩
    show (evSs (Γn P (k + 2)) [S.for (.tp [.nm 2, .nm 3]) (.en (.var 0)) liB] [some (.v (.tup wk)), some (.v (.tup ws)), none, none, none, none, none] h).out = _
    simp [numT_eq, lp]
  | some j =>
    rw [e] at lp
    obtain ⟨σ, h', lp, gr⟩ := lp
    refine ⟨h', ?_, gr⟩
    show (evSs (Γn P (k + 2)) [S.for (.tp [.nm 2, .nm 3]) (.en (.var 0)) liB] [some (.v (.tup wk)), some (.v (.tup ws)), none, none, none, none, none] h).out = _
    simp [numT_eq, lp]
end
end VY
namespace VY
open PySem L2
/-- the class of nets -/
structure NetC (P : Pg) (iN : Nat) : Prop where
  dN : P.ds[iN]? = some nfN
  ini : P.cs.ini "Net" = some iN
  f1 : P.cs.at_ "Net" "held_works" = true
  f2 : P.cs.at_ "Net" "held_wires" = true
  f3 : P.cs.at_ "Net" "by_name" = true
  f4 : P.cs.at_ "Net" "into" = true
  f5 : P.cs.at_ "Net" "from_there" = true
def refsF : Nat → List Str → List (L2.Key × T)
  | _, [] => []
  | b, x :: l => (.inr x, .ref b) :: refsF (b + 1) l
theorem lookT_cons (k k' : L2.Key) (v : T) (l : List (L2.Key × T)) : lookT ((k, v) :: l) k' = if k = k' then some v else lookT l k' := by
  unfold lookT
  rw [List.find?_cons]
  by_cases c : k = k' <;> simp [c]
theorem idx_ne {a x : Str} {l : List Str} (c : a ≠ x) : (a :: l).idxOf x = l.idxOf x + 1 := by
  have e : (a == x) = false := by simpa using c
  simp [List.idxOf, List.findIdx_cons, e]
theorem refs_look : ∀ {names : List Str} {x : Str} (b : Nat), x ∈ names → lookT (refsF b names) (.inr x) = some (.ref (b + names.idxOf x))
  | a :: l, x, b, m => by
    rw [refsF, lookT_cons]
    by_cases c : a = x
    · subst c
      simp [List.idxOf_cons_self]
    · rw [if_neg (by simpa using c), idx_ne c, refs_look (b + 1) (by simpa [Ne.symm c] using m)]
      congr 2; omega
theorem putT_new {acc : List (L2.Key × T)} {k : L2.Key} (v : T) (e : (acc.any fun kv => decide (kv.1 = k)) = false) : putT acc k v = acc ++ [(k, v)] := by
  unfold putT
  rw [e]
  rfl
theorem dcL_push {f : T → Hs → Out (L2.Key × T)} (hf : ∀ (x : Str) h, f (.str x) h = .ok (.inr x, .ref h.length) (h ++ [.lst []])) : ∀ (names : List Str) (acc : List (L2.Key × T)) (h : Hs), names.Nodup → (∀ x ∈ names, (acc.any fun kv => decide (kv.1 = .inr x)) = false) → acc.length + names.length ≤ SL →
    dcL f none (names.map .str) acc h = .ok (acc ++ refsF h.length names) (h ++ List.replicate names.length (.lst []))
  | [], acc, h, _, _, _ => by
    show (if gdB none h then Out.ok acc h else .bad) = _
    simp [refsF]
  | x :: l, acc, h, nd, hn, hl => by
    simp only [List.length_cons] at hl
    rw [List.nodup_cons] at nd
    rw [List.map_cons, dcL, if_pos (gdB_none h), hf, Out.bind_ok, if_pos (by omega), putT_new _ (hn x (by simp))]
    rw [dcL_push hf l _ _ nd.2 (fun y hy => by
      rw [List.any_append, hn y (by simp [hy])]
      have : x ≠ y := fun e => nd.1 (e ▸ hy)
      simp [this]) (by simp; omega)]
    simp [refsF, List.replicate_succ]
theorem dcL_works {f : T → Hs → Out (L2.Key × T)} {h : Hs} : ∀ (wk : List T) (acc : List (L2.Key × T)), (∀ t ∈ wk, f t h = .ok (.inr (nameOf t), t) h) → (wk.map nameOf).Nodup → (∀ t ∈ wk, (acc.any fun kv => decide (kv.1 = .inr (nameOf t))) = false) → acc.length + wk.length ≤ SL →
    dcL f none wk acc h = .ok (acc ++ wk.map fun t => (.inr (nameOf t), t)) h
  | [], acc, _, _, _, _ => by
    show (if gdB none h then Out.ok acc h else .bad) = _
    simp
  | x :: l, acc, hf, nd, hn, hl => by
    simp only [List.length_cons] at hl
    rw [List.map_cons, List.nodup_cons] at nd
    rw [dcL, if_pos (gdB_none h), hf x (by simp), Out.bind_ok, if_pos (by omega), putT_new _ (hn x (by simp))]
    rw [dcL_works l _ (fun t m => hf t (by simp [m])) nd.2 (fun y hy => by
      rw [List.any_append, hn y (by simp [hy])]
      have : nameOf x ≠ nameOf y := fun e => nd.1 (e ▸ List.mem_map_of_mem hy)
      simp [this]) (by simp; omega)]
    simp
theorem map_set {f : Str → HOb} {x : Str} {v : HOb} : ∀ {names : List Str}, names.Nodup → x ∈ names → (names.map f).set (names.idxOf x) v = names.map fun y => if y = x then v else f y
  | a :: l, nd, m => by
    rw [List.nodup_cons] at nd
    by_cases c : a = x
    · subst c
      rw [List.idxOf_cons_self, List.map_cons, List.set_cons_zero, List.map_cons, if_pos rfl]
      congr 1
      refine List.map_congr_left fun y hy => ?_
      rw [if_neg (fun e : y = a => nd.1 (e ▸ hy))]
    · rw [idx_ne c, List.map_cons, List.set_cons_succ, List.map_cons, if_neg c, map_set nd.2 (by simpa [Ne.symm c] using m)]
abbrev NH (A L : Hs) (I : List (L2.Key × T)) (M : Hs) (F : List (L2.Key × T)) : Hs := A ++ (L ++ .dct I :: (M ++ [.dct F]))
section
variable (A L M : Hs) (I F : List (L2.Key × T))
theorem NH_a {i : Nat} (h : i < A.length) : (NH A L I M F)[i]? = A[i]? := by rw [NH, List.getElem?_append_left h]
theorem NH_l {i : Nat} (h : i < L.length) : (NH A L I M F)[A.length + i]? = L[i]? := by
  rw [NH, List.getElem?_append_right (by omega), show A.length + i - A.length = i by omega, List.getElem?_append_left h]
theorem NH_i : (NH A L I M F)[A.length + L.length]? = some (.dct I) := by
  rw [NH, List.getElem?_append_right (by omega), show A.length + L.length - A.length = L.length by omega, List.getElem?_append_right (by omega)]
  simp
theorem NH_m {i : Nat} (h : i < M.length) : (NH A L I M F)[A.length + L.length + 1 + i]? = M[i]? := by
  rw [NH, List.getElem?_append_right (by omega), List.getElem?_append_right (by omega), show A.length + L.length + 1 + i - A.length - L.length = i + 1 by omega, List.getElem?_cons_succ, List.getElem?_append_left h]
theorem NH_f : (NH A L I M F)[A.length + L.length + 1 + M.length]? = some (.dct F) := by
  rw [NH, List.getElem?_append_right (by omega), List.getElem?_append_right (by omega), show A.length + L.length + 1 + M.length - A.length - L.length = M.length + 1 by omega, List.getElem?_cons_succ, List.getElem?_append_right (by omega)]
  simp
theorem NH_setl {i : Nat} (h : i < L.length) (o : HOb) : (NH A L I M F).set (A.length + i) o = NH A (L.set i o) I M F := by
  rw [NH, List.set_append_right _ _ (by omega), show A.length + i - A.length = i by omega, List.set_append_left _ _ h]
theorem NH_setm {i : Nat} (h : i < M.length) (o : HOb) : (NH A L I M F).set (A.length + L.length + 1 + i) o = NH A L I (M.set i o) F := by
  rw [NH, List.set_append_right _ _ (by omega), List.set_append_right _ _ (by omega), show A.length + L.length + 1 + i - A.length - L.length = i + 1 by omega, List.set_cons_succ, List.set_append_left _ _ h]
end
/-- what leads into x; what leaves it -/
def intoF (p : List T) (x : Str) : List T := (p.zipIdx.filter fun q => decide ((endOf q.1).1 = x)).map fun q => .tup [.int (endOf q.1).2, .int (q.2 : Nat)]
def fromF (p : List T) (x : Str) : List T := (p.zipIdx.filter fun q => decide (startOf q.1 = x)).map fun q => .int (q.2 : Nat)
theorem into_snoc (p : List T) (w : T) (x : Str) : intoF (p ++ [w]) x = if x = (endOf w).1 then intoF p x ++ [.tup [.int (endOf w).2, .int (p.length : Nat)]] else intoF p x := by
  unfold intoF
  rw [List.zipIdx_append, List.filter_append, List.map_append]
  by_cases c : (endOf w).1 = x
  · simp [c]
  · simp [c, Ne.symm c]
theorem from_snoc (p : List T) (w : T) (x : Str) : fromF (p ++ [w]) x = if x = startOf w then fromF p x ++ [.int (p.length : Nat)] else fromF p x := by
  unfold fromF
  rw [List.zipIdx_append, List.filter_append, List.map_append]
  by_cases c : startOf w = x
  · simp [c]
  · simp [c, Ne.symm c]
theorem into_len (p : List T) (x : Str) : (intoF p x).length ≤ p.length := by
  unfold intoF
  rw [List.length_map]
  exact Nat.le_trans (List.length_filter_le ..) (by simp)
theorem from_len (p : List T) (x : Str) : (fromF p x).length ≤ p.length := by
  unfold fromF
  rw [List.length_map]
  exact Nat.le_trans (List.length_filter_le ..) (by simp)
/-- the works by their names -/
def byF (wk : List T) : List (L2.Key × T) := wk.map fun t => (.inr (nameOf t), t)
/-- a net's fields; b: where the lists stand -/
def netFs (wk ws : List T) (b : Nat) : List (Str × T) := [("held_works", .tup wk), ("held_wires", .tup ws), ("by_name", .dct (byF wk)), ("into", .ref (b + wk.length)), ("from_there", .ref (b + wk.length + 1 + wk.length))]
abbrev inB (p : List T) (names : List Str) : Hs := names.map fun x => HOb.lst (intoF p x)
abbrev frB (p : List T) (names : List Str) : Hs := names.map fun x => HOb.lst (fromF p x)
theorem oneOf_mem {x : Str} {l : List Str} (e : oneOf x l = true) : x ∈ l := by
  unfold oneOf at e
  rw [List.any_eq_true] at e
  obtain ⟨y, m, d⟩ := e
  rw [decide_eq_true_eq] at d
  exact d ▸ m
theorem putA_lookup (f : Str) (t : T) : ∀ fs : List (Str × T), (putA f t fs).lookup f = some t
  | [] => by simp [putA, List.lookup]
  | (g, x) :: r => by
    unfold putA
    by_cases c : g = f
    · subst c; simp [List.lookup]
    · have c' : (f == g) = false := by simpa using Ne.symm c
      rw [if_neg c, List.lookup, c']
      exact putA_lookup f t r
theorem putA_putA (f : Str) (t u : T) : ∀ fs : List (Str × T), putA f t (putA f u fs) = putA f t fs
  | [] => by simp [putA]
  | (g, x) :: r => by
    by_cases c : g = f
    · simp [putA, c]
    · simp [putA, c, putA_putA f t u r]
def fs1 (wk : List T) : List (Str × T) := [("held_works", .tup wk)]
def fs2 (wk ws : List T) : List (Str × T) := [("held_works", .tup wk), ("held_wires", .tup ws)]
def fs3 (wk ws : List T) : List (Str × T) := [("held_works", .tup wk), ("held_wires", .tup ws), ("by_name", .dct (byF wk))]
def fs4 (wk ws : List T) (m : Nat) : List (Str × T) := [("held_works", .tup wk), ("held_wires", .tup ws), ("by_name", .dct (byF wk)), ("into", .ref m)]
/-- a net stands there -/
def IsNet (h : Hs) (s : Nat) (wk ws : List T) : Prop := ∃ b, h[s]? = some (.ins "Net" (netFs wk ws b)) ∧ h[b + wk.length]? = some (.dct (refsF b (wk.map nameOf))) ∧ h[b + wk.length + 1 + wk.length]? = some (.dct (refsF (b + wk.length + 1) (wk.map nameOf))) ∧
  ∀ x ∈ wk.map nameOf, h[b + (wk.map nameOf).idxOf x]? = some (.lst (intoF ws x)) ∧ h[b + wk.length + 1 + (wk.map nameOf).idxOf x]? = some (.lst (fromF ws x))
theorem IsNet.grow {h h' : Hs} {s : Nat} {wk ws : List T} (a : IsNet h s wk ws) (g : Gr h h') : IsNet h' s wk ws := by
  obtain ⟨b, e1, e2, e3, e4⟩ := a
  exact ⟨b, g.get e1, g.get e2, g.get e3, fun x m => ⟨g.get (e4 x m).1, g.get (e4 x m).2⟩⟩
abbrev nbE : List S := [.expr (.mth .append (.ix (.op (.at "into") [.var 0]) (.ix (.var 4) (.c (.int 1)))) [.tup [.ix (.var 4) (.c (.int 2)), .var 3]]), .expr (.mth .append (.ix (.op (.at "from_there") [.var 0]) (.ix (.var 4) (.c (.int 0)))) [.var 3])]
section
variable {P : Pg} {iN : Nat} (n : NetP P) (c : NetC P iN) (k : Nat)
include n c
theorem init_turn {A : Hs} {s : Nat} {wk ws : List T} {names : List Str} (en : names.length = wk.length) (hs : s < A.length) (eA : A[s]? = some (.ins "Net" (netFs wk ws A.length))) (nd : names.Nodup) {w : T} (wi : WireIs w) (m1 : (endOf w).1 ∈ names) (m2 : startOf w ∈ names) (p : List T) (hp : p.length ≤ 4000) (a b x5 x6 : Option Sl) :
    forB (Γn P k) (.tp [.nm 3, .nm 4]) nbE (.tup [.int (p.length : Nat), w]) [some (.v (.ref s)), some (.v (.tup wk)), some (.v (.tup ws)), a, b, x5, x6] (NH A (inB p names) (refsF A.length names) (frB p names) (refsF (A.length + names.length + 1) names))
      = .ok .nx [some (.v (.ref s)), some (.v (.tup wk)), some (.v (.tup ws)), some (.v (.int (p.length : Nat))), some (.v w), x5, x6] (NH A (inB (p ++ [w]) names) (refsF A.length names) (frB (p ++ [w]) names) (refsF (A.length + names.length + 1) names)) := by
  have ix : ∀ σ h, ixL P.wd σ (.v w) (.v (.int 0)) h = .ok (.v (.str (startOf w))) h ∧ ixL P.wd σ (.v w) (.v (.int 1)) h = .ok (.v (.str (endOf w).1)) h ∧ ixL P.wd σ (.v w) (.v (.int 2)) h = .ok (.v (.int (endOf w).2)) h := fun σ h => by
    obtain ⟨fi, far, room, e⟩ := wi.sh
    refine ⟨?_, ?_, ?_⟩ <;> (conv => lhs; rw [e]) <;> simp
  have ix0 := fun σ h => (ix σ h).1
  have ix1 := fun σ h => (ix σ h).2.1
  have ix2 := fun σ h => (ix σ h).2.2
  have lI : ∀ p, (inB p names).length = names.length := fun p => List.length_map ..
  have lF : ∀ p, (frB p names).length = names.length := fun p => List.length_map ..
  have i1 := List.idxOf_lt_length_iff.mpr m1
  have i2 := List.idxOf_lt_length_iff.mpr m2
  have g0 : ∀ L I M F, (NH A L I M F)[s]? = some (.ins "Net" (netFs wk ws A.length)) := fun L I M F => (NH_a A L M I F hs).trans eA
  have k1 : (netFs wk ws A.length).lookup ("into" : Str) = some (.ref (A.length + names.length)) := by rw [en]; rfl
  have k2 : (netFs wk ws A.length).lookup ("from_there" : Str) = some (.ref (A.length + names.length + 1 + names.length)) := by rw [en]; rfl
  have g1 : ∀ I M F, (NH A (inB p names) I M F)[A.length + names.length]? = some (.dct I) := fun I M F => by
    have := NH_i A (inB p names) M I F
    rwa [lI] at this
  have g2 : ∀ q I F, (NH A (inB q names) I (frB p names) F)[A.length + names.length + 1 + names.length]? = some (.dct F) := fun q I F => by
    have := NH_f A (inB q names) (frB p names) I F
    rwa [lI, lF] at this
  have r1 := refs_look A.length m1
  have r2 := refs_look (A.length + names.length + 1) m2
  have h1 : ∀ I M F, (NH A (inB p names) I M F)[A.length + names.idxOf (endOf w).1]? = some (.lst (intoF p (endOf w).1)) := fun I M F => by
    rw [NH_l A (inB p names) M I F (by rw [lI]; exact i1), List.getElem?_map, List.getElem?_eq_getElem i1]
    simp
  have h2 : ∀ q I F, (NH A (inB q names) I (frB p names) F)[A.length + names.length + 1 + names.idxOf (startOf w)]? = some (.lst (fromF p (startOf w))) := fun q I F => by
    have := NH_m A (inB q names) (frB p names) I F (i := names.idxOf (startOf w)) (by rw [lF]; exact i2)
    rw [lI] at this
    rw [this, List.getElem?_map, List.getElem?_eq_getElem i2]
    simp
  have s1 : ∀ I M F, (NH A (inB p names) I M F).set (A.length + names.idxOf (endOf w).1) (.lst (intoF p (endOf w).1 ++ [.tup [.int (endOf w).2, .int (p.length : Nat)]])) = NH A (inB (p ++ [w]) names) I M F := fun I M F => by
    rw [NH_setl A (inB p names) M I F (by rw [lI]; exact i1), map_set nd m1]
    refine congrArg (fun z => NH A z I M F) (List.map_congr_left fun x _ => ?_)
    rw [into_snoc]
    by_cases e : x = (endOf w).1
    · subst e; simp
    · simp [e]
  have s2 : ∀ q I F, (NH A (inB q names) I (frB p names) F).set (A.length + names.length + 1 + names.idxOf (startOf w)) (.lst (fromF p (startOf w) ++ [.int (p.length : Nat)])) = NH A (inB q names) I (frB (p ++ [w]) names) F := fun q I F => by
    have := NH_setm A (inB q names) (frB p names) I F (i := names.idxOf (startOf w)) (by rw [lF]; exact i2) (.lst (fromF p (startOf w) ++ [.int (p.length : Nat)]))
    rw [lI] at this
    rw [this, map_set nd m2]
    refine congrArg (fun z => NH A (inB q names) I z F) (List.map_congr_left fun x _ => ?_)
    rw [from_snoc]
    by_cases e : x = startOf w
    · subst e; simp
    · simp [e]
  have l1 : (intoF p (endOf w).1).length < SL := Nat.lt_of_le_of_lt (into_len ..) (by show _ < 16777216; omega)
  have l2 : (fromF p (startOf w)).length < SL := Nat.lt_of_le_of_lt (from_len ..) (by show _ < 16777216; omega)
  have sl : (2 : Nat) ≤ SL := by decide
  generalize hI : refsF A.length names = I at *
  generalize hF : refsF (A.length + names.length + 1) names = F at *
  generalize hNH : NH A (inB p names) I (frB p names) F = H0 at *
  have e1 : forB (Γn P k) (.tp [.nm 3, .nm 4]) nbE (.tup [.int (p.length : Nat), w]) [some (.v (.ref s)), some (.v (.tup wk)), some (.v (.tup ws)), a, b, x5, x6] H0 = evSs (Γn P k) nbE [some (.v (.ref s)), some (.v (.tup wk)), some (.v (.tup ws)), some (.v (.int (p.length : Nat))), some (.v w), x5, x6] H0 := by
    simp only [forB, asgT_tp, asgTs_cons, asgTs_nil, asgT_nm, Option.bind_some, liftS_some, SO.seq_nx]
    rfl
  rw [e1]
  have t1 := g0 (inB p names) I (frB p names) F
  have t2 := g1 I (frB p names) F
  have t3 := h1 I (frB p names) F
  have t4 := s1 I (frB p names) F
  rw [hNH] at t1 t2 t3 t4
  have u1 := g0 (inB (p ++ [w]) names) I (frB p names) F
  have u2 := g2 (p ++ [w]) I F
  have u3 := h2 (p ++ [w]) I F
  have u4 := s2 (p ++ [w]) I F
  generalize NH A (inB (p ++ [w]) names) I (frB p names) F = H1 at *
  simp [-List.append_assoc, t1, t2, t3, t4, u1, u2, u3, u4, ix0, ix1, ix2, c.f4, c.f5, k1, k2, r1, r2, l1, l2, sl]
theorem init_loop {A : Hs} {s : Nat} {wk ws : List T} {names : List Str} (en : names.length = wk.length) (hs : s < A.length) (eA : A[s]? = some (.ins "Net" (netFs wk ws A.length))) (nd : names.Nodup) : ∀ (l p : List T) (a b x5 x6 : Option Sl), (∀ w ∈ l, WireIs w ∧ (endOf w).1 ∈ names ∧ startOf w ∈ names) → p.length + l.length ≤ 4000 →
    ∃ a' b', forL (forB (Γn P k) (.tp [.nm 3, .nm 4]) nbE) none (numF p.length l) [some (.v (.ref s)), some (.v (.tup wk)), some (.v (.tup ws)), a, b, x5, x6] (NH A (inB p names) (refsF A.length names) (frB p names) (refsF (A.length + names.length + 1) names))
      = .ok .nx [some (.v (.ref s)), some (.v (.tup wk)), some (.v (.tup ws)), a', b', x5, x6] (NH A (inB (p ++ l) names) (refsF A.length names) (frB (p ++ l) names) (refsF (A.length + names.length + 1) names))
  | [], p, a, b, x5, x6, _, _ => ⟨a, b, by rw [show numF p.length [] = [] from rfl, forL_nil, List.append_nil]⟩
  | w :: l, p, a, b, x5, x6, hl, hp => by
    obtain ⟨q1, q2, q3⟩ := hl w (by simp)
    simp only [List.length_cons] at hp
    rw [show numF p.length (w :: l) = .tup [.int (p.length : Nat), w] :: numF (p.length + 1) l from rfl, forL_cons, init_turn n c k en hs eA nd q1 q2 q3 p (by omega), SO.turn_nx]
    have ih := init_loop en hs eA nd l (p ++ [w]) (some (.v (.int (p.length : Nat)))) (some (.v w)) x5 x6 (fun w m => hl w (by simp [m])) (by simp; omega)
    simpa using ih
abbrev nbB : List S := [.setA (.var 0) "held_works" (.var 1), .setA (.var 0) "held_wires" (.var 2)]
abbrev nbC : List S := [.setA (.var 0) "by_name" (.dc (.ix (.var 5) (.c (.int 1))) (.var 5) (.nm 5) (.e (.var 1))), .lkf 0 "by_name"]
abbrev nbD (f : Str) : S := .setA (.var 0) f (.dc (.var 6) (.pr (.lst [])) (.nm 6) (.e (.op (.at "by_name") [.var 0])))
theorem init_b {s : Nat} {wk ws : List T} {h : Hs} (e : h[s]? = some (.ins "Net" [])) (a b x5 x6 : Option Sl) :
    evSs (Γn P k) nbB [some (.v (.ref s)), some (.v (.tup wk)), some (.v (.tup ws)), a, b, x5, x6] h = .ok .nx [some (.v (.ref s)), some (.v (.tup wk)), some (.v (.tup ws)), a, b, x5, x6] (h.set s (.ins "Net" (fs2 wk ws))) := by
  have hs := (List.getElem?_eq_some_iff.mp e).1
  have q1 := fun σ => setFS_ref σ h (cz := P.cs) (.tup wk) e c.f1 (by simp)
  have q2 := fun σ => setFS_ref σ (h.set s (.ins "Net" (fs1 wk))) (cz := P.cs) (.tup ws) (List.getElem?_set_self hs) c.f2 (by show 1 < 1000; decide)
  have p1 : putA "held_works" (.tup wk) [] = (fs1 wk) := rfl
  have p2 : putA "held_wires" (.tup ws) (fs1 wk) = (fs2 wk ws) := rfl
  rw [p1] at q1
  rw [p2] at q2
  simp [q1, q2]
theorem init_c {s : Nat} {wk ws : List T} {h : Hs} {fs : List (Str × T)} (e : h[s]? = some (.ins "Net" fs)) (hl : fs.length < 999) (hk : ∀ t ∈ wk, workB t = true) (nd : (wk.map nameOf).Nodup) (hw : wk.length ≤ 4000) (a b x5 x6 : Option Sl) :
    evSs (Γn P k) nbC [some (.v (.ref s)), some (.v (.tup wk)), some (.v (.tup ws)), a, b, x5, x6] h = .ok .nx [some (.v (.ref s)), some (.v (.tup wk)), some (.v (.tup ws)), a, b, x5, x6] (h.set s (.ins "Net" (putA "by_name" (.dct (byF wk)) fs)) ++ [.dead]) := by
  have hs := (List.getElem?_eq_some_iff.mp e).1
  have l1 : dcL (dcT (Γn P k) (.ix (.var 5) (.c (.int 1))) (.var 5) (.nm 5) [some (.v (.ref s)), some (.v (.tup wk)), some (.v (.tup ws)), a, b, x5, x6]) none wk [] h = .ok (byF wk) h := by
    rw [dcL_works wk [] (fun t ht => ?_) nd (fun _ _ => rfl) (by show 0 + wk.length ≤ 16777216; omega)]
    · rfl
    · obtain ⟨r, z, et⟩ := workB_ix (hk t ht)
      have ix : ∀ σ, ixL P.wd σ (.v t) (.v (.int 1)) h = .ok (.v (.str (nameOf t))) h := fun σ => by
        conv => lhs; rw [et]
        simp
      simp [dcT, Tg.ixs, wipeT, ix]
      rfl
  have e' : (h ++ [.dct (byF wk)])[s]? = some (.ins "Net" fs) := by rw [List.getElem?_append_left hs]; exact e
  have q1 := fun σ => setFS_ref σ (h ++ [.dct (byF wk)]) (cz := P.cs) (.ref h.length) e' c.f3 (by omega)
  have s1 : ∀ x, (h ++ [HOb.dct (byF wk)]).set s x = h.set s x ++ [.dct (byF wk)] := fun x => List.set_append_left _ _ hs
  have q2 : lkfS [some (.v (.ref s)), some (.v (.tup wk)), some (.v (.tup ws)), a, b, x5, x6] 0 "by_name" ((h ++ [HOb.dct (byF wk)]).set s (.ins "Net" (putA "by_name" (.ref h.length) fs))) = some (h.set s (.ins "Net" (putA "by_name" (.dct (byF wk)) fs)) ++ [.dead]) := by
    rw [s1]
    have t1 : (h.set s (.ins "Net" (putA "by_name" (.ref h.length) fs)) ++ [HOb.dct (byF wk)])[s]? = some (.ins "Net" (putA "by_name" (.ref h.length) fs)) := by
      rw [List.getElem?_append_left (by rw [List.length_set]; exact hs), List.getElem?_set_self hs]
    have t2 : (h.set s (.ins "Net" (putA "by_name" (.ref h.length) fs)) ++ [HOb.dct (byF wk)])[h.length]? = some (.dct (byF wk)) := by
      rw [List.getElem?_append_right (by rw [List.length_set]; omega), List.length_set]
      simp
    unfold lkfS
    rw [List.getElem?_cons_zero]
    simp only [t1, putA_lookup, t2, putA_putA]
    rw [List.set_append_right _ _ (by rw [List.length_set]; omega), List.length_set, Nat.sub_self, List.set_cons_zero, List.set_append_left _ _ (by rw [List.length_set]; exact hs), List.set_set]
  rw [evSs_cons, evS_setA]
  simp only [evE_dc, evIt_e, evE_var, List.getElem?_cons_zero, List.getElem?_cons_succ, varE_v, Out.bind_ok, walkL_v, walkT_tup, lift_some, l1, sb_ok, q1, SO.seq_nx, evSs_cons, evS_lkf]
  rw [q2]
  simp only [lkfL_some, SO.seq_nx, evSs_nil]
theorem init_d {s : Nat} {wk ws : List T} {h : Hs} {fs : List (Str × T)} {f : Str} (e : h[s]? = some (.ins "Net" fs)) (hl : fs.length < 999) (cf : P.cs.at_ "Net" f = true) (eb : fs.lookup ("by_name" : Str) = some (.dct (byF wk))) (nd : (wk.map nameOf).Nodup) (hw : wk.length ≤ 4000) (a b x5 x6 : Option Sl) :
    evS (Γn P k) (nbD f) [some (.v (.ref s)), some (.v (.tup wk)), some (.v (.tup ws)), a, b, x5, x6] h = .ok .nx [some (.v (.ref s)), some (.v (.tup wk)), some (.v (.tup ws)), a, b, x5, x6] (h.set s (.ins "Net" (putA f (.ref (h.length + wk.length)) fs)) ++ (List.replicate wk.length (.lst []) ++ [.dct (refsF h.length (wk.map nameOf))])) := by
  have hs := (List.getElem?_eq_some_iff.mp e).1
  have l1 := dcL_push (f := dcT (Γn P k) (.var 6) (.pr (.lst [])) (.nm 6) [some (.v (.ref s)), some (.v (.tup wk)), some (.v (.tup ws)), a, b, x5, x6]) (fun x h => by
    simp [dcT, Tg.ixs, wipeT, SL]
    rfl) (wk.map nameOf) [] h nd (fun _ _ => rfl) (by simp; show _ ≤ 16777216; omega)
  rw [List.length_map, List.nil_append] at l1
  have ek : (byF wk).map (fun kv => keyU kv.1) = (wk.map nameOf).map T.str := by
    unfold byF
    rw [List.map_map, List.map_map]; rfl
  have e' : ((h ++ List.replicate wk.length (HOb.lst [])) ++ [.dct (refsF h.length (wk.map nameOf))])[s]? = some (.ins "Net" fs) := by rw [List.append_assoc, List.getElem?_append_left hs]; exact e
  have q1 := fun σ => setFS_ref σ ((h ++ List.replicate wk.length (HOb.lst [])) ++ [.dct (refsF h.length (wk.map nameOf))]) (cz := P.cs) (.ref (h.length + wk.length)) e' cf (by omega)
  have s1 : ∀ x, ((h ++ List.replicate wk.length (HOb.lst [])) ++ [HOb.dct (refsF h.length (wk.map nameOf))]).set s x = h.set s x ++ (List.replicate wk.length (.lst []) ++ [.dct (refsF h.length (wk.map nameOf))]) := fun x => by rw [List.append_assoc, List.set_append_left _ _ hs]
  simp only [s1] at q1
  have ln : (h ++ List.replicate wk.length (HOb.lst [])).length = h.length + wk.length := by simp
  rw [evS_setA]
  simp only [evE_dc, evIt_e, evE_op, evRs_cons, evRs_nil, evE_var, List.getElem?_cons_zero, varE_v, Out.bind_ok, opX_at, e, atL_ins, c.f3, if_true, eb, Option.map_some, lift_some, walkL_v, walkT_dct, ek, l1, ln, sb_ok, q1]
theorem init_e {s : Nat} {wk ws : List T} {h : Hs} (e : h[s]? = some (.ins "Net" [])) (hk : ∀ t ∈ wk, workB t = true) (nd : (wk.map nameOf).Nodup) (hw : wk.length ≤ 4000) (hv : ws.length ≤ 4000) (hi : ∀ w ∈ ws, WireIs w ∧ (endOf w).1 ∈ wk.map nameOf ∧ startOf w ∈ wk.map nameOf) :
    ∃ E σ, evSs (Γn P k) (nbB ++ (nbC ++ [nbD "into", nbD "from_there", .for (.tp [.nm 3, .nm 4]) (.en (.var 2)) nbE])) [some (.v (.ref s)), some (.v (.tup wk)), some (.v (.tup ws)), none, none, none, none] h = .ok .nx σ (h.set s (.ins "Net" (netFs wk ws (h.length + 1))) ++ E) ∧ IsNet (h.set s (.ins "Net" (netFs wk ws (h.length + 1))) ++ E) s wk ws := by
  have hs := (List.getElem?_eq_some_iff.mp e).1
  have B := init_b n c k (wk := wk) (ws := ws) e none none none none
  have e1 : (h.set s (.ins "Net" (fs2 wk ws)))[s]? = some (.ins "Net" (fs2 wk ws)) := List.getElem?_set_self hs
  have C := init_c n c k (wk := wk) (ws := ws) e1 (by show 2 < 999; decide) hk nd hw none none none none
  have p1 : putA "by_name" (.dct (byF wk)) (fs2 wk ws) = (fs3 wk ws) := rfl
  rw [List.set_set, p1] at C
  generalize h2e : h.set s (.ins "Net" (fs3 wk ws)) ++ [HOb.dead] = h2 at C
  have l2 : h2.length = h.length + 1 := by rw [← h2e]; simp
  have e2 : h2[s]? = some (.ins "Net" (fs3 wk ws)) := by
    rw [← h2e, List.getElem?_append_left (by rw [List.length_set]; exact hs), List.getElem?_set_self hs]
  have D := init_d n c k (wk := wk) (ws := ws) (f := "into") e2 (by show 3 < 999; decide) c.f4 rfl nd hw none none none none
  have p2 : putA "into" (.ref (h2.length + wk.length)) (fs3 wk ws) = (fs4 wk ws (h2.length + wk.length)) := rfl
  rw [p2] at D
  generalize h3e : h2.set s (.ins "Net" (fs4 wk ws (h2.length + wk.length))) ++ (List.replicate wk.length (.lst []) ++ [.dct (refsF h2.length (wk.map nameOf))]) = h3 at D
  have l3 : h3.length = h2.length + wk.length + 1 := by rw [← h3e]; simp; omega
  have hs2 : s < h2.length := by omega
  have e3 : h3[s]? = some (.ins "Net" (fs4 wk ws (h2.length + wk.length))) := by
    rw [← h3e, List.getElem?_append_left (by rw [List.length_set]; exact hs2), List.getElem?_set_self hs2]
  have D2 := init_d n c k (wk := wk) (ws := ws) (f := "from_there") e3 (by show 4 < 999; decide) c.f5 rfl nd hw none none none none
  have p3 : putA "from_there" (.ref (h3.length + wk.length)) (fs4 wk ws (h2.length + wk.length)) = netFs wk ws h2.length := by rw [l3]; rfl
  rw [p3] at D2
  have ln : (wk.map nameOf).length = wk.length := List.length_map ..
  have i0 : inB [] (wk.map nameOf) = List.replicate wk.length (.lst []) := by
    rw [← ln]
    show (wk.map nameOf).map (fun _ => HOb.lst []) = _
    exact List.map_const' ..
  have f0 : frB [] (wk.map nameOf) = List.replicate wk.length (.lst []) := by
    rw [← ln]
    show (wk.map nameOf).map (fun _ => HOb.lst []) = _
    exact List.map_const' ..
  have hA : (h2.set s (HOb.ins "Net" (netFs wk ws h2.length))).length = h2.length := List.length_set ..
  have h4e : h3.set s (.ins "Net" (netFs wk ws h2.length)) ++ (List.replicate wk.length (.lst []) ++ [.dct (refsF h3.length (wk.map nameOf))]) = NH (h2.set s (.ins "Net" (netFs wk ws h2.length))) (inB [] (wk.map nameOf)) (refsF (h2.set s (HOb.ins "Net" (netFs wk ws h2.length))).length (wk.map nameOf)) (frB [] (wk.map nameOf)) (refsF ((h2.set s (HOb.ins "Net" (netFs wk ws h2.length))).length + (wk.map nameOf).length + 1) (wk.map nameOf)) := by
    rw [hA, ln, ← l3, i0, f0, ← h3e, List.set_append_left _ _ (by rw [List.length_set]; exact hs2), List.set_set]
    simp [NH]
  rw [h4e] at D2
  obtain ⟨a', b', L⟩ := init_loop n c k (A := h2.set s (.ins "Net" (netFs wk ws h2.length))) (s := s) (wk := wk) (ws := ws) ln (by rw [hA]; exact hs2) (by rw [hA, List.getElem?_set_self hs2]) nd ws [] none none none none hi (by simp; omega)
  rw [List.nil_append] at L
  have fin : NH (h2.set s (.ins "Net" (netFs wk ws h2.length))) (inB ws (wk.map nameOf)) (refsF (h2.set s (HOb.ins "Net" (netFs wk ws h2.length))).length (wk.map nameOf)) (frB ws (wk.map nameOf)) (refsF ((h2.set s (HOb.ins "Net" (netFs wk ws h2.length))).length + (wk.map nameOf).length + 1) (wk.map nameOf))
      = h.set s (.ins "Net" (netFs wk ws (h.length + 1))) ++ (HOb.dead :: (inB ws (wk.map nameOf) ++ .dct (refsF h2.length (wk.map nameOf)) :: (frB ws (wk.map nameOf) ++ [.dct (refsF (h2.length + wk.length + 1) (wk.map nameOf))]))) := by
    rw [hA, ln, NH, ← l2]
    conv => lhs; arg 1; arg 1; rw [← h2e]
    rw [List.set_append_left _ _ (by rw [List.length_set]; exact hs), List.set_set]
    simp
  have isn : IsNet (NH (h2.set s (.ins "Net" (netFs wk ws h2.length))) (inB ws (wk.map nameOf)) (refsF (h2.set s (HOb.ins "Net" (netFs wk ws h2.length))).length (wk.map nameOf)) (frB ws (wk.map nameOf)) (refsF ((h2.set s (HOb.ins "Net" (netFs wk ws h2.length))).length + (wk.map nameOf).length + 1) (wk.map nameOf))) s wk ws := by
    have lI : (inB ws (wk.map nameOf)).length = wk.length := by simp
    have lF : (frB ws (wk.map nameOf)).length = wk.length := by simp
    have eA : (h2.set s (HOb.ins "Net" (netFs wk ws h2.length)))[s]? = some (HOb.ins "Net" (netFs wk ws h2.length)) := List.getElem?_set_self hs2
    generalize h2.set s (HOb.ins "Net" (netFs wk ws h2.length)) = A at *
    rw [← hA] at eA
    refine ⟨A.length, ?_, ?_, ?_, fun x m => ⟨?_, ?_⟩⟩
    · rw [NH_a _ _ _ _ _ (by omega)]; exact eA
    · have := NH_i A (inB ws (wk.map nameOf)) (frB ws (wk.map nameOf)) (refsF A.length (wk.map nameOf)) (refsF (A.length + (wk.map nameOf).length + 1) (wk.map nameOf))
      rwa [lI] at this
    · have := NH_f A (inB ws (wk.map nameOf)) (frB ws (wk.map nameOf)) (refsF A.length (wk.map nameOf)) (refsF (A.length + (wk.map nameOf).length + 1) (wk.map nameOf))
      rw [lI, lF] at this
      rw [this, ln]
    · have i1 := List.idxOf_lt_length_iff.mpr m
      rw [NH_l _ _ _ _ _ (by rw [lI]; omega), List.getElem?_map, List.getElem?_eq_getElem i1]
      simp
    · have i1 := List.idxOf_lt_length_iff.mpr m
      have := NH_m A (inB ws (wk.map nameOf)) (frB ws (wk.map nameOf)) (refsF A.length (wk.map nameOf)) (refsF (A.length + (wk.map nameOf).length + 1) (wk.map nameOf)) (i := (wk.map nameOf).idxOf x) (by rw [lF]; omega)
      rw [lI] at this
      rw [this, List.getElem?_map, List.getElem?_eq_getElem i1]
      simp
  rw [fin] at isn
  refine ⟨_, [some (.v (.ref s)), some (.v (.tup wk)), some (.v (.tup ws)), a', b', none, none], ?_, isn⟩
  · rw [evSs_app, B, SO.seq_nx, evSs_app, C, SO.seq_nx, evSs_cons, D, SO.seq_nx, evSs_cons, D2, SO.seq_nx, evSs_cons, evS_for, evIt_en]
    simp only [evE_var, List.getElem?_cons_succ, List.getElem?_cons_zero, varE_v, Out.bind_ok, enumL_tup, lift_some, sb_ok, numT_eq]
    rw [show (0 : Nat) = ([] : List T).length from rfl, L, SO.seq_nx, evSs_nil, fin]
end
/-- why it is no net -/
def netX (wk ws : List T) : Option (Str × Int) := match lookWorks wk with
  | .error j => some ("works", j)
  | .ok names => match lookWires names ws with
    | .error j => some ("wires", j)
    | .ok _ => (insX ws 0 wk).map fun j => ("ins", j)
theorem nbN_eq : nbN = [.expr (.call 8 [.var 1]), .expr (.call 9 [.var 1, .var 2]), .expr (.call 11 [.var 1, .var 2])] ++ (nbB ++ (nbC ++ [nbD "into", nbD "from_there", .for (.tp [.nm 3, .nm 4]) (.en (.var 2)) nbE])) := rfl
theorem lookWorks_ok {wk : List T} {ns : List Str} (e : lookWorks wk = .ok ns) : ns = wk.map nameOf ∧ (∀ t ∈ wk, workB t = true) ∧ (wk.map nameOf).Nodup ∧ 1 ≤ wk.length ∧ wk.length ≤ 40 := by
  unfold lookWorks at e
  split at e
  · rename_i q
    obtain ⟨a, b, d⟩ := worksX_ok e
    rw [List.nil_append] at a
    exact ⟨a, b, a ▸ d List.nodup_nil, q.1, q.2⟩
  · cases e
theorem lookWires_ok {names : List Str} {ws : List T} {r : List (Str × Int)} (e : lookWires names ws = .ok r) : (∀ t ∈ ws, wireB names t = true) ∧ ws.length ≤ 100 := by
  unfold lookWires at e
  split at e
  · rename_i q
    exact ⟨wiresX_ok e, q⟩
  · cases e
section
variable {P : Pg} {iN : Nat} (n : NetP P) (c : NetC P iN) (k : Nat)
include n c
/-- Net(works, wires): __init__ -/
theorem w_init {wk ws : List T} (hk : ∀ t ∈ wk, fineT t = true ∧ depT t ≤ 60) (hf : ∀ t ∈ ws, fineT t = true) (h0 : Hs) :
    (match netX wk ws with
      | none => ∃ h', callK P (k + 8) iN [.ref h0.length, .tup wk, .tup ws] (h0 ++ [.ins "Net" []]) = .ok (.v .non) h' ∧ Gr h0 h' ∧ IsNet h' h0.length wk ws
      | some (p, j) => ∃ h', callK P (k + 8) iN [.ref h0.length, .tup wk, .tup ws] (h0 ++ [.ins "Net" []]) = .ex (noNet p j) h' ∧ Gr h0 h') := by
  have st : startT nfN.n [.ref h0.length, .tup wk, .tup ws] = [some (.v (.ref h0.length)), some (.v (.tup wk)), some (.v (.tup ws)), none, none, none, none] := rfl
  rw [callK_eq (k := k + 5) c.dN, runD_eq _ _ _ rfl, st, show nfN.body = nbN from rfl, nbN_eq, evSs_app]
  have W := w_works n (k + 2) hk (h0 ++ [.ins "Net" []])
  unfold netX
  cases e1 : lookWorks wk with
  | error j =>
    rw [e1] at W
    obtain ⟨h1, W, g1⟩ := W
    have c1 : (Γn P (k + 5)).call 8 [.tup wk] (h0 ++ [.ins "Net" []]) = .ex (noNet "works" j) h1 := W
    exact ⟨h1, by simp [W], Gr.push.trans g1⟩
  | ok ns =>
    rw [e1] at W
    obtain ⟨h1, W, g1⟩ := W
    obtain ⟨rfl, o1, o2, o3, o4⟩ := lookWorks_ok e1
    have X := w_wires n k (wk := wk) (ws := ws) (fun t m => ⟨o1 t m, (hk t m).1⟩) o4 hf h1
    simp only []
    cases e2 : lookWires (wk.map nameOf) ws with
    | error j =>
      rw [e2] at X
      obtain ⟨h2, X, g2⟩ := X
      exact ⟨h2, by simp [W, X], Gr.push.trans (g1.trans g2)⟩
    | ok r =>
      rw [e2] at X
      obtain ⟨h2, X, g2⟩ := X
      obtain ⟨p1, p2⟩ := lookWires_ok e2
      have wi : ∀ w ∈ ws, WireIs w := fun w m => wireIs (p1 w m) (hf w m)
      have Y := w_ins n (k + 2) (wk := wk) (ws := ws) wi (by omega) h2 (fun t m => ⟨o1 t m, (hk t m).1⟩)
      cases e3 : insX ws 0 wk with
      | some j =>
        rw [e3] at Y
        obtain ⟨h3, Y, g3⟩ := Y
        exact ⟨h3, by simp [W, X, Y], Gr.push.trans (g1.trans (g2.trans g3))⟩
      | none =>
        rw [e3] at Y
        obtain ⟨h3, Y, g3⟩ := Y
        obtain ⟨e4, he⟩ := g1.trans (g2.trans g3)
        have e0 : h3[h0.length]? = some (.ins "Net" []) := (g1.trans (g2.trans g3)).get (by simp)
        obtain ⟨E, σ, Z, isn⟩ := init_e n c (k + 5) (wk := wk) (ws := ws) e0 o1 o2 (by omega) (by omega) (fun w m => by
          obtain ⟨s, fi, far, room, et, q1, q2⟩ := wireB_shape (p1 w m)
          have es : startOf w = s := by rw [et]; rfl
          exact ⟨wi w m, oneOf_mem q2, es ▸ oneOf_mem q1⟩)
        refine ⟨_, ?_, ?_, isn⟩
        · have A : evSs (Γn P (k + 5)) [.expr (.call 8 [.var 1]), .expr (.call 9 [.var 1, .var 2]), .expr (.call 11 [.var 1, .var 2])] [some (.v (.ref h0.length)), some (.v (.tup wk)), some (.v (.tup ws)), none, none, none, none] (h0 ++ [.ins "Net" []]) = .ok .nx [some (.v (.ref h0.length)), some (.v (.tup wk)), some (.v (.tup ws)), none, none, none, none] h3 := by
            simp [W, X, Y]
          rw [A, SO.seq_nx, Z]
          rfl
        · rw [he]
          refine ⟨[.ins "Net" (netFs wk ws ((h0 ++ [HOb.ins "Net" []] ++ e4).length + 1))] ++ e4 ++ E, ?_⟩
          rw [List.append_assoc h0, List.set_append_right _ _ (Nat.le_refl _), Nat.sub_self]
          simp
end
end VY
namespace VY
open PySem L2
@[simp] theorem opL_va (σ : Slots) (h : Hs) (op : Operator) (t : T) (l : List T) : opL σ op (.v t) (.al l) h = lift (opR op (seen h t) (.lst l)) h := (rfl)
@[simp] theorem opL_aa (σ : Slots) (h : Hs) (op : Operator) (l m : List T) : opL σ op (.al l) (.al m) h = lift (opR op (.lst l) (.lst m)) h := (rfl)
theorem cp_app (a b : Str) : (a ++ b).cps.toList = a.cps.toList ++ b.cps.toList := Array.toList_append
theorem len_cp (a : Str) : a.length = a.cps.toList.length := Array.length_toList.symm
theorem str_ext {a b : Str} (e : a.cps.toList = b.cps.toList) : a = b := by
  cases a; cases b
  simp only at e
  congr 1
  exact Array.toList_inj.mp e
theorem cp_join : ∀ ys : List Str, (Txt.join "" ys).cps.toList = (ys.map fun y => y.cps.toList).flatten := by
  intro ys
  rw [show Txt.join "" ys = Str.join "" ys from StrLaws.glued_eq_join _ _]
  induction ys with
  | nil => rfl
  | cons x r ih =>
    cases r with
    | nil => simp [Str.join]
    | cons y r =>
      rw [show Str.join "" (x :: y :: r) = x ++ "" ++ Str.join "" (y :: r) from rfl, cp_app, cp_app, ih]
      have z : (Str.ofString "").cps.toList = [] := by decide
      rw [z]
      simp
theorem az_at : ∀ j : Nat, j < 26 → L2.atI azS.cps.toList (j : Int) = some (97 + j) := by
  have : ∀ j : Fin 26, L2.atI azS.cps.toList ((j : Nat) : Int) = some (97 + (j : Nat)) := by decide +kernel
  exact fun j h => this ⟨j, h⟩
theorem az_len : azS.length = 26 := by decide +kernel
theorem az_cps : azS.cps.toList = (List.range 26).map (97 + ·) := by decide +kernel
theorem az_mem (c : Nat) : c ∈ azS.cps.toList ↔ 97 ≤ c ∧ c ≤ 122 := by
  rw [az_cps, List.mem_map]
  constructor
  · rintro ⟨a, h, rfl⟩
    rw [List.mem_range] at h
    omega
  · intro h
    exact ⟨c - 97, by rw [List.mem_range]; omega, by omega⟩
theorem az_ix (j : Nat) (h : j < 26) : ixR (.str azS) (.int j) = some (.str ⟨#[97 + j]⟩) := by
  show (if azS.length ≤ SL then (L2.atI azS.cps.toList (j : Int)).map fun c => T.str ⟨#[c]⟩ else none) = _
  rw [az_len, if_pos (by decide), az_at j h]
  rfl
theorem nameS_iff {s : Str} : nameS s = true ↔ 1 ≤ s.cps.toList.length ∧ s.cps.toList.length ≤ 8 ∧ ∀ c ∈ s.cps.toList, 97 ≤ c ∧ c ≤ 122 := by
  unfold nameS
  rw [len_cp]
  simp only [Bool.and_eq_true, decide_eq_true_eq, List.all_eq_true, az_mem]
  constructor
  · rintro ⟨⟨a, b⟩, c⟩; exact ⟨a, b, c⟩
  · rintro ⟨a, b, c⟩; exact ⟨⟨a, b⟩, c⟩
theorem nameS_ok {s : Str} (e : nameS s = true) : PyData.strOk s = true := by
  have h := (nameS_iff.mp e).2.2
  unfold PyData.strOk
  rw [Array.all_eq_true']
  intro x hx
  have := h x (Array.mem_toList_iff.mpr hx)
  exact decide_eq_true (by omega)
theorem nameS_len {s : Str} (e : nameS s = true) : s.length ≤ 8 := by
  rw [len_cp]; exact (nameS_iff.mp e).2.1
theorem nameS_fine {s : Str} (e : nameS s = true) : fineT (.str s) = true := by
  have := nameS_len e
  simp [fineT, nameS_ok e]
  omega
theorem lcL_inv {f : T → Hs → Out (Option T)} (I : Nat → Hs → Prop) (Q : T → Prop) : ∀ (xs acc : List T) (k : Nat) (h : Hs), I k h → (∀ x ∈ xs, ∀ j, k ≤ j → j < k + xs.length → ∀ h, I j h → ∃ y h', f x h = .ok (some y) h' ∧ Q y ∧ I (j + 1) h') → acc.length + xs.length ≤ SL →
    ∃ ys h', lcL f none xs acc h = .ok (acc ++ ys) h' ∧ ys.length = xs.length ∧ (∀ y ∈ ys, Q y) ∧ I (k + xs.length) h'
  | [], acc, k, h, i, _, _ => ⟨[], h, by rw [lcL_nil, List.append_nil], rfl, fun _ m => (List.not_mem_nil m).elim, i⟩
  | x :: xs, acc, k, h, i, st, hl => by
    simp only [List.length_cons] at hl st
    obtain ⟨y, h1, e1, q1, i1⟩ := st x (by simp) k (by omega) (by omega) h i
    obtain ⟨ys, h2, e2, l2, q2, i2⟩ := lcL_inv I Q xs (acc ++ [y]) (k + 1) h1 i1 (fun x m j a b => st x (by simp [m]) j (by omega) (by omega)) (by simp; omega)
    refine ⟨y :: ys, h2, ?_, by simp [l2], ?_, ?_⟩
    · rw [lcL, if_pos (gdB_none h), e1, Out.bind_ok]
      simp only []
      rw [if_pos (by omega), e2]
      simp
    · intro z m
      rcases List.mem_cons.mp m with rfl | m
      · exact q1
      · exact q2 z m
    · rw [List.length_cons, show k + (xs.length + 1) = k + 1 + xs.length by omega]; exact i2
/-- the def that draws -/
abbrev fdTake1 : FD := ⟨2, 7, takeB1⟩
section
variable {P : Pg} {t : Nat} (ht : P.ds[t]? = some fdTake1) (k : Nat)
include ht
theorem w_take {n b : Nat} {h : Hs} (bg : Bag1 h n b) (hb : b < 2 ^ 20) (many : Nat) (hm : 0 < many) (hl : many < 2 ^ 64) :
    ∃ (d : Nat) (h' : Hs), callK P (k + 3) t [.ref n, .int (many : Int)] h = .ok (.v (.int (d : Int))) h' ∧ d < many ∧ Bag1 h' n (b + 1) ∧ Only1 h h' n := by
  rw [callK_eq ht]
  obtain ⟨d, h', e, h0, h1, h2, h3⟩ := take1 ⟨callK P (k + 2), callK P (k + 1), P.gv, P.ix, P.wd, P.cs⟩ (many := (many : Int)) bg (by omega) (by
    have : (many : Int).natAbs = many := rfl
    rw [this]
    have := (Nat.log2_lt (n := many) (k := 64) (by omega)).mpr hl
    omega) hb
  refine ⟨d.toNat, h', ?_, by omega, h2, h3⟩
  rw [e]
  congr 3
  omega
end
def namesT (t : Nat) : List S := [.asg 2 (.c (.str "abcdefghijklmnopqrstuvwxyz")), .par2 5 6 (.call t [.var 0, .c (.int 26)]) (.call t [.var 0, .c (.int 2)]), .asg 3 (.lst []), .for (.nm 4) (.r1 (.var 1)) [.asg 7 (.mth .join (.c (.str "")) [.lc (.ix (.var 2) (.call t [.var 0, .c (.int 26)])) (.nm 9) (.r1 (.ix (.lst [.c (.int 0), .c (.int 0), .c (.int 1), .c (.int 2), .c (.int 6)]) (.call t [.var 0, .c (.int 5)]))) .yes]), .asg 8 (.bin .Add (.ix (.var 2) (.bin .Mod (.bin .Add (.var 5) (.bin .Mult (.c (.int 7)) (.var 4))) (.c (.int 26)))) (.bin .Mult (.ix (.var 2) (.bin .FloorDiv (.var 4) (.c (.int 26)))) (.blt .int [.cmp .Gt (.var 1) (.c (.int 26))]))), .app 3 (.ife (.t (.cmp .Eq (.var 6) (.c (.int 0)))) (.bin .Add (.var 8) (.var 7)) (.bin .Add (.var 7) (.var 8)))], .retS 3]
abbrev stemE (t : Nat) : E := .mth .join (.c (.str "")) [.lc (.ix (.var 2) (.call t [.var 0, .c (.int 26)])) (.nm 9) (.r1 (.ix (.lst [.c (.int 0), .c (.int 0), .c (.int 1), .c (.int 2), .c (.int 6)]) (.call t [.var 0, .c (.int 5)]))) .yes]
def nmB (t : Nat) : List S := [.asg 7 (stemE t), .asg 8 (.bin .Add (.ix (.var 2) (.bin .Mod (.bin .Add (.var 5) (.bin .Mult (.c (.int 7)) (.var 4))) (.c (.int 26)))) (.bin .Mult (.ix (.var 2) (.bin .FloorDiv (.var 4) (.c (.int 26)))) (.blt .int [.cmp .Gt (.var 1) (.c (.int 26))]))), .app 3 (.ife (.t (.cmp .Eq (.var 6) (.c (.int 0)))) (.bin .Add (.var 8) (.var 7)) (.bin .Add (.var 7) (.var 8)))]
/-- letters only, so many -/
def azL (l : List Nat) : Prop := ∀ c ∈ l, 97 ≤ c ∧ c ≤ 122
/-- the context of a call -/
abbrev Γc (P : Pg) (k : Nat) : VY.Ctx := ⟨callK P (k + 2), callK P (k + 1), P.gv, P.ix, P.wd, P.cs⟩
theorem strs_ok : ∀ l : List Str, strsOf (l.map .str) = some l
  | [] => rfl
  | x :: l => by rw [List.map_cons, strsOf, strs_ok l]; rfl
section
variable {P : Pg} {t : Nat} (ht : P.ds[t]? = some fdTake1) (k : Nat)
include ht
theorem stem_ev {n b : Nat} {h : Hs} (bg : Bag1 h n b) (hb : b + 7 < 2 ^ 20) (a1 a3 a4 a5 a6 a7 a8 a9 : Option Sl) : ∃ (st : Str) (h' : Hs), evE (Γc P (k + 1)) (stemE t) [some (.v (.ref n)), a1, some (.v (.str azS)), a3, a4, a5, a6, a7, a8, a9] h = .ok (.v (.str st)) h' ∧ st.cps.toList.length ≤ 6 ∧ azL st.cps.toList ∧ Bag1 h' n (b + 7) ∧ Only1 h h' n := by
  obtain ⟨d, h1, e1, d1, b1, o1⟩ := w_take ht k bg (by omega) 5 (by decide) (by decide)
  obtain ⟨m, hm, em⟩ : ∃ m : Nat, m ≤ 6 ∧ L2.atI [T.int 0, .int 0, .int 1, .int 2, .int 6] (d : Int) = some (.int (m : Int)) := by
    have : d = 0 ∨ d = 1 ∨ d = 2 ∨ d = 3 ∨ d = 4 := by omega
    rcases this with rfl | rfl | rfl | rfl | rfl
    · exact ⟨0, by decide, rfl⟩
    · exact ⟨0, by decide, rfl⟩
    · exact ⟨1, by decide, rfl⟩
    · exact ⟨2, by decide, rfl⟩
    · exact ⟨6, by decide, rfl⟩
  obtain ⟨ys, h2, e2, l2, q2, b2, o2⟩ := lcL_inv (f := lcT (Γc P (k + 1)) (.ix (.var 2) (.call t [.var 0, .c (.int 26)])) (.nm 9) .yes [some (.v (.ref n)), a1, some (.v (.str azS)), a3, a4, a5, a6, a7, a8, a9])
    (fun j h' => Bag1 h' n (b + 1 + j) ∧ Only1 h h' n) (fun y => ∃ c : Nat, (97 ≤ c ∧ c ≤ 122) ∧ y = .str ⟨#[c]⟩) ((List.range m).map fun k : Nat => .int k) [] 0 h1 ⟨by simpa using b1, o1⟩ (fun x _ j j1 j2 h' q => by
      obtain ⟨q1, q2⟩ := q
      simp only [List.length_map, List.length_range] at j2
      obtain ⟨c, h3, e3, c3, b3, o3⟩ := w_take ht k q1 (by omega) 26 (by decide) (by decide)
      have ix := az_ix c c3
      refine ⟨.str ⟨#[97 + c]⟩, h3, ?_, ⟨97 + c, by omega, rfl⟩, b3, q2.trans o3⟩
      have e3' : callK P (k + 3) t [.ref n, .int 26] h' = .ok (.v (.int (c : Int))) h3 := e3
      simp [lcT, Tg.ixs, wipeT, e3', ix]
      rfl) (by simp; show m ≤ 16777216; omega)
  rw [List.length_map, List.length_range] at l2 b2
  have rg := rng0 (j := (m : Int)) rfl (by omega)
  obtain ⟨zs, ez, hz⟩ : ∃ zs : List Str, ys = zs.map .str ∧ ∀ z ∈ zs, ∃ c : Nat, (97 ≤ c ∧ c ≤ 122) ∧ z = ⟨#[c]⟩ := by
    clear e2 l2
    induction ys with
    | nil => exact ⟨[], rfl, fun _ m => (List.not_mem_nil m).elim⟩
    | cons y r ih =>
      obtain ⟨zs, e, q⟩ := ih (fun y m => q2 y (by simp [m]))
      obtain ⟨c, hc, rfl⟩ := q2 y (by simp)
      refine ⟨⟨#[c]⟩ :: zs, by rw [e]; rfl, fun z m => ?_⟩
      rcases List.mem_cons.mp m with rfl | m
      · exact ⟨c, hc, rfl⟩
      · exact q z m
  subst ez
  rw [List.length_map] at l2
  have ls : (zs.map (·.length)).sum = zs.length := by
    clear e2 l2 q2
    induction zs with
    | nil => rfl
    | cons z r ih =>
      obtain ⟨c, _, rfl⟩ := hz z (by simp)
      rw [List.map_cons, List.sum_cons, ih (fun z m => hz z (by simp [m])), List.length_cons]
      show 1 + _ = _
      omega
  have lm : ∀ l : List Str, (∀ z ∈ l, ∃ c : Nat, (97 ≤ c ∧ c ≤ 122) ∧ z = ⟨#[c]⟩) → ((l.map fun y => y.cps.toList).flatten).length = l.length ∧ azL ((l.map fun y => y.cps.toList).flatten) := fun l => by
    induction l with
    | nil => intro _; exact ⟨rfl, fun _ m => (List.not_mem_nil m).elim⟩
    | cons z r ih =>
      intro hz
      obtain ⟨c, hc, rfl⟩ := hz z (by simp)
      obtain ⟨i1, i2⟩ := ih (fun z m => hz z (by simp [m]))
      refine ⟨by simp only [List.map_cons, List.flatten_cons, List.length_append, i1, List.length_cons]; show 1 + _ = _; omega, fun x m => ?_⟩
      rw [List.map_cons, List.flatten_cons] at m
      rcases List.mem_append.mp m with m | m
      · rw [List.mem_singleton.mp m]; exact hc
      · exact i2 x m
  obtain ⟨lm1, lm2⟩ := lm zs hz
  have el : (Str.ofString "").length = 0 := by decide
  refine ⟨Txt.join "" zs, h2, ?_, by rw [cp_join, lm1]; omega, by rw [cp_join]; exact lm2, b2.le (by omega), o2⟩
  have e1' : callK P (k + 3) t [.ref n, .int 5] h = .ok (.v (.int (d : Int))) h1 := e1
  have s1 : zs.length ≤ 16777216 := by omega
  simp [e1', em, rg, e2, strs_ok, ls, el, SL, -List.map_map, s1]
end
/-- the i-th name of a lot -/
def NmAt (shift side i : Nat) (x : Str) : Prop := ∃ st : List Nat, st.length ≤ 6 ∧ azL st ∧ x.cps.toList = if side = 0 then (97 + (shift + 7 * i) % 26) :: st else st ++ [97 + (shift + 7 * i) % 26]
theorem NmAt.name {shift side i : Nat} {x : Str} (e : NmAt shift side i x) : nameS x = true := by
  obtain ⟨st, l, az, ex⟩ := e
  have own : 97 ≤ 97 + (shift + 7 * i) % 26 ∧ 97 + (shift + 7 * i) % 26 ≤ 122 := by omega
  rw [nameS_iff, ex]
  by_cases c : side = 0
  · rw [if_pos c]
    refine ⟨by simp, by simp; omega, fun y m => ?_⟩
    rcases List.mem_cons.mp m with rfl | m
    · exact own
    · exact az y m
  · rw [if_neg c]
    refine ⟨by simp, by simp; omega, fun y m => ?_⟩
    rcases List.mem_append.mp m with m | m
    · exact az y m
    · rw [List.mem_singleton.mp m]; exact own
theorem NmAt.inj {shift side i j : Nat} {x : Str} (a : NmAt shift side i x) (b : NmAt shift side j x) (hi : i < 26) (hj : j < 26) : i = j := by
  obtain ⟨st, -, -, e1⟩ := a
  obtain ⟨st', -, -, e2⟩ := b
  rw [e1] at e2
  have key : (shift + 7 * i) % 26 = (shift + 7 * j) % 26 := by
    by_cases c : side = 0
    · rw [if_pos c, if_pos c] at e2
      injection e2 with e3
      omega
    · rw [if_neg c, if_neg c] at e2
      have := (List.append_inj' e2 rfl).2
      injection this with e3
      omega
  omega
theorem nm_nodup {shift side : Nat} {xs : List Str} (hl : xs.length ≤ 26) (h : ∀ i x, xs[i]? = some x → NmAt shift side i x) : xs.Nodup := by
  unfold List.Nodup
  rw [List.pairwise_iff_getElem]
  intro i j hi hj hij e
  have a := h i xs[i] (List.getElem?_eq_getElem hi)
  have b := h j xs[j] (List.getElem?_eq_getElem hj)
  rw [e] at a
  have := a.inj b (by omega) (by omega)
  omega
theorem rep0 (c : Nat) : opR .Mult (.str ⟨#[c]⟩) (.int 0) = some (.v (.str ⟨#[]⟩)) := by
  show (if -(2 ^ 62) ≤ (0 : Int) ∧ (0 : Int) ≤ 1000000 ∧ (⟨#[c]⟩ : Str).length ≤ 16 then some (R.v (.str (L2.repS ⟨#[c]⟩ 0))) else none) = _
  rw [if_pos ⟨by decide, by decide, by show 1 ≤ 16; decide⟩]
  rfl
section
variable {P : Pg} {t : Nat} (ht : P.ds[t]? = some fdTake1) (k : Nat)
include ht
theorem nm_turn {n b : Nat} {h : Hs} (bg : Bag1 h n b) (hb : b + 7 < 2 ^ 20) {shift side i many : Nat} (hi : i < 26) (hm : many ≤ 26) (xs : List Str) (hx : xs.length ≤ 26) (a4 a7 a8 a9 : Option Sl) :
    ∃ (x : Str) (h' : Hs) (b4 b7 b8 : Option Sl), forB (Γc P (k + 1)) (.nm 4) (nmB t) (.int (i : Nat)) [some (.v (.ref n)), some (.v (.int (many : Nat))), some (.v (.str azS)), some (.al (xs.map .str)), a4, some (.v (.int (shift : Nat))), some (.v (.int (side : Nat))), a7, a8, a9] h
      = .ok .nx [some (.v (.ref n)), some (.v (.int (many : Nat))), some (.v (.str azS)), some (.al ((xs ++ [x]).map .str)), b4, some (.v (.int (shift : Nat))), some (.v (.int (side : Nat))), b7, b8, a9] h' ∧ NmAt shift side i x ∧ Bag1 h' n (b + 7) ∧ Only1 h h' n := by
  obtain ⟨st, h1, e1, l1, az1, b1, o1⟩ := stem_ev ht k bg hb (some (.v (.int (many : Nat)))) (some (.al (xs.map .str))) (some (.v (.int (i : Nat)))) (some (.v (.int (shift : Nat)))) (some (.v (.int (side : Nat)))) a7 a8 a9
  have m1 : opR .Mult (.int 7) (.int i) = some (.v (.int (7 * i))) := opR_mul (mulOk_l (by decide) (by decide))
  have m2 : opR .Mod (.int (shift + 7 * i)) (.int 26) = some (.v (.int (((shift + 7 * i) % 26 : Nat) : Int))) := by
    rw [opR_mod (by decide)]; rfl
  have m3 : opR .FloorDiv (.int i) (.int 26) = some (.v (.int ((0 : Nat) : Int))) := by
    rw [opR_div (by decide) (by decide)]
    congr 3
    omega
  have ix := az_ix ((shift + 7 * i) % 26) (Nat.mod_lt _ (by decide))
  have ix0 : ixR (.str azS) (.int 0) = some (.str ⟨#[97 + 0]⟩) := az_ix 0 (by decide)
  have gt : ¬ (26 : Int) < many := by omega
  have r0 := rep0 (97 + 0)
  have z0 : (⟨#[97 + (shift + 7 * i) % 26]⟩ ++ ⟨#[]⟩ : Str) = ⟨#[97 + (shift + 7 * i) % 26]⟩ := str_ext (by rw [cp_app]; rfl)
  have ca : opR .Add (.str ⟨#[97 + (shift + 7 * i) % 26]⟩) (.str ⟨#[]⟩) = some (.v (.str ⟨#[97 + (shift + 7 * i) % 26]⟩)) := by
    rw [opR_catS, if_pos (by show 1 + 0 ≤ 16777216; decide), z0]
  have l1' : st.length ≤ 6 := by rw [len_cp]; exact l1
  have cb : opR .Add (.str ⟨#[97 + (shift + 7 * i) % 26]⟩) (.str st) = some (.v (.str (⟨#[97 + (shift + 7 * i) % 26]⟩ ++ st))) := by
    rw [opR_catS, if_pos (by show 1 + st.length ≤ 16777216; omega)]
  have cc : opR .Add (.str st) (.str ⟨#[97 + (shift + 7 * i) % 26]⟩) = some (.v (.str (st ++ ⟨#[97 + (shift + 7 * i) % 26]⟩))) := by
    rw [opR_catS, if_pos (by show st.length + 1 ≤ 16777216; omega)]
  have sl : xs.length < SL := by show _ < 16777216; omega
  unfold NmAt
  generalize (shift + 7 * i) % 26 = j at *
  rw [forB_nm]
  simp only [List.set_cons_zero, List.set_cons_succ]
  unfold nmB
  rw [evSs_cons, evS_asg, e1]
  by_cases c : side = 0
  · subst c
    refine ⟨⟨#[97 + j]⟩ ++ st, h1, some (.v (.int i)), some (.v (.str st)), some (.v (.str ⟨#[97 + j]⟩)), ?_, ⟨st.cps.toList, l1, az1, by rw [if_pos rfl, cp_app]; rfl⟩, b1, o1⟩
    simp [m1, m2, m3, ix, ix0, gt, r0, ca, cb, appOk, appS, sl]
  · refine ⟨st ++ ⟨#[97 + j]⟩, h1, some (.v (.int i)), some (.v (.str st)), some (.v (.str ⟨#[97 + j]⟩)), ?_, ⟨st.cps.toList, l1, az1, by rw [if_neg c, cp_app]⟩, b1, o1⟩
    have c' : ¬ (side : Int) = 0 := by omega
    simp [m1, m2, m3, ix, ix0, gt, r0, ca, cc, appOk, appS, sl, c, c']
theorem w_names {f : Nat} (hf : P.ds[f]? = some ⟨2, 10, namesT t⟩) {n b : Nat} {h : Hs} (bg : Bag1 h n b) (hb : b ≤ 2 ^ 19) {many : Nat} (hm : many ≤ 26) :
    ∃ (xs : List Str) (h' : Hs), callK P (k + 4) f [.ref n, .int (many : Nat)] h = .ok (.al (xs.map .str)) h' ∧ xs.length = many ∧ (∀ x ∈ xs, nameS x = true) ∧ xs.Nodup ∧ Bag1 h' n (b + 2 + 7 * many) ∧ Only1 h h' n := by
  rw [callK_eq (k := k + 1) hf, runD_eq _ _ _ rfl]
  obtain ⟨shift, h1, e1, d1, b1, o1⟩ := w_take ht k bg (by omega) 26 (by decide) (by decide)
  obtain ⟨side, h2, e2, d2, b2, o2⟩ := w_take ht k b1 (by omega) 2 (by decide) (by decide)
  have rg := rng0 (j := (many : Int)) rfl (by omega)
  obtain ⟨σ', h3, e3, xs, c4, c7, c8, c9, es, hl, hx, b3, o3⟩ := forL_run (body := forB (Γc P (k + 1)) (.nm 4) (nmB t)) (fun i σ h' => ∃ (xs : List Str) (c4 c7 c8 c9 : Option Sl), σ = [some (.v (.ref n)), some (.v (.int (many : Nat))), some (.v (.str azS)), some (.al (xs.map .str)), c4, some (.v (.int (shift : Nat))), some (.v (.int (side : Nat))), c7, c8, c9] ∧ xs.length = i ∧ (∀ j x, xs[j]? = some x → NmAt shift side j x) ∧ Bag1 h' n (b + 2 + 7 * i) ∧ Only1 h h' n)
    ((List.range many).map fun k : Nat => .int k) 0 (fun i x ei σ h' q => by
      obtain ⟨rfl, hi⟩ := rng_get ei
      obtain ⟨xs, c4, c7, c8, c9, rfl, hl, hx, b3, o3⟩ := q
      rw [Nat.zero_add] at hl b3 ⊢
      obtain ⟨x, h4, b4, b7, b8, e4, q4, bg4, o4⟩ := nm_turn ht k b3 (by omega) (shift := shift) (side := side) (by omega : i < 26) hm xs (by omega) c4 c7 c8 c9
      refine ⟨_, h4, .inl e4, xs ++ [x], b4, b7, b8, c9, rfl, by simp [hl], fun j y ej => ?_, bg4.le (by omega), o3.trans o4⟩
      by_cases c : j < xs.length
      · rw [List.getElem?_append_left c] at ej
        exact hx j y ej
      · rw [List.getElem?_append_right (by omega)] at ej
        have : j - xs.length = 0 := by
          rcases Nat.eq_zero_or_pos (j - xs.length) with z | z
          · exact z
          · rw [List.getElem?_eq_none (by simp; omega)] at ej; cases ej
        rw [this] at ej
        cases ej
        have : j = i := by omega
        rw [this]
        exact q4) [some (.v (.ref n)), some (.v (.int (many : Nat))), some (.v (.str azS)), some (.al []), none, some (.v (.int (shift : Nat))), some (.v (.int (side : Nat))), none, none, none] h2 ⟨[], none, none, none, none, rfl, rfl, fun _ _ e => by simp at e, b2, o1.trans o2⟩
  rw [List.length_map, List.length_range, Nat.zero_add] at hl b3
  subst es
  refine ⟨xs, h3, ?_, hl, fun x m => ?_, nm_nodup (by omega) hx, b3, o3⟩
  · have e1' : callK P (k + 3) t [.ref n, .int 26] h = .ok (.v (.int shift)) h1 := e1
    have e2' : callK P (k + 3) t [.ref n, .int 2] h1 = .ok (.v (.int side)) h2 := e2
    have eb : namesT t = [.asg 2 (.c (.str "abcdefghijklmnopqrstuvwxyz")), .par2 5 6 (.call t [.var 0, .c (.int 26)]) (.call t [.var 0, .c (.int 2)]), .asg 3 (.lst []), .for (.nm 4) (.r1 (.var 1)) (nmB t), .retS 3] := rfl
    simp only [eb]
    simp [startT, e1', e2', rg, e3]
  · obtain ⟨i, hi, rfl⟩ := List.getElem_of_mem m
    exact (hx i _ (List.getElem?_eq_getElem hi)).name
end
def letterT (t : Nat) : List S := [.asg 1 (.call t [.var 0, .c (.int 12)]), .ife (.t (.cmp .Lt (.var 1) (.c (.int 9)))) [.ret (.call t [.var 0, .c (.int 4)])] [], .ife (.t (.cmp .Eq (.var 1) (.c (.int 9)))) [.ret (.bin .Sub (.call t [.var 0, .c (.int 41)]) (.c (.int 20)))] [], .ret (.ix (.lst [.c .non, .bin .Sub (.bin .Pow (.c (.int 10)) (.c (.int 9))) (.call t [.var 0, .c (.int 1000)]), .bin .Sub (.call t [.var 0, .c (.int 3)]) (.bin .Pow (.c (.int 10)) (.c (.int 9)))]) (.call t [.var 0, .c (.int 3)]))]
theorem letter_int {i : Int} (a : -1000000000 ≤ i) (b : i ≤ 1000000000) : letterB (optT (some i)) = true := by
  simp [optT, letterB, a, b]
section
variable {P : Pg} {t : Nat} (ht : P.ds[t]? = some fdTake1) (k : Nat)
include ht
theorem w_letterL {f : Nat} (hf : P.ds[f]? = some ⟨1, 2, letterT t⟩) {n b : Nat} {h : Hs} (bg : Bag1 h n b) (hb : b ≤ 2 ^ 19) :
    ∃ (o : Option Int) (h' : Hs), callK P (k + 4) f [.ref n] h = .ok (.v (optT o)) h' ∧ letterB (optT o) = true ∧ Bag1 h' n (b + 4) ∧ Only1 h h' n := by
  rw [callK_eq (k := k + 1) hf, runD_eq _ _ _ rfl]
  obtain ⟨d, h1, e1, d1, b1, o1⟩ := w_take ht k bg (by omega) 12 (by decide) (by decide)
  have e1' : callK P (k + 3) t [.ref n, .int 12] h = .ok (.v (.int d)) h1 := e1
  by_cases c : d < 9
  · have c' : (d : Int) < 9 := by omega
    obtain ⟨d2, h2, e2, q2, b2, o2⟩ := w_take ht k b1 (by omega) 4 (by decide) (by decide)
    have e2' : callK P (k + 3) t [.ref n, .int 4] h1 = .ok (.v (.int d2)) h2 := e2
    refine ⟨some d2, h2, ?_, letter_int (by omega) (by omega), b2.le (by omega), o1.trans o2⟩
    simp [letterT, startT, e1', e2', c', optT]
  · have c' : ¬ (d : Int) < 9 := by omega
    by_cases c2 : d = 9
    · have c2' : (d : Int) = 9 := by omega
      obtain ⟨d2, h2, e2, q2, b2, o2⟩ := w_take ht k b1 (by omega) 41 (by decide) (by decide)
      have e2' : callK P (k + 3) t [.ref n, .int 41] h1 = .ok (.v (.int d2)) h2 := e2
      refine ⟨some (d2 - 20), h2, ?_, letter_int (by omega) (by omega), b2.le (by omega), o1.trans o2⟩
      simp [letterT, startT, e1', e2', c2', optT]
    · have c2' : ¬ (d : Int) = 9 := by omega
      obtain ⟨x, h2, e2, q2, b2, o2⟩ := w_take ht k b1 (by omega) 1000 (by decide) (by decide)
      obtain ⟨y, h3, e3, q3, b3, o3⟩ := w_take ht k b2 (by omega) 3 (by decide) (by decide)
      obtain ⟨z, h4, e4, q4, b4, o4⟩ := w_take ht k b3 (by omega) 3 (by decide) (by decide)
      have e2' : callK P (k + 3) t [.ref n, .int 1000] h1 = .ok (.v (.int x)) h2 := e2
      have e3' : callK P (k + 3) t [.ref n, .int 3] h2 = .ok (.v (.int y)) h3 := e3
      have e4' : callK P (k + 3) t [.ref n, .int 3] h3 = .ok (.v (.int z)) h4 := e4
      obtain ⟨o, eo, ob⟩ : ∃ o : Option Int, L2.atI [T.non, .int (1000000000 - x), .int (y - 1000000000)] (z : Int) = some (optT o) ∧ letterB (optT o) = true := by
        have : z = 0 ∨ z = 1 ∨ z = 2 := by omega
        rcases this with rfl | rfl | rfl
        · exact ⟨none, rfl, rfl⟩
        · exact ⟨some (1000000000 - x), rfl, letter_int (by omega) (by omega)⟩
        · exact ⟨some (y - 1000000000), rfl, letter_int (by omega) (by omega)⟩
      refine ⟨o, h4, ?_, ob, b4.le (by omega), ((o1.trans o2).trans o3).trans o4⟩
      simp [letterT, startT, e1', e2', e3', e4', c', c2', eo, SL]
end
def toldNT : List S := [.tryX 2 "NoNet" [.expr (.new "Net" [.blt .tuple [.var 0], .blt .tuple [.var 1]])] [.ret (.tup [.xf 2 "part", .xf 2 "at"])], .ret (.c .non)]
def toldR : Option (Str × Int) → T
  | none => .non
  | some (p, j) => .tup [.str p, .int j]
section
variable {P : Pg} {iN : Nat} (n : NetP P) (c : NetC P iN) (k : Nat)
include n c
theorem w_told {f : Nat} (hf : P.ds[f]? = some ⟨2, 3, toldNT⟩) {wk ws : List T} (hk : ∀ t ∈ wk, fineT t = true ∧ depT t ≤ 60) (hg : ∀ t ∈ ws, fineT t = true) (h : Hs) :
    ∃ h', callK P (k + 10) f [.lst wk, .lst ws] h = .ok (.v (toldR (netX wk ws))) h' ∧ Gr h h' := by
  rw [callK_eq (k := k + 7) hf, runD_eq _ _ _ rfl]
  have W := w_init n c k hk hg h
  have st : startT 3 [T.lst wk, .lst ws] = [some (.v (.lst wk)), some (.v (.lst ws)), none] := rfl
  have nw := fun σ => evE_new (Γc P (k + 7)) σ h c.ini [.blt .tuple [.var 0], .blt .tuple [.var 1]]
  simp only [st]
  unfold toldNT
  rw [evSs_cons, evS_tryX _ _ _ n.xs]
  cases e : netX wk ws with
  | none =>
    rw [e] at W
    obtain ⟨h', W, g, -⟩ := W
    exact ⟨h', by simp [nw, W, toldR], g⟩
  | some q =>
    obtain ⟨p, j⟩ := q
    rw [e] at W
    obtain ⟨h', W, g⟩ := W
    have l1 : ([("at", .int j), ("part", .str p)] : List (Str × T)).lookup ("part" : Str) = some (.str p) := rfl
    have l2 : ([("at", .int j), ("part", .str p)] : List (Str × T)).lookup ("at" : Str) = some (.int j) := rfl
    have x1 := fun h => (xfL_xn h n.xs (f := "part") (by simp) [("at", .int j), ("part", .str p)])
    have x2 := fun h => (xfL_xn h n.xs (f := "at") (by simp) [("at", .int j), ("part", .str p)])
    rw [l1] at x1
    rw [l2] at x2
    exact ⟨h', by simp [nw, W, toldR, x1, x2, SL], g⟩
end
theorem eqT_told {p : Str} (hp : PyData.strOk p = true) (j : Int) : eqT (.tup [.str p, .int j]) (.tup [.str p, .int j]) = some true := by
  simp [eqT, toD, toDs, SeqAt.shaped, PyData.canLay0, PyData.canLayAll0, PyData.depth, PyData.depthAll, PyData.eqv, PyData.eqvAll, hp]
theorem eqT_nil {l : List T} (e : fineT (.lst l) = true) (d : depT (.lst l) ≤ 64) : eqT (.lst l) (.lst []) = some l.isEmpty := by
  obtain ⟨x, a, b⟩ := fine_shp e d
  have a' := a
  rw [toD] at a
  cases z : toDs l with
  | none => rw [z] at a; cases a
  | some ds =>
    rw [z] at a
    cases a
    have e2 : toD (.lst []) = some (.list []) := by simp [toD, toDs]
    have e3 : SeqAt.shaped (.list []) = true := by simp [SeqAt.shaped, PyData.canLay0, PyData.canLayAll0, PyData.depth, PyData.depthAll]
    unfold eqT
    rw [a', e2]
    simp only [b, e3, Bool.and_self, if_true]
    cases l with
    | nil => simp [toDs] at z; subst z; simp [PyData.eqv, PyData.eqvAll]
    | cons y l =>
      rw [toDs] at z
      cases q : toD y with
      | none => rw [q] at z; cases z
      | some d =>
        rw [q] at z
        cases w : toDs l with
        | none => rw [w] at z; cases z
        | some r => rw [w] at z; cases z; simp [PyData.eqv, PyData.eqvAll]
end VY
namespace VY
open PySem L2
structure NetOk (wk ws : List T) : Prop where
  lw : 1 ≤ wk.length ∧ wk.length ≤ 40
  w : ∀ t ∈ wk, workB t = true ∧ fineT t = true ∧ depT t ≤ 60
  nd : (wk.map nameOf).Nodup
  lv : ws.length ≤ 100
  v : ∀ w ∈ ws, wireB (wk.map nameOf) w = true ∧ fineT w = true
  ends : (ws.map endOf).Nodup
  ins : ∀ t ∈ wk, ∃ m, (insOf (nameOf t) ws).Perm ((List.range m).map fun k : Nat => (k : Int)) ∧ fedB m t = true
  out : ∀ t ∈ wk, leavesB (nameOf t) ws = !decide (kindOf t = "mouth")
theorem oneOf_iff {x : Str} {l : List Str} : oneOf x l = true ↔ x ∈ l := by
  unfold oneOf
  rw [List.any_eq_true]
  constructor
  · rintro ⟨y, m, d⟩
    rw [decide_eq_true_eq] at d
    exact d ▸ m
  · intro m
    exact ⟨x, m, decide_eq_true rfl⟩
theorem oneOf_no {x : Str} {l : List Str} (h : x ∉ l) : oneOf x l = false := by
  rw [Bool.eq_false_iff]
  exact fun e => h (oneOf_iff.mp e)
theorem oneE_iff {x : Str × Int} {l : List (Str × Int)} : oneE x l = true ↔ x ∈ l := by
  unfold oneE
  rw [List.any_eq_true]
  constructor
  · rintro ⟨y, m, d⟩
    rw [decide_eq_true_eq] at d
    exact d ▸ m
  · intro m
    exact ⟨x, m, decide_eq_true rfl⟩
theorem worksX_all : ∀ {l : List T} {i : Nat} {acc : List Str}, (∀ t ∈ l, workB t = true) → (acc ++ l.map nameOf).Nodup → worksX i acc l = .ok (acc ++ l.map nameOf)
  | [], i, acc, _, _ => by simp [worksX]
  | t :: l, i, acc, h, nd => by
    unfold worksX
    have no : oneOf (nameOf t) acc = false := oneOf_no fun m => by
      rw [List.nodup_append] at nd
      exact nd.2.2 _ m _ (by simp) rfl
    rw [h t (by simp), no, if_pos (by rfl), worksX_all (fun t m => h t (by simp [m])) (by simpa using nd)]
    simp
theorem wiresX_all {names : List Str} : ∀ {l : List T} {i : Nat} {acc : List (Str × Int)}, (∀ t ∈ l, wireB names t = true) → (acc ++ l.map endOf).Nodup → wiresX names i acc l = .ok (acc ++ l.map endOf)
  | [], i, acc, _, _ => by simp [wiresX]
  | t :: l, i, acc, h, nd => by
    unfold wiresX
    have no : oneE (endOf t) acc = false := by
      rw [Bool.eq_false_iff]
      intro m
      rw [List.nodup_append] at nd
      exact nd.2.2 _ (oneE_iff.mp m) _ (by simp) rfl
    rw [h t (by simp), no, if_pos (by rfl), wiresX_all (fun t m => h t (by simp [m])) (by simpa using nd)]
    simp
theorem sortI_range {l : List Int} {m : Nat} (h : l.Perm ((List.range m).map fun k : Nat => (k : Int))) : sortI l = (List.range l.length).map fun k : Nat => (k : Int) := by
  have el : l.length = m := by rw [h.length_eq]; simp
  rw [el]
  have ord : ∀ a b : Int, (decide (a ≤ b) || decide (b ≤ a)) = true := fun a b => by simp; omega
  have p1 : List.Pairwise (fun a b : Int => a ≤ b) (sortI l) := by
    have := List.pairwise_mergeSort (le := fun a b : Int => decide (a ≤ b)) (fun a b c h1 h2 => by simp at h1 h2 ⊢; omega) ord l
    exact this.imp fun h => by simpa using h
  have p2 : List.Pairwise (fun a b : Int => a ≤ b) ((List.range m).map fun k : Nat => (k : Int)) := by
    rw [List.pairwise_map]
    exact List.pairwise_lt_range.imp fun h => by omega
  have pm : (sortI l).Perm ((List.range m).map fun k : Nat => (k : Int)) := (List.mergeSort_perm l _).trans h
  exact pm.eq_of_pairwise (fun a b _ _ h1 h2 => by omega) p1 p2
theorem insX_all {ws : List T} : ∀ {l : List T} {i : Nat}, (∀ t ∈ l, insOkB ws t = true) → insX ws i l = none
  | [], i, _ => rfl
  | t :: l, i, h => by
    unfold insX
    rw [h t (by simp), if_pos rfl]
    exact insX_all fun t m => h t (by simp [m])
theorem netOk_none {wk ws : List T} (n : NetOk wk ws) : netX wk ws = none := by
  have e1 : lookWorks wk = .ok (wk.map nameOf) := by
    unfold lookWorks
    rw [if_pos n.lw, worksX_all (fun t m => (n.w t m).1) (by simpa using n.nd)]
    simp
  have e2 : lookWires (wk.map nameOf) ws = .ok (ws.map endOf) := by
    unfold lookWires
    rw [if_pos n.lv, wiresX_all (fun t m => (n.v t m).1) (by simpa using n.ends)]
    simp
  have e3 : insX ws 0 wk = none := insX_all fun t m => by
    obtain ⟨k, p, f⟩ := n.ins t m
    unfold insOkB
    have el : (insOf (nameOf t) ws).length = k := by rw [p.length_eq]; simp
    rw [sortI_range p, el, decide_eq_true rfl, f, n.out t m]
    cases decide (kindOf t = "mouth") <;> rfl
  unfold netX
  rw [e1]
  simp only [e2, e3, Option.map_none]
theorem wireB_perm {ns ns' : List Str} (h : ∀ x, x ∈ ns ↔ x ∈ ns') (t : T) : wireB ns t = wireB ns' t := by
  have : ∀ x, oneOf x ns = oneOf x ns' := fun x => by
    rw [Bool.eq_iff_iff, oneOf_iff, oneOf_iff]; exact h x
  unfold wireB
  simp only [this]
theorem NetOk.perm {wk wk' ws ws' : List T} (n : NetOk wk ws) (p : wk.Perm wk') (q : ws.Perm ws') : NetOk wk' ws' where
  lw := by rw [← p.length_eq]; exact n.lw
  w := fun t m => n.w t (p.mem_iff.mpr m)
  nd := (p.map nameOf).nodup_iff.mp n.nd
  lv := by rw [← q.length_eq]; exact n.lv
  v := fun t m => by
    rw [← wireB_perm (fun x => (p.map nameOf).mem_iff) t]
    exact n.v t (q.mem_iff.mpr m)
  ends := (q.map endOf).nodup_iff.mp n.ends
  ins := fun t m => by
    obtain ⟨k, h, f⟩ := n.ins t (p.mem_iff.mpr m)
    exact ⟨k, (((q.filter _).map _).symm).trans h, f⟩
  out := fun t m => by
    rw [← n.out t (p.mem_iff.mpr m)]
    unfold leavesB
    rw [Bool.eq_iff_iff, List.any_eq_true, List.any_eq_true]
    exact ⟨fun ⟨x, a, b⟩ => ⟨x, q.mem_iff.mpr a, b⟩, fun ⟨x, a, b⟩ => ⟨x, q.mem_iff.mp a, b⟩⟩
end VY
namespace VY
open PySem L2
/-- a work that is no mouth, and its ins -/
structure InnerOk (x : Str) (t : T) (m : Nat) : Prop where
  w : workB t = true
  f : fineT t = true
  d : depT t ≤ 60
  n : nameOf t = x
  k : decide (kindOf t = "mouth") = false
  mx : m ≤ 7
  fed : fedB m t = true
abbrev litN : List Str := ["spring", "pick", "fold", "mouth", "plus", "times", "least", "most", "same", "less", "over", "rest", "below"]
theorem words_lit : ∀ w ∈ wordsL, w ∈ litN := by decide +kernel
theorem lit_ok : ∀ s ∈ litN, (decide (s.length ≤ 1000) && PyData.strOk s) = true := by decide +kernel
theorem nm_ok {a : Str} (h : nameS a = true) : (decide (a.length ≤ 1000) && PyData.strOk a) = true := by
  have := nameS_len h
  rw [nameS_ok h, decide_eq_true (by omega)]; rfl
theorem inner_spring {x : Str} (h : nameS x = true) : InnerOk x (.tup [.str "spring", .str x]) 0 where
  w := by show (nameS x && oneOf "spring" plainL) = true; rw [h]; decide +kernel
  f := by simp only [fineT, fineTs, lit_ok "spring" (by simp), nm_ok h]; rfl
  d := by simp [depT, depTs]
  n := rfl
  k := by show decide (("spring" : Str) = "mouth") = false; decide +kernel
  mx := by decide
  fed := by show (if ("spring" : Str) = "spring" then decide (0 = 0) else if ("spring" : Str) = "mouth" then decide (0 = 1) else decide (2 ≤ 0) && decide (0 ≤ 7)) = true; decide +kernel
theorem inner_pick {x : Str} (h : nameS x = true) {m : Nat} (a : 2 ≤ m) (b : m ≤ 7) : InnerOk x (.tup [.str "pick", .str x]) m where
  w := by show (nameS x && oneOf "pick" plainL) = true; rw [h]; decide +kernel
  f := by simp only [fineT, fineTs, lit_ok "pick" (by simp), nm_ok h]; rfl
  d := by simp [depT, depTs]
  n := rfl
  k := by show decide (("pick" : Str) = "mouth") = false; decide +kernel
  mx := b
  fed := by
    show (if ("pick" : Str) = "spring" then decide (m = 0) else if ("pick" : Str) = "mouth" then decide (m = 1) else decide (2 ≤ m) && decide (m ≤ 7)) = true
    rw [if_neg (by decide +kernel), if_neg (by decide +kernel), decide_eq_true a, decide_eq_true b]; rfl
theorem inner_fold {x w : Str} (h : nameS x = true) (hw : w ∈ wordsL) {m : Nat} (a : takesB w m = true) (b : m ≤ 7) : InnerOk x (.tup [.str "fold", .str x, .str w]) m where
  w := by show (nameS x && (decide (("fold" : Str) = "fold") && oneOf w wordsL)) = true; rw [h, oneOf_iff.mpr hw]; decide +kernel
  f := by
    simp only [fineT, fineTs, lit_ok "fold" (by simp), lit_ok w (words_lit w hw), nm_ok h]; rfl
  d := by simp [depT, depTs]
  n := rfl
  k := by show decide (("fold" : Str) = "mouth") = false; decide +kernel
  mx := b
  fed := a
def innerT (t : Nat) : List S := [.asg 2 (.call t [.var 0, .c (.int 9)]), .ife (.t (.cmp .Eq (.var 2) (.c (.int 0)))) [.ret (.tup [.tup [.c (.str "spring"), .var 1], .c (.int 0)])] [], .ife (.t (.cmp .Lt (.var 2) (.c (.int 4)))) [.ret (.tup [.tup [.c (.str "pick"), .var 1], .bin .Add (.c (.int 2)) (.call t [.var 0, .ix (.lst [.c (.int 2), .c (.int 2), .c (.int 2), .c (.int 6)]) (.call t [.var 0, .c (.int 4)])])])] [],
  .asg 3 (.ix (.lst [.c (.str "plus"), .c (.str "plus"), .c (.str "times"), .c (.str "least"), .c (.str "most"), .c (.str "same"), .c (.str "less"), .c (.str "over"), .c (.str "rest"), .c (.str "below")]) (.call t [.var 0, .c (.int 10)])), .asg 4 (.bin .Add (.c (.int 1)) (.call t [.var 0, .ix (.lst [.c (.int 2), .c (.int 2), .c (.int 3), .c (.int 6)]) (.call t [.var 0, .c (.int 4)])])), .ret (.tup [.tup [.c (.str "fold"), .var 1, .var 3], .ife (.t (.cmp .In (.var 3) (.tup [.c (.str "less"), .c (.str "over"), .c (.str "rest"), .c (.str "below")]))) (.c (.int 2)) (.var 4)])]
theorem words_at : ∀ d : Nat, d < 10 → ∃ w, L2.atI [T.str "plus", .str "plus", .str "times", .str "least", .str "most", .str "same", .str "less", .str "over", .str "rest", .str "below"] (d : Int) = some (.str w) ∧ w ∈ wordsL := by
  intro d hd
  have : d = 0 ∨ d = 1 ∨ d = 2 ∨ d = 3 ∨ d = 4 ∨ d = 5 ∨ d = 6 ∨ d = 7 ∨ d = 8 ∨ d = 9 := by omega
  rcases this with rfl | rfl | rfl | rfl | rfl | rfl | rfl | rfl | rfl | rfl <;> exact ⟨_, rfl, by simp [wordsL]⟩
theorem four_at (a b c d : Nat) (i : Nat) (hi : i < 4) : ∃ m : Nat, L2.atI [T.int (a : Nat), .int (b : Nat), .int (c : Nat), .int (d : Nat)] (i : Int) = some (.int (m : Nat)) ∧ (m = a ∨ m = b ∨ m = c ∨ m = d) := by
  have : i = 0 ∨ i = 1 ∨ i = 2 ∨ i = 3 := by omega
  rcases this with rfl | rfl | rfl | rfl
  · exact ⟨a, rfl, by simp⟩
  · exact ⟨b, rfl, by simp⟩
  · exact ⟨c, rfl, by simp⟩
  · exact ⟨d, rfl, by simp⟩
section
variable {P : Pg} {t : Nat} (ht : P.ds[t]? = some fdTake1) (k : Nat)
include ht
theorem w_inner {f : Nat} (hf : P.ds[f]? = some ⟨2, 5, innerT t⟩) {n b : Nat} {h : Hs} (bg : Bag1 h n b) (hb : b ≤ 2 ^ 19) {x : Str} (hx : nameS x = true) :
    ∃ (w : T) (m : Nat) (h' : Hs), callK P (k + 4) f [.ref n, .str x] h = .ok (.v (.tup [w, .int (m : Nat)])) h' ∧ InnerOk x w m ∧ Bag1 h' n (b + 5) ∧ Only1 h h' n := by
  rw [callK_eq (k := k + 1) hf, runD_eq _ _ _ rfl]
  obtain ⟨d, h1, e1, d1, b1, o1⟩ := w_take ht k bg (by omega) 9 (by decide) (by decide)
  have e1' : callK P (k + 3) t [.ref n, .int 9] h = .ok (.v (.int d)) h1 := e1
  by_cases c0 : d = 0
  · subst c0
    have e1'' : callK P (k + 3) t [.ref n, .int 9] h = .ok (.v (.int 0)) h1 := e1
    exact ⟨.tup [.str "spring", .str x], 0, h1, by simp [innerT, startT, e1'', SL], inner_spring hx, b1.le (by omega), o1⟩
  · have c0' : ¬ (d : Int) = 0 := by omega
    by_cases c1 : d < 4
    · have c1' : (d : Int) < 4 := by omega
      obtain ⟨d2, h2, e2, q2, b2, o2⟩ := w_take ht k b1 (by omega) 4 (by decide) (by decide)
      have e2' : callK P (k + 3) t [.ref n, .int 4] h1 = .ok (.v (.int d2)) h2 := e2
      obtain ⟨m, em, hm⟩ := four_at 2 2 2 6 d2 q2
      have em' : L2.atI [T.int 2, .int 2, .int 2, .int 6] (d2 : Int) = some (.int (m : Nat)) := em
      obtain ⟨d3, h3, e3, q3, b3, o3⟩ := w_take ht k b2 (by omega) m (by omega) (by omega)
      refine ⟨.tup [.str "pick", .str x], 2 + d3, h3, ?_, inner_pick hx (by omega) (by omega), b3.le (by omega), (o1.trans o2).trans o3⟩
      simp [innerT, startT, e1', e2', em', e3, c0, c0', c1', SL]
    · have c1' : ¬ (d : Int) < 4 := by omega
      obtain ⟨d2, h2, e2, q2, b2, o2⟩ := w_take ht k b1 (by omega) 10 (by decide) (by decide)
      have e2' : callK P (k + 3) t [.ref n, .int 10] h1 = .ok (.v (.int d2)) h2 := e2
      obtain ⟨w, ew, hw⟩ := words_at d2 q2
      obtain ⟨d3, h3, e3, q3, b3, o3⟩ := w_take ht k b2 (by omega) 4 (by decide) (by decide)
      have e3' : callK P (k + 3) t [.ref n, .int 4] h2 = .ok (.v (.int d3)) h3 := e3
      obtain ⟨m, em, hm⟩ := four_at 2 2 3 6 d3 q3
      have em' : L2.atI [T.int 2, .int 2, .int 3, .int 6] (d3 : Int) = some (.int (m : Nat)) := em
      obtain ⟨d4, h4, e4, q4, b4, o4⟩ := w_take ht k b3 (by omega) m (by omega) (by omega)
      have ip := in_pairs w
      cases cp : oneOf w pairsL
      · rw [cp] at ip
        refine ⟨.tup [.str "fold", .str x, .str w], 1 + d4, h4, ?_, inner_fold hx hw (by unfold takesB; rw [cp, oneOf_iff.mpr hw]; simp; omega) (by omega), b4.le (by omega), ((o1.trans o2).trans o3).trans o4⟩
        simp [innerT, startT, e1', e2', ew, e3', em', e4, c0, c0', c1', ip, SL]
      · rw [cp] at ip
        refine ⟨.tup [.str "fold", .str x, .str w], 2, h4, ?_, inner_fold hx hw (by unfold takesB; rw [cp]; rfl) (by omega), b4.le (by omega), ((o1.trans o2).trans o3).trans o4⟩
        simp [innerT, startT, e1', e2', ew, e3', em', e4, c0, c0', c1', ip, SL]
end
/-- a wire as drawn -/
structure WireOk (s g : Str) (a : Nat) (w : T) : Prop where
  b : ∀ ns : List Str, oneOf s ns = true → oneOf g ns = true → a ≤ 6 → wireB ns w = true
  f : fineT w = true
  s : startOf w = s
  e : endOf w = (g, (a : Int))
def wireT (t l : Nat) : List S := [.asg 5 (.bin .Mult (.ix (.lst [.c (.int 0), .c (.int 1), .c (.int 1), .c (.int 2), .c (.int 3), .call t [.var 0, .c (.int 9)]]) (.call t [.var 0, .c (.int 6)])) (.blt .int [.bop .Or [.var 4, .cmp .Eq (.call t [.var 0, .c (.int 4)]) (.c (.int 0))]])), .asg 6 (.blt .tuple [.lc (.call l [.var 0]) (.nm 8) (.r1 (.var 5)) .yes]), .asg 7 (.c .non),
  .ife (.t (.cmp .Eq (.call t [.var 0, .c (.int 5)]) (.c (.int 0)))) [.asg 7 (.bin .Add (.blt .max [.c (.int 1), .var 5]) (.call t [.var 0, .c (.int 4)]))] [], .ret (.tup [.var 1, .var 2, .var 3, .var 6, .bin .Add (.c (.int 1)) (.call t [.var 0, .ix (.lst [.c (.int 1), .c (.int 3), .c (.int 9)]) (.call t [.var 0, .c (.int 3)])]), .var 7])]
theorem six_at (e : Nat) (he : e < 9) (i : Nat) (hi : i < 6) : ∃ m : Nat, L2.atI [T.int 0, .int 1, .int 1, .int 2, .int 3, .int (e : Nat)] (i : Int) = some (.int (m : Nat)) ∧ m ≤ 8 := by
  have : i = 0 ∨ i = 1 ∨ i = 2 ∨ i = 3 ∨ i = 4 ∨ i = 5 := by omega
  rcases this with rfl | rfl | rfl | rfl | rfl | rfl
  · exact ⟨0, rfl, by omega⟩
  · exact ⟨1, rfl, by omega⟩
  · exact ⟨1, rfl, by omega⟩
  · exact ⟨2, rfl, by omega⟩
  · exact ⟨3, rfl, by omega⟩
  · exact ⟨e, rfl, by omega⟩
theorem three_at (i : Nat) (hi : i < 3) : ∃ m : Nat, L2.atI [T.int 1, .int 3, .int 9] (i : Int) = some (.int (m : Nat)) ∧ 1 ≤ m ∧ m ≤ 9 := by
  have : i = 0 ∨ i = 1 ∨ i = 2 := by omega
  rcases this with rfl | rfl | rfl
  · exact ⟨1, rfl, by omega⟩
  · exact ⟨3, rfl, by omega⟩
  · exact ⟨9, rfl, by omega⟩
theorem fine_opt : ∀ {L : List (Option Int)}, fineTs (L.map optT) = true
  | [] => rfl
  | o :: L => by
    rw [List.map_cons, fineTs, fine_opt]
    cases o <;> rfl
theorem wire_ok {s g : Str} {a : Nat} (fs : nameS s = true) (fg : nameS g = true) {L : List (Option Int)} (hL : ∀ o ∈ L, letterB (optT o) = true) (l : L.length ≤ 8) {far : Nat} (f1 : 1 ≤ far) (f2 : far ≤ 9) {room : T} (hr : room = .non ∨ ∃ r : Nat, room = .int r ∧ max 1 L.length ≤ r ∧ r ≤ 20) :
    WireOk s g a (.tup [.str s, .str g, .int a, .tup (L.map optT), .int far, room]) where
  b := fun ns h1 h2 h3 => by
    have al : (L.map optT).all letterB = true := by
      rw [List.all_eq_true]
      intro x hx
      obtain ⟨o, m, rfl⟩ := List.mem_map.mp hx
      exact hL o m
    have r : roomB (L.map optT).length room = true := by
      rw [List.length_map]
      rcases hr with rfl | ⟨r, rfl, r1, r2⟩
      · rfl
      · unfold roomB
        simp only [withinB]
        split
        · simp; omega
        · simp; omega
    show (oneOf s ns && (oneOf g ns && (withinB 0 6 (.int a) && (decide ((L.map optT).length ≤ 8) && ((L.map optT).all letterB && (withinB 1 9 (.int far) && roomB (L.map optT).length room)))))) = true
    rw [h1, h2, al, r]
    simp [withinB]
    omega
  f := by
    have e1 := nm_ok fs
    have e2 := nm_ok fg
    have e3 : fineT room = true := by rcases hr with rfl | ⟨r, rfl, _, _⟩ <;> rfl
    simp only [fineT, fineTs, e1, e2, e3, fine_opt, List.length_map]
    simp
    omega
  s := rfl
  e := rfl
section
variable {P : Pg} {t lt : Nat} (ht : P.ds[t]? = some fdTake1) (hlt : P.ds[lt]? = some ⟨1, 2, letterT t⟩) (k : Nat)
include ht hlt
theorem w_wireL {f : Nat} (hf : P.ds[f]? = some ⟨5, 9, wireT t lt⟩) {n b : Nat} {h : Hs} (bg : Bag1 h n b) (hb : b ≤ 2 ^ 18) {s g : Str} (hs : nameS s = true) (hg : nameS g = true) (a : Nat) (back : Bool) :
    ∃ (w : T) (h' : Hs), callK P (k + 5) f [.ref n, .str s, .str g, .int (a : Nat), .bl back] h = .ok (.v w) h' ∧ WireOk s g a w ∧ Bag1 h' n (b + 40) ∧ Only1 h h' n := by
  rw [callK_eq (k := k + 2) hf, runD_eq _ _ _ rfl]
  obtain ⟨d0, h1, e1, q1, b1, o1⟩ := w_take ht (k + 1) bg (by omega) 9 (by decide) (by decide)
  have e1' : callK P (k + 4) t [.ref n, .int 9] h = .ok (.v (.int d0)) h1 := e1
  obtain ⟨d1, h2, e2, q2, b2, o2⟩ := w_take ht (k + 1) b1 (by omega) 6 (by decide) (by decide)
  have e2' : callK P (k + 4) t [.ref n, .int 6] h1 = .ok (.v (.int d1)) h2 := e2
  obtain ⟨m, em, hm⟩ := six_at d0 q1 d1 q2
  -- the count
  obtain ⟨z, h3, ez, hz, b3, o3⟩ : ∃ (z : Nat) (h3 : Hs), evE (Γc P (k + 2)) (.blt .int [.bop .Or [.var 4, .cmp .Eq (.call t [.var 0, .c (.int 4)]) (.c (.int 0))]]) [some (.v (.ref n)), some (.v (.str s)), some (.v (.str g)), some (.v (.int (a : Nat))), some (.v (.bl back)), none, none, none, none] h2 = .ok (.v (.int (z : Nat))) h3 ∧ z ≤ 1 ∧ Bag1 h3 n (b + 3) ∧ Only1 h2 h3 n := by
    cases back
    · obtain ⟨d, h3, e, q, b3, o3⟩ := w_take ht (k + 1) b2 (by omega) 4 (by decide) (by decide)
      have e' : callK P (k + 4) t [.ref n, .int 4] h2 = .ok (.v (.int d)) h3 := e
      by_cases c : d = 0
      · subst c
        exact ⟨1, h3, by simp [e'], by omega, b3, o3⟩
      · exact ⟨0, h3, by simp [e', c], by omega, b3, o3⟩
    · exact ⟨1, h2, by simp, by omega, b2.le (by omega), Only1.refl⟩
  have mu : opR .Mult (.int m) (.int z) = some (.v (.int ((m * z : Nat) : Int))) := by
    rw [opR_mul (mulOk_l (by omega) (by omega))]; simp
  have lz : m * z ≤ 8 := by
    have : z = 0 ∨ z = 1 := by omega
    rcases this with rfl | rfl <;> omega
  generalize hc : m * z = c at mu lz
  have rg := rng0 (j := (c : Int)) rfl (by omega)
  obtain ⟨ys, h4, e4, l4, q4, b4, o4⟩ := lcL_inv (f := lcT (Γc P (k + 2)) (.call lt [.var 0]) (.nm 8) .yes [some (.v (.ref n)), some (.v (.str s)), some (.v (.str g)), some (.v (.int (a : Nat))), some (.v (.bl back)), some (.v (.int (c : Nat))), none, none, none])
    (fun j h' => Bag1 h' n (b + 3 + 4 * j) ∧ Only1 h2 h' n) (fun y => ∃ o : Option Int, letterB (optT o) = true ∧ y = optT o) ((List.range c).map fun k : Nat => .int k) [] 0 h3 ⟨b3, o3⟩ (fun x hx j j1 j2 h' q => by
      obtain ⟨i, _, rfl⟩ := List.mem_map.mp hx
      simp only [List.length_map, List.length_range] at j2
      obtain ⟨o, h3, e3, lo, b3, o3⟩ := w_letterL ht k hlt q.1 (by omega)
      refine ⟨optT o, h3, ?_, ⟨o, lo, rfl⟩, b3.le (by omega), q.2.trans o3⟩
      simp [lcT, Tg.ixs, wipeT, e3]
      rfl) (by simp; show _ ≤ 16777216; omega)
  rw [List.length_map, List.length_range] at l4 b4
  obtain ⟨L, eL, hL⟩ : ∃ L : List (Option Int), ys = L.map optT ∧ ∀ o ∈ L, letterB (optT o) = true := by
    clear e4 l4
    induction ys with
    | nil => exact ⟨[], rfl, fun _ m => (List.not_mem_nil m).elim⟩
    | cons y r ih =>
      obtain ⟨zs, e, q⟩ := ih (fun y m => q4 y (by simp [m]))
      obtain ⟨o, ho, rfl⟩ := q4 y (by simp)
      refine ⟨o :: zs, by rw [e]; rfl, fun z m => ?_⟩
      rcases List.mem_cons.mp m with rfl | m
      · exact ho
      · exact q z m
  subst eL
  rw [List.length_map] at l4
  obtain ⟨d5, h5, e5, q5, b5, o5⟩ := w_take ht (k + 1) b4 (by omega) 5 (by decide) (by decide)
  have e5' : callK P (k + 4) t [.ref n, .int 5] h4 = .ok (.v (.int d5)) h5 := e5
  -- behind the room
  have tail : ∀ (room : T) (h6 : Hs), (room = .non ∨ ∃ r : Nat, room = .int r ∧ max 1 L.length ≤ r ∧ r ≤ 20) → Bag1 h6 n (b + 3 + 32 + 2) → Only1 h h6 n → ∃ (w : T) (h' : Hs), evSs (Γc P (k + 2)) [.ret (.tup [.var 1, .var 2, .var 3, .var 6, .bin .Add (.c (.int 1)) (.call t [.var 0, .ix (.lst [.c (.int 1), .c (.int 3), .c (.int 9)]) (.call t [.var 0, .c (.int 3)])]), .var 7])]
      [some (.v (.ref n)), some (.v (.str s)), some (.v (.str g)), some (.v (.int (a : Nat))), some (.v (.bl back)), some (.v (.int (c : Nat))), some (.v (.tup (L.map optT))), some (.v room), none] h6 = .ok (.ret (.v w)) [some (.v (.ref n)), some (.v (.str s)), some (.v (.str g)), some (.v (.int (a : Nat))), some (.v (.bl back)), some (.v (.int (c : Nat))), some (.v (.tup (L.map optT))), some (.v room), none] h' ∧ WireOk s g a w ∧ Bag1 h' n (b + 40) ∧ Only1 h h' n := fun room h6 hr bg6 o6 => by
    obtain ⟨d7, h7, e7, q7, b7, o7⟩ := w_take ht (k + 1) bg6 (by omega) 3 (by decide) (by decide)
    have e7' : callK P (k + 4) t [.ref n, .int 3] h6 = .ok (.v (.int d7)) h7 := e7
    obtain ⟨m7, em7, hm1, hm2⟩ := three_at d7 q7
    obtain ⟨d8, h8, e8, q8, b8, o8⟩ := w_take ht (k + 1) b7 (by omega) m7 (by omega) (by omega)
    have e8' : callK P (k + 4) t [.ref n, .int m7] h7 = .ok (.v (.int d8)) h8 := e8
    refine ⟨.tup [.str s, .str g, .int a, .tup (L.map optT), .int ((1 + d8 : Nat) : Int), room], h8, ?_, wire_ok hs hg hL (by omega) (by omega) (by omega) hr, b8.le (by omega), (o6.trans o7).trans o8⟩
    simp [e7', em7, e8', SL]
  have head : evSs (Γc P (k + 2)) [.asg 5 (.bin .Mult (.ix (.lst [.c (.int 0), .c (.int 1), .c (.int 1), .c (.int 2), .c (.int 3), .call t [.var 0, .c (.int 9)]]) (.call t [.var 0, .c (.int 6)])) (.blt .int [.bop .Or [.var 4, .cmp .Eq (.call t [.var 0, .c (.int 4)]) (.c (.int 0))]])), .asg 6 (.blt .tuple [.lc (.call lt [.var 0]) (.nm 8) (.r1 (.var 5)) .yes]), .asg 7 (.c .non)]
      [some (.v (.ref n)), some (.v (.str s)), some (.v (.str g)), some (.v (.int (a : Nat))), some (.v (.bl back)), none, none, none, none] h
      = .ok .nx [some (.v (.ref n)), some (.v (.str s)), some (.v (.str g)), some (.v (.int (a : Nat))), some (.v (.bl back)), some (.v (.int (c : Nat))), some (.v (.tup (L.map optT))), some (.v .non), none] h4 := by
    rw [evSs_cons, evS_asg, evE_bin]
    have eix : evE (Γc P (k + 2)) (.ix (.lst [.c (.int 0), .c (.int 1), .c (.int 1), .c (.int 2), .c (.int 3), .call t [.var 0, .c (.int 9)]]) (.call t [.var 0, .c (.int 6)])) [some (.v (.ref n)), some (.v (.str s)), some (.v (.str g)), some (.v (.int (a : Nat))), some (.v (.bl back)), none, none, none, none] h = .ok (.v (.int (m : Nat))) h2 := by
      simp [e1', e2', em, SL]
    rw [eix, Out.bind_ok, ez, Out.bind_ok]
    simp [mu, rg, e4, -List.map_map]
  have bt : wireT t lt = [.asg 5 (.bin .Mult (.ix (.lst [.c (.int 0), .c (.int 1), .c (.int 1), .c (.int 2), .c (.int 3), .call t [.var 0, .c (.int 9)]]) (.call t [.var 0, .c (.int 6)])) (.blt .int [.bop .Or [.var 4, .cmp .Eq (.call t [.var 0, .c (.int 4)]) (.c (.int 0))]])), .asg 6 (.blt .tuple [.lc (.call lt [.var 0]) (.nm 8) (.r1 (.var 5)) .yes]), .asg 7 (.c .non)] ++
    ([.ife (.t (.cmp .Eq (.call t [.var 0, .c (.int 5)]) (.c (.int 0)))) [.asg 7 (.bin .Add (.blt .max [.c (.int 1), .var 5]) (.call t [.var 0, .c (.int 4)]))] []] ++ [.ret (.tup [.var 1, .var 2, .var 3, .var 6, .bin .Add (.c (.int 1)) (.call t [.var 0, .ix (.lst [.c (.int 1), .c (.int 3), .c (.int 9)]) (.call t [.var 0, .c (.int 3)])]), .var 7])]) := rfl
  have st : startT 9 [.ref n, .str s, .str g, .int (a : Nat), .bl back] = [some (.v (.ref n)), some (.v (.str s)), some (.v (.str g)), some (.v (.int (a : Nat))), some (.v (.bl back)), none, none, none, none] := rfl
  simp only [bt, st]
  rw [evSs_app, head, SO.seq_nx, evSs_app]
  have o04 : Only1 h h4 n := (o1.trans o2).trans o4
  by_cases c5 : d5 = 0
  · subst c5
    have e5'' : callK P (k + 4) t [.ref n, .int 5] h4 = .ok (.v (.int 0)) h5 := e5
    obtain ⟨d6, h6, e6, q6, b6, o6⟩ := w_take ht (k + 1) b5 (by omega) 4 (by decide) (by decide)
    have e6' : callK P (k + 4) t [.ref n, .int 4] h5 = .ok (.v (.int d6)) h6 := e6
    obtain ⟨w, h', ew, ok, bg', o'⟩ := tail (.int (((if 1 < c then c else 1) + d6 : Nat) : Int)) h6 (.inr ⟨_, rfl, by split <;> omega, by split <;> omega⟩) (b6.le (by omega)) ((o04.trans o5).trans o6)
    refine ⟨w, h', ?_, ok, bg', o'⟩
    have mx : (if (1 : Int) < (c : Int) then (c : Int) else 1) + (d6 : Int) = (((if 1 < c then c else 1) + d6 : Nat) : Int) := by split <;> split <;> omega
    have mid : evSs (Γc P (k + 2)) [.ife (.t (.cmp .Eq (.call t [.var 0, .c (.int 5)]) (.c (.int 0)))) [.asg 7 (.bin .Add (.blt .max [.c (.int 1), .var 5]) (.call t [.var 0, .c (.int 4)]))] []] [some (.v (.ref n)), some (.v (.str s)), some (.v (.str g)), some (.v (.int (a : Nat))), some (.v (.bl back)), some (.v (.int (c : Nat))), some (.v (.tup (L.map optT))), some (.v .non), none] h4
        = .ok .nx [some (.v (.ref n)), some (.v (.str s)), some (.v (.str g)), some (.v (.int (a : Nat))), some (.v (.bl back)), some (.v (.int (c : Nat))), some (.v (.tup (L.map optT))), some (.v (.int (((if 1 < c then c else 1) + d6 : Nat) : Int))), none] h6 := by
      rw [← mx]
      simp [e5'', e6']
    rw [mid, SO.seq_nx, ew]; rfl
  · have c5' : ¬ (d5 : Int) = 0 := by omega
    obtain ⟨w, h', ew, ok, bg', o'⟩ := tail .non h5 (.inl rfl) (b5.le (by omega)) (o04.trans o5)
    refine ⟨w, h', ?_, ok, bg', o'⟩
    have mid : evSs (Γc P (k + 2)) [.ife (.t (.cmp .Eq (.call t [.var 0, .c (.int 5)]) (.c (.int 0)))) [.asg 7 (.bin .Add (.blt .max [.c (.int 1), .var 5]) (.call t [.var 0, .c (.int 4)]))] []] [some (.v (.ref n)), some (.v (.str s)), some (.v (.str g)), some (.v (.int (a : Nat))), some (.v (.bl back)), some (.v (.int (c : Nat))), some (.v (.tup (L.map optT))), some (.v .non), none] h4
        = .ok .nx [some (.v (.ref n)), some (.v (.str s)), some (.v (.str g)), some (.v (.int (a : Nat))), some (.v (.bl back)), some (.v (.int (c : Nat))), some (.v (.tup (L.map optT))), some (.v .non), none] h5 := by
      simp [e5', c5]
    rw [mid, SO.seq_nx, ew]; rfl
end
end VY
namespace VY
open PySem L2
inductive All2 {α β : Type} (Q : α → β → Prop) : List α → List β → Prop where
  | nil : All2 Q [] []
  | cons {a : α} {b : β} {as : List α} {bs : List β} : Q a b → All2 Q as bs → All2 Q (a :: as) (b :: bs)
theorem All2.length {α β : Type} {Q : α → β → Prop} {as : List α} {bs : List β} (h : All2 Q as bs) : as.length = bs.length := by
  induction h with
  | nil => rfl
  | cons _ _ ih => simp [ih]
theorem All2.get {α β : Type} {Q : α → β → Prop} {as : List α} {bs : List β} (h : All2 Q as bs) : ∀ {i : Nat} {a : α}, as[i]? = some a → ∃ b, bs[i]? = some b ∧ Q a b := by
  induction h with
  | nil => intro i a e; simp at e
  | @cons a b as bs q _ ih =>
    intro i a' e
    cases i with
    | zero => simp at e; subst e; exact ⟨b, rfl, q⟩
    | succ i => simpa using ih (by simpa using e)
theorem All2.mem {α β : Type} {Q : α → β → Prop} {as : List α} {bs : List β} (h : All2 Q as bs) : ∀ {b : β}, b ∈ bs → ∃ a ∈ as, Q a b := by
  induction h with
  | nil => intro b m; exact (List.not_mem_nil m).elim
  | @cons a b as bs q _ ih =>
    intro b' m
    rcases List.mem_cons.mp m with rfl | m
    · exact ⟨a, by simp, q⟩
    · obtain ⟨a', m', q'⟩ := ih m
      exact ⟨a', by simp [m'], q'⟩
theorem lcL_rel {f : T → Hs → Out (Option T)} (I : Nat → Hs → Prop) (Q : T → T → Prop) : ∀ (xs acc : List T) (k : Nat) (h : Hs), I k h → (∀ x ∈ xs, ∀ j, k ≤ j → j < k + xs.length → ∀ h, I j h → ∃ y h', f x h = .ok (some y) h' ∧ Q x y ∧ I (j + 1) h') → acc.length + xs.length ≤ SL →
    ∃ ys h', lcL f none xs acc h = .ok (acc ++ ys) h' ∧ All2 Q xs ys ∧ I (k + xs.length) h'
  | [], acc, k, h, i, _, _ => ⟨[], h, by rw [lcL_nil, List.append_nil], .nil, i⟩
  | x :: xs, acc, k, h, i, st, hl => by
    simp only [List.length_cons] at hl st
    obtain ⟨y, h1, e1, q1, i1⟩ := st x (by simp) k (by omega) (by omega) h i
    obtain ⟨ys, h2, e2, q2, i2⟩ := lcL_rel I Q xs (acc ++ [y]) (k + 1) h1 i1 (fun x m j a b => st x (by simp [m]) j (by omega) (by omega)) (by simp; omega)
    refine ⟨y :: ys, h2, ?_, .cons q1 q2, ?_⟩
    · rw [lcL, if_pos (gdB_none h), e1, Out.bind_ok]
      simp only []
      rw [if_pos (by omega), e2]
      simp
    · rw [List.length_cons, show k + (xs.length + 1) = k + 1 + xs.length by omega]; exact i2
def insE (x : Str) (E : List (Str × Int)) : List Int := (E.filter fun e => decide (e.1 = x)).map (·.2)
theorem insOf_E (x : Str) (ws : List T) : insOf x ws = insE x (ws.map endOf) := by
  unfold insOf insE
  rw [List.filter_map, List.map_map]
  rfl
theorem insE_app (x : Str) (a b : List (Str × Int)) : insE x (a ++ b) = insE x a ++ insE x b := by simp [insE]
theorem insE_no {x : Str} {E : List (Str × Int)} (h : ∀ e ∈ E, e.1 ≠ x) : insE x E = [] := by
  unfold insE
  rw [List.filter_eq_nil_iff.mpr (fun e m => by simpa using h e m)]
  rfl
theorem insE_all {x : Str} {E : List (Str × Int)} (h : ∀ e ∈ E, e.1 = x) : insE x E = E.map (·.2) := by
  unfold insE
  rw [List.filter_eq_self.mpr (fun e m => by simpa using h e m)]
theorem nodup_insE : ∀ {E : List (Str × Int)}, (∀ x, (insE x E).Nodup) → E.Nodup
  | [], _ => List.nodup_nil
  | e :: E, h => by
    rw [List.nodup_cons]
    refine ⟨fun m => ?_, nodup_insE fun x => ?_⟩
    · have := h e.1
      rw [show e :: E = [e] ++ E from rfl, insE_app, insE_all (by simp)] at this
      simp only [List.map_cons, List.map_nil, List.singleton_append, List.nodup_cons] at this
      exact this.1 (List.mem_map.mpr ⟨e, List.mem_filter.mpr ⟨m, by simp⟩, rfl⟩)
    · have := h x
      rw [show e :: E = [e] ++ E from rfl, insE_app] at this
      exact (List.nodup_append.mp this).2.1
/-- all ins of works, told by name and count -/
def E1 (L : List (Str × Nat)) : List (Str × Int) := L.flatMap fun p => (List.range p.2).map fun a : Nat => (p.1, (a : Int))
theorem E1_name {L : List (Str × Nat)} {e : Str × Int} (m : e ∈ E1 L) : e.1 ∈ L.map (·.1) := by
  obtain ⟨p, mp, me⟩ := List.mem_flatMap.mp m
  obtain ⟨a, _, rfl⟩ := List.mem_map.mp me
  exact List.mem_map_of_mem mp
theorem insE_one (x : Str) (m : Nat) : insE x ((List.range m).map fun a : Nat => (x, (a : Int))) = (List.range m).map fun k : Nat => (k : Int) := by
  rw [insE_all (fun e me => by obtain ⟨a, _, rfl⟩ := List.mem_map.mp me; rfl), List.map_map]
  rfl
theorem insE_E1 : ∀ {L : List (Str × Nat)} {x : Str} {m : Nat}, (L.map (·.1)).Nodup → (x, m) ∈ L → insE x (E1 L) = (List.range m).map fun k : Nat => (k : Int)
  | p :: L, x, m, nd, mem => by
    rw [List.map_cons, List.nodup_cons] at nd
    have ec : E1 (p :: L) = ((List.range p.2).map fun a : Nat => (p.1, (a : Int))) ++ E1 L := by simp [E1]
    rw [ec, insE_app]
    rcases List.mem_cons.mp mem with e | mem
    · subst e
      have no : insE x (E1 L) = [] := insE_no fun e me c => nd.1 (by have := E1_name me; rw [c] at this; exact this)
      rw [no, List.append_nil]
      exact insE_one x m
    · have ne : p.1 ≠ x := fun c => nd.1 (c ▸ List.mem_map.mpr ⟨(x, m), mem, rfl⟩)
      rw [insE_no (E := (List.range p.2).map _) (fun e me => by obtain ⟨a, _, rfl⟩ := List.mem_map.mp me; exact ne), List.nil_append, insE_E1 nd.2 mem]
theorem E1_snoc (L : List (Str × Nat)) (p : Str × Nat) : E1 (L ++ [p]) = E1 L ++ (List.range p.2).map fun a : Nat => (p.1, (a : Int)) := by simp [E1]
theorem E1_len {L : List (Str × Nat)} (h : ∀ p ∈ L, p.2 ≤ 7) : (E1 L).length ≤ 7 * L.length := by
  induction L with
  | nil => simp [E1]
  | cons p L ih =>
    have ec : E1 (p :: L) = ((List.range p.2).map fun a : Nat => (p.1, (a : Int))) ++ E1 L := by simp [E1]
    have := h p (by simp)
    have := ih fun q m => h q (by simp [m])
    rw [ec, List.length_append, List.length_map, List.length_range, List.length_cons]
    omega
/-- a drawn wire out of one of these -/
def WG (A : List Str) (w : T) : Prop := ∃ s g a, WireOk s g a w ∧ s ∈ A ∧ a ≤ 6
/-- what is drawn is a net -/
theorem net_made {A Ms : List Str} {IN : List (T × Nat)} {ws : List T} (hA : All2 (fun x p => InnerOk x p.1 p.2) A IN) (nA : ∀ x ∈ A, nameS x = true) (nM : ∀ x ∈ Ms, nameS x = true) (nd : (A ++ Ms).Nodup) (l1 : 1 ≤ A.length) (l2 : A.length ≤ 10) (l3 : Ms.length ≤ A.length)
    (hw : ∀ w ∈ ws, WG A w) (he : ws.map endOf = E1 (IN.map fun p => (nameOf p.1, p.2)) ++ Ms.map fun x => (x, (0 : Int))) (hs : ∀ x ∈ A, ∃ w ∈ ws, startOf w = x) :
    NetOk (IN.map (·.1) ++ Ms.map fun x => T.tup [.str "mouth", .str x]) ws := by
  have en : IN.map (fun p => nameOf p.1) = A := by
    clear nA nM nd l1 l2 l3 hw he hs
    induction hA with
    | nil => rfl
    | cons q _ ih => rw [List.map_cons, ih, q.n]
  have eL : (IN.map fun p => (nameOf p.1, p.2)).map (·.1) = A := by rw [List.map_map]; exact en
  have names : (IN.map (·.1) ++ Ms.map fun x => T.tup [.str "mouth", .str x]).map nameOf = A ++ Ms := by
    rw [List.map_append, List.map_map, List.map_map, show (nameOf ∘ fun x : T × Nat => x.1) = fun p => nameOf p.1 from rfl, en]
    congr 1
    exact (List.map_congr_left (fun x _ => rfl)).trans (List.map_id _)
  have ndA := (List.nodup_append.mp nd).1
  have ndM := (List.nodup_append.mp nd).2.1
  have dis := (List.nodup_append.mp nd).2.2
  have lI := hA.length
  have insA : ∀ x m, (x, m) ∈ (IN.map fun p => (nameOf p.1, p.2)) → insOf x ws = (List.range m).map fun k : Nat => (k : Int) := fun x m mem => by
    rw [insOf_E, he, insE_app, insE_E1 (by rw [eL]; exact ndA) mem, insE_no, List.append_nil]
    intro e me
    obtain ⟨y, my, rfl⟩ := List.mem_map.mp me
    have mx : x ∈ A := by rw [← eL]; exact List.mem_map.mpr ⟨(x, m), mem, rfl⟩
    exact fun c => dis x mx y my c.symm
  have insM : ∀ x ∈ Ms, insOf x ws = [0] := fun x mx => by
    rw [insOf_E, he, insE_app, insE_no (E := E1 _) (fun e me c => by
      have := E1_name me
      rw [eL] at this
      exact dis _ this x mx c), List.nil_append]
    have key : ∀ l : List Str, l.Nodup → x ∈ l → insE x (l.map fun x => (x, (0 : Int))) = [0] := fun l => by
      induction l with
      | nil => intro _ m; exact (List.not_mem_nil m).elim
      | cons y l ih =>
        intro nd m
        rw [List.nodup_cons] at nd
        rw [List.map_cons, show (y, (0 : Int)) :: l.map (fun x => (x, (0 : Int))) = [(y, 0)] ++ l.map (fun x => (x, (0 : Int))) from rfl, insE_app]
        by_cases c : y = x
        · subst c
          rw [insE_all (by simp), insE_no (fun e me => by obtain ⟨z, mz, rfl⟩ := List.mem_map.mp me; exact fun c => nd.1 (c ▸ mz))]
          rfl
        · rw [insE_no (by simpa using c), List.nil_append]
          exact ih nd.2 (by simpa [Ne.symm c] using m)
    exact key Ms ndM mx
  have insN : ∀ x, x ∉ A → x ∉ Ms → insOf x ws = [] := fun x h1 h2 => by
    rw [insOf_E, he]
    refine insE_no fun e me c => ?_
    rcases List.mem_append.mp me with me | me
    · have := E1_name me
      rw [eL, c] at this
      exact h1 this
    · obtain ⟨y, my, rfl⟩ := List.mem_map.mp me
      exact h2 (c ▸ my)
  have inIN : ∀ x ∈ A, ∃ m, (x, m) ∈ (IN.map fun p => (nameOf p.1, p.2)) := fun x mx => by
    rw [← eL] at mx
    obtain ⟨p, mp, rfl⟩ := List.mem_map.mp mx
    exact ⟨p.2, mp⟩
  refine { lw := ?_, w := ?_, nd := by rw [names]; exact nd, lv := ?_, v := ?_, ends := ?_, ins := ?_, out := ?_ }
  · simp only [List.length_append, List.length_map]; omega
  · intro t m
    rcases List.mem_append.mp m with m | m
    · obtain ⟨p, mp, rfl⟩ := List.mem_map.mp m
      obtain ⟨x, _, q⟩ := hA.mem mp
      exact ⟨q.w, q.f, q.d⟩
    · obtain ⟨x, mx, rfl⟩ := List.mem_map.mp m
      have h := nM x mx
      refine ⟨by show (nameS x && oneOf "mouth" plainL) = true; rw [h]; decide +kernel, by simp only [fineT, fineTs, lit_ok "mouth" (by simp), nm_ok h]; rfl, by simp [depT, depTs]⟩
  · have := congrArg List.length he
    rw [List.length_map, List.length_append, List.length_map] at this
    have l := E1_len (L := IN.map fun p => (nameOf p.1, p.2)) (fun p mp => by
      obtain ⟨q, mq, rfl⟩ := List.mem_map.mp mp
      obtain ⟨x, _, z⟩ := hA.mem mq
      exact z.mx)
    rw [List.length_map] at l
    omega
  · intro w m
    obtain ⟨s, g, a, ok, ms, la⟩ := hw w m
    rw [names]
    refine ⟨ok.b _ (oneOf_iff.mpr (List.mem_append_left _ ms)) (oneOf_iff.mpr ?_) la, ok.f⟩
    have me : endOf w ∈ ws.map endOf := List.mem_map_of_mem m
    rw [he, ok.e] at me
    rcases List.mem_append.mp me with me | me
    · have := E1_name me
      rw [eL] at this
      exact List.mem_append_left _ this
    · obtain ⟨y, my, ey⟩ := List.mem_map.mp me
      cases ey
      exact List.mem_append_right _ my
  · refine nodup_insE fun x => ?_
    rw [← insOf_E]
    by_cases h1 : x ∈ A
    · obtain ⟨m, mem⟩ := inIN x h1
      rw [insA x m mem]
      unfold List.Nodup
      rw [List.pairwise_map]
      exact List.pairwise_lt_range.imp fun h => by omega
    · by_cases h2 : x ∈ Ms
      · rw [insM x h2]; simp
      · rw [insN x h1 h2]; exact List.nodup_nil
  · intro t m
    rcases List.mem_append.mp m with m | m
    · obtain ⟨p, mp, rfl⟩ := List.mem_map.mp m
      obtain ⟨x, _, q⟩ := hA.mem mp
      refine ⟨p.2, ?_, q.fed⟩
      rw [insA (nameOf p.1) p.2 (List.mem_map.mpr ⟨p, mp, rfl⟩)]
    · obtain ⟨x, mx, rfl⟩ := List.mem_map.mp m
      refine ⟨1, ?_, ?_⟩
      · rw [show nameOf (.tup [.str "mouth", .str x]) = x from rfl, insM x mx]
        exact List.Perm.refl _
      · show (if ("mouth" : Str) = "spring" then decide (1 = 0) else if ("mouth" : Str) = "mouth" then decide (1 = 1) else decide (2 ≤ 1) && decide (1 ≤ 7)) = true
        decide +kernel
  · intro t m
    rcases List.mem_append.mp m with m | m
    · obtain ⟨p, mp, rfl⟩ := List.mem_map.mp m
      obtain ⟨x, mx, q⟩ := hA.mem mp
      rw [q.k, q.n]
      obtain ⟨w, mw, ew⟩ := hs x mx
      show ws.any _ = true
      exact List.any_eq_true.mpr ⟨w, mw, by simpa using ew⟩
    · obtain ⟨x, mx, rfl⟩ := List.mem_map.mp m
      rw [show nameOf (.tup [.str "mouth", .str x]) = x from rfl, show kindOf (.tup [.str "mouth", .str x]) = "mouth" from rfl, decide_eq_true rfl]
      show ws.any _ = false
      rw [Bool.eq_false_iff]
      intro c
      obtain ⟨w, mw, ew⟩ := List.any_eq_true.mp c
      obtain ⟨s, g, a, ok, ms, la⟩ := hw w mw
      rw [ok.s] at ew
      exact dis s ms x mx (of_decide_eq_true ew)
end VY
namespace VY
open PySem L2
def netL0 (t w : Nat) : List S := [.asg 11 (.call t [.var 0, .var 2]), .app 5 (.call w [.var 0, .ix (.var 3) (.var 11), .ix (.var 3) (.var 6), .var 9, .cmp .GtE (.var 11) (.var 6)])]
def netL1 (t w : Nat) : List S := [.for (.nm 9) (.r1 (.ix (.ix (.var 4) (.var 6)) (.c (.int 1)))) (netL0 t w)]
def netL2 (t w : Nat) : List S := [.ife (.bop .Or [.t (.cmp .NotIn (.ix (.var 3) (.var 6)) (.lc (.ix (.var 14) (.c (.int 0))) (.nm 14) (.e (.var 5)) .yes)), .t (.cmp .Eq (.call t [.var 0, .c (.int 6)]) (.c (.int 0)))]) [.app 7 (.tup [.c (.str "mouth"), .ix (.var 3) (.bin .Add (.var 2) (.var 6))]), .app 5 (.call w [.var 0, .ix (.var 3) (.var 6), .ix (.var 3) (.bin .Add (.var 2) (.var 6)), .c (.int 0), .c (.bl false)])] []]
def netA (t nm i : Nat) : List S := [.asg 2 (.bin .Add (.c (.int 1)) (.call t [.var 0, .var 1])), .asg 3 (.call nm [.var 0, .bin .Mult (.c (.int 2)) (.var 2)]), .fz 3, .asg 4 (.lc (.call i [.var 0, .var 10]) (.nm 10) (.e (.sl (.var 3) .no (.at (.var 2)))) .yes), .fz 4, .asg 5 (.lst [])]
def netZ (t : Nat) : List S := [.asg 8 (.call t [.var 0, .blt .len [.var 7]]), .ret (.tup [.blt .tuple [.bin .Add (.sl (.var 7) (.at (.var 8)) .no) (.sl (.var 7) .no (.at (.var 8)))], .blt .tuple [.ife (.t (.cmp .Eq (.call t [.var 0, .c (.int 2)]) (.c (.int 0)))) (.var 5) (.op .rev [.var 5])]])]
def netT (t nm i w : Nat) : List S := [.asg 2 (.bin .Add (.c (.int 1)) (.call t [.var 0, .var 1])), .asg 3 (.call nm [.var 0, .bin .Mult (.c (.int 2)) (.var 2)]), .fz 3, .asg 4 (.lc (.call i [.var 0, .var 10]) (.nm 10) (.e (.sl (.var 3) .no (.at (.var 2)))) .yes), .fz 4, .asg 5 (.lst []), .for (.nm 6) (.r1 (.var 2)) (netL1 t w), .asg 7 (.lc (.var 12) (.tp [.nm 12, .nm 13]) (.e (.var 4)) .yes), .for (.nm 6) (.r1 (.var 2)) (netL2 t w),
  .asg 8 (.call t [.var 0, .blt .len [.var 7]]), .ret (.tup [.blt .tuple [.bin .Add (.sl (.var 7) (.at (.var 8)) .no) (.sl (.var 7) .no (.at (.var 8)))], .blt .tuple [.ife (.t (.cmp .Eq (.call t [.var 0, .c (.int 2)]) (.c (.int 0)))) (.var 5) (.op .rev [.var 5])]])]
theorem netT_eq (t nm i w : Nat) : netT t nm i w = netA t nm i ++ ([.for (.nm 6) (.r1 (.var 2)) (netL1 t w)] ++ ([.asg 7 (.lc (.var 12) (.tp [.nm 12, .nm 13]) (.e (.var 4)) .yes)] ++ ([.for (.nm 6) (.r1 (.var 2)) (netL2 t w)] ++ netZ t))) := rfl
/-- the slots of a net's drawing -/
abbrev nSl (n most many : Nat) (xs : List Str) (IN : List (T × Nat)) (W : List T) (s6 s7 s8 s9 s10 s11 s12 s13 s14 : Option Sl) : Slots :=
  [some (.v (.ref n)), some (.v (.int (most : Nat))), some (.v (.int (many : Nat))), some (.v (.lst (xs.map .str))), some (.v (.lst (IN.map fun p => .tup [p.1, .int (p.2 : Nat)]))), some (.al W), s6, s7, s8, s9, s10, s11, s12, s13, s14]
/-- the defs of the drawing -/
structure DrawP (P : Pg) (t nm l i w : Nat) : Prop where
  dt : P.ds[t]? = some fdTake1
  dn : P.ds[nm]? = some ⟨2, 10, namesT t⟩
  dl : P.ds[l]? = some ⟨1, 2, letterT t⟩
  di : P.ds[i]? = some ⟨2, 5, innerT t⟩
  dw : P.ds[w]? = some ⟨5, 9, wireT t l⟩
section
variable {P : Pg} {t nm l i w : Nat} (D : DrawP P t nm l i w) (k : Nat)
include D
theorem ix_names {xs : List Str} {j : Nat} {x : Str} (e : xs[j]? = some x) (σ : Slots) (h : Hs) : L2.atI (xs.map T.str) (j : Int) = some (.str x) := by
  have l := (List.getElem?_eq_some_iff.mp e).1
  rw [atI_nat (by simpa using l)]
  simp
  exact (List.getElem?_eq_some_iff.mp e).2
theorem net_l0 {n b most many : Nat} {xs : List Str} {IN : List (T × Nat)} {W : List T} {h : Hs} (bg : Bag1 h n b) (hb : b ≤ 2 ^ 17) (hm : 1 ≤ many) (hm2 : many ≤ 10) (hx : xs.length = 2 * many) (nx : ∀ x ∈ xs, nameS x = true) (lW : W.length ≤ 1000) {kk : Nat} (hk : kk < many) {x : Str} (ex : xs[kk]? = some x) (a : Nat) (s7 s8 s9 s10 s11 s12 s13 s14 : Option Sl) (ha : a ≤ 6) :
    ∃ (wr : T) (h' : Hs) (s11' : Option Sl), forB (Γc P (k + 3)) (.nm 9) (netL0 t w) (.int (a : Nat)) (nSl n most many xs IN W (some (.v (.int (kk : Nat)))) s7 s8 s9 s10 s11 s12 s13 s14) h
      = .ok .nx (nSl n most many xs IN (W ++ [wr]) (some (.v (.int (kk : Nat)))) s7 s8 (some (.v (.int (a : Nat)))) s10 s11' s12 s13 s14) h' ∧ WG (xs.take many) wr ∧ endOf wr = (x, (a : Int)) ∧ Bag1 h' n (b + 41) ∧ Only1 h h' n := by
  obtain ⟨d, h1, e1, d1, b1, o1⟩ := w_take D.dt (k + 2) bg (by omega) many (by omega) (by omega)
  have e1' : callK P (k + 5) t [.ref n, .int many] h = .ok (.v (.int d)) h1 := e1
  have ld : d < xs.length := by omega
  have ey : xs[d]? = some xs[d] := List.getElem?_eq_getElem ld
  have iy := ix_names D ey [] h
  have ix := ix_names D ex [] h
  obtain ⟨wr, h2, e2, ok, b2, o2⟩ := w_wireL D.dt D.dl k D.dw b1 (by omega) (nx _ (List.getElem_mem ld)) (nx x (List.mem_of_getElem? ex)) a (decide (kk ≤ d))
  have sl : W.length < SL := by show _ < 16777216; omega
  refine ⟨wr, h2, some (.v (.int (d : Nat))), ?_, ⟨_, x, a, ok, ?_, ha⟩, ok.e, b2.le (by omega), o1.trans o2⟩
  · rw [forB_nm]
    simp only [nSl, List.set_cons_zero, List.set_cons_succ]
    simp [netL0, e1', iy, ix, e2, appOk, appS, sl]
  · rw [List.mem_take_iff_getElem]
    exact ⟨d, by omega, rfl⟩
/-- all ins of a work -/
theorem net_l1 {n b most many : Nat} {xs : List Str} {IN : List (T × Nat)} {W : List T} {h : Hs} (bg : Bag1 h n b) (hb : b ≤ 2 ^ 16) (hm : 1 ≤ many) (hm2 : many ≤ 10) (hx : xs.length = 2 * many) (nx : ∀ x ∈ xs, nameS x = true) (lW : W.length ≤ 900) {kk : Nat} (hk : kk < many) {x : Str} (ex : xs[kk]? = some x) {p : T × Nat} (ep : IN[kk]? = some p) (hp : p.2 ≤ 7) (s6 s7 s8 s9 s10 s11 s12 s13 s14 : Option Sl) :
    ∃ (V : List T) (h' : Hs) (s9' s11' : Option Sl), forB (Γc P (k + 3)) (.nm 6) (netL1 t w) (.int (kk : Nat)) (nSl n most many xs IN W s6 s7 s8 s9 s10 s11 s12 s13 s14) h
      = .ok .nx (nSl n most many xs IN (W ++ V) (some (.v (.int (kk : Nat)))) s7 s8 s9' s10 s11' s12 s13 s14) h' ∧ (∀ v ∈ V, WG (xs.take many) v) ∧ V.map endOf = ((List.range p.2).map fun a : Nat => (x, (a : Int))) ∧ Bag1 h' n (b + 41 * p.2) ∧ Only1 h h' n := by
  have rg := rng0 (j := (p.2 : Int)) rfl (by omega)
  have ip : L2.atI (IN.map fun p => T.tup [p.1, .int (p.2 : Nat)]) (kk : Int) = some (.tup [p.1, .int (p.2 : Nat)]) := by
    have l := (List.getElem?_eq_some_iff.mp ep).1
    rw [atI_nat (by simpa using l)]
    simp
    rw [(List.getElem?_eq_some_iff.mp ep).2]
    exact ⟨rfl, rfl⟩
  obtain ⟨σ', h', e, V, c9, c11, rfl, hV, eV, bV, oV⟩ := forL_run (body := forB (Γc P (k + 3)) (.nm 9) (netL0 t w)) (fun i σ h' => ∃ (V : List T) (c9 c11 : Option Sl), σ = nSl n most many xs IN (W ++ V) (some (.v (.int (kk : Nat)))) s7 s8 c9 s10 c11 s12 s13 s14 ∧ (∀ v ∈ V, WG (xs.take many) v) ∧ V.map endOf = ((List.range i).map fun a : Nat => (x, (a : Int))) ∧ Bag1 h' n (b + 41 * i) ∧ Only1 h h' n)
    ((List.range p.2).map fun k : Nat => .int k) 0 (fun i y ey σ h1 q => by
      obtain ⟨rfl, hi⟩ := rng_get ey
      obtain ⟨V, c9, c11, rfl, hV, eV, bV, oV⟩ := q
      rw [Nat.zero_add] at eV bV ⊢
      have lV : V.length = i := by have := congrArg List.length eV; simpa using this
      obtain ⟨wr, h2, c11', e2, q1, q2, b2, o2⟩ := net_l0 D k (h := h1) bV (by omega) hm hm2 hx nx (W := W ++ V) (IN := IN) (by simp; omega) hk ex i s7 s8 c9 s10 c11 s12 s13 s14 (by omega)
      refine ⟨_, h2, .inl e2, V ++ [wr], some (.v (.int (i : Nat))), c11', by simp, fun v m => ?_, ?_, b2.le (by omega), oV.trans o2⟩
      · rcases List.mem_append.mp m with m | m
        · exact hV v m
        · rw [List.mem_singleton.mp m]; exact q1
      · rw [List.map_append, eV, List.range_succ, List.map_append]
        simp [q2]) (nSl n most many xs IN W (some (.v (.int (kk : Nat)))) s7 s8 s9 s10 s11 s12 s13 s14) h ⟨[], s9, s11, by simp, fun _ m => (List.not_mem_nil m).elim, rfl, bg, Only1.refl⟩
  rw [List.length_map, List.length_range, Nat.zero_add] at eV bV
  refine ⟨V, h', c9, c11, ?_, hV, eV, bV, oV⟩
  rw [forB_nm]
  simp only [nSl, List.set_cons_zero, List.set_cons_succ] at e ⊢
  simp [netL1, ip, rg, e]
/-- all ins of all works -/
theorem net_s6 {n b most many : Nat} {xs : List Str} {IN : List (T × Nat)} {h : Hs} (bg : Bag1 h n b) (hb : b ≤ 2 ^ 15) (hm : 1 ≤ many) (hm2 : many ≤ 10) (hx : xs.length = 2 * many) (nx : ∀ x ∈ xs, nameS x = true) (hI : All2 (fun x p => InnerOk x p.1 p.2) (xs.take many) IN) :
    ∃ (W : List T) (h' : Hs) (s6 s9 s11 : Option Sl), evSs (Γc P (k + 3)) [.for (.nm 6) (.r1 (.var 2)) (netL1 t w)] (nSl n most many xs IN [] none none none none none none none none none) h
      = .ok .nx (nSl n most many xs IN W s6 none none s9 none s11 none none none) h' ∧ (∀ v ∈ W, WG (xs.take many) v) ∧ W.map endOf = E1 (IN.map fun p => (nameOf p.1, p.2)) ∧ Bag1 h' n (b + 2870) ∧ Only1 h h' n ∧ W.length ≤ 70 := by
  have rg := rng0 (j := (many : Int)) rfl (by omega)
  have lI : IN.length = many := by
    have := hI.length
    rw [List.length_take] at this
    omega
  obtain ⟨σ', h', e, W, c6, c9, c11, rfl, hW, eW, bW, oW⟩ := forL_run (body := forB (Γc P (k + 3)) (.nm 6) (netL1 t w)) (fun i σ h' => ∃ (W : List T) (c6 c9 c11 : Option Sl), σ = nSl n most many xs IN W c6 none none c9 none c11 none none none ∧ (∀ v ∈ W, WG (xs.take many) v) ∧ W.map endOf = E1 ((IN.take i).map fun p => (nameOf p.1, p.2)) ∧ Bag1 h' n (b + 287 * i) ∧ Only1 h h' n)
    ((List.range many).map fun k : Nat => .int k) 0 (fun i y ey σ h1 q => by
      obtain ⟨rfl, hi⟩ := rng_get ey
      obtain ⟨W, c6, c9, c11, rfl, hW, eW, bW, oW⟩ := q
      rw [Nat.zero_add] at eW bW ⊢
      have le : i < xs.length := by omega
      have ex : xs[i]? = some xs[i] := List.getElem?_eq_getElem le
      have ext : (xs.take many)[i]? = some xs[i] := by rw [List.getElem?_take_of_lt hi]; exact ex
      obtain ⟨p, ep, okp⟩ := hI.get ext
      have lW : W.length ≤ 70 := by
        have := congrArg List.length eW
        rw [List.length_map] at this
        have l := E1_len (L := (IN.take i).map fun p => (nameOf p.1, p.2)) (fun p mp => by
          obtain ⟨q, mq, rfl⟩ := List.mem_map.mp mp
          obtain ⟨x, _, z⟩ := hI.mem (List.mem_of_mem_take mq)
          exact z.mx)
        rw [List.length_map, List.length_take] at l
        omega
      obtain ⟨V, h2, c9', c11', e2, hV, eV, b2, o2⟩ := net_l1 D k (h := h1) bW (by omega) hm hm2 hx nx (W := W) (by omega) hi ex ep okp.mx c6 none none c9 none c11 none none none
      have := okp.mx
      refine ⟨_, h2, .inl e2, W ++ V, some (.v (.int (i : Nat))), c9', c11', rfl, fun v m => ?_, ?_, b2.le (by omega), oW.trans o2⟩
      · rcases List.mem_append.mp m with m | m
        · exact hW v m
        · exact hV v m
      · have et : IN.take (i + 1) = IN.take i ++ [p] := by
          rw [List.take_succ, ep]; rfl
        rw [List.map_append, eW, eV, et, List.map_append, List.map_singleton, E1_snoc, okp.n]) (nSl n most many xs IN [] none none none none none none none none none) h ⟨[], none, none, none, rfl, fun _ m => (List.not_mem_nil m).elim, rfl, bg, Only1.refl⟩
  rw [List.length_map, List.length_range, Nat.zero_add] at eW bW
  rw [List.take_of_length_le (by omega)] at eW
  refine ⟨W, h', c6, c9, c11, ?_, hW, eW, bW.le (by omega), oW, ?_⟩
  · simp only [nSl] at e ⊢
    simp [rg, e]
  · have := congrArg List.length eW
    rw [List.length_map] at this
    have l := E1_len (L := IN.map fun p => (nameOf p.1, p.2)) (fun p mp => by
      obtain ⟨q, mq, rfl⟩ := List.mem_map.mp mp
      obtain ⟨x, _, z⟩ := hI.mem mq
      exact z.mx)
    rw [List.length_map] at l
    omega
end
end VY
namespace VY
open PySem L2
abbrev mouthT (x : Str) : T := .tup [.str "mouth", .str x]
/-- the slots when mouths are put -/
abbrev mSl (n most many : Nat) (xs : List Str) (IN : List (T × Nat)) (W K : List T) (s6 s8 s9 s10 s11 s12 s13 s14 : Option Sl) : Slots :=
  [some (.v (.ref n)), some (.v (.int (most : Nat))), some (.v (.int (many : Nat))), some (.v (.lst (xs.map .str))), some (.v (.lst (IN.map fun p => .tup [p.1, .int (p.2 : Nat)]))), some (.al W), s6, some (.al K), s8, s9, s10, s11, s12, s13, s14]
section
variable {P : Pg} {t nm l i w : Nat} (N : NetP P) (D : DrawP P t nm l i w) (k : Nat)
include N D
theorem net_l2 {n b most many : Nat} {xs : List Str} {IN : List (T × Nat)} {W K : List T} {h : Hs} (bg : Bag1 h n b) (hb : b ≤ 2 ^ 16) (hm : 1 ≤ many) (hm2 : many ≤ 10) (hx : xs.length = 2 * many) (nx : ∀ x ∈ xs, nameS x = true) (lW : W.length ≤ 900) (lK : K.length ≤ 900) (hW : ∀ v ∈ W, WG (xs.take many) v) {kk : Nat} (hk : kk < many) {x y : Str} (ex : xs[kk]? = some x) (ey : xs[many + kk]? = some y) (s6 s8 s9 s10 s11 s12 s13 s14 : Option Sl) :
    ∃ (W' K' : List T) (h' : Hs), forB (Γc P (k + 3)) (.nm 6) (netL2 t w) (.int (kk : Nat)) (mSl n most many xs IN W K s6 s8 s9 s10 s11 s12 s13 s14) h
      = .ok .nx (mSl n most many xs IN W' K' (some (.v (.int (kk : Nat)))) s8 s9 s10 s11 s12 s13 s14) h' ∧ Bag1 h' n (b + 41) ∧ Only1 h h' n ∧
      ((W' = W ∧ K' = K ∧ ∃ v ∈ W, startOf v = x) ∨ ∃ v, W' = W ++ [v] ∧ K' = K ++ [mouthT y] ∧ WG (xs.take many) v ∧ endOf v = (y, (0 : Int)) ∧ startOf v = x) := by
  have ix := ix_names D ex [] h
  have iy := ix_names D ey [] h
  have iy' : L2.atI (xs.map T.str) ((many : Int) + (kk : Int)) = some (.str y) := iy
  have nmx := nx x (List.mem_of_getElem? ex)
  have nmy := nx y (List.mem_of_getElem? ey)
  have sh : ∀ v ∈ W, ∃ r, v = .tup (.str (startOf v) :: r) ∧ PyData.strOk (startOf v) = true := fun v m => by
    obtain ⟨s, g, a, ok, ms, la⟩ := hW v m
    have ns := nx s (List.mem_of_mem_take ms)
    have hb := ok.b [s, g] (oneOf_iff.mpr (by simp)) (oneOf_iff.mpr (by simp)) la
    obtain ⟨s2, fi, far, room, et, _, _⟩ := wireB_shape hb
    refine ⟨[.str (endOf v).1, .int (endOf v).2, .tup fi, far, room], ?_, by rw [ok.s]; exact nameS_ok ns⟩
    have : startOf v = s2 := by rw [et]; rfl
    rw [this]; exact et
  have lc := lcL_map (f := lcT (Γc P (k + 3)) (.ix (.var 14) (.c (.int 0))) (.nm 14) .yes (mSl n most many xs IN W K (some (.v (.int (kk : Nat)))) s8 s9 s10 s11 s12 s13 s14)) (g := none) (h := h) (fun v => .str (startOf v)) rfl W [] (fun v m => by
    obtain ⟨r, ev, _⟩ := sh v m
    have ix0 : ∀ σ, ixL P.wd σ (.v v) (.v (.int 0)) h = .ok (.v (.str (startOf v))) h := fun σ => by
      conv => lhs; rw [ev]
      simp
    simp [lcT, Tg.ixs, wipeT, ix0]
    rfl) (by show 0 + W.length ≤ 16777216; omega)
  have en : W.map (fun v => T.str (startOf v)) = (W.map startOf).map .str := by rw [List.map_map]; rfl
  rw [List.nil_append, en] at lc
  have ni := w_notin N x (W.map startOf) (nameS_ok nmx) (fun z hz => by
    obtain ⟨v, m, rfl⟩ := List.mem_map.mp hz
    obtain ⟨_, _, o⟩ := sh v m
    exact o)
  have slW : W.length < SL := by show _ < 16777216; omega
  have slK : K.length < SL := by show _ < 16777216; omega
  -- a mouth is put
  have put : ∀ (h0 : Hs), Bag1 h0 n (b + 1) → Only1 h h0 n → ∃ (v : T) (h' : Hs), evSs (Γc P (k + 3)) [.app 7 (.tup [.c (.str "mouth"), .ix (.var 3) (.bin .Add (.var 2) (.var 6))]), .app 5 (.call w [.var 0, .ix (.var 3) (.var 6), .ix (.var 3) (.bin .Add (.var 2) (.var 6)), .c (.int 0), .c (.bl false)])] (mSl n most many xs IN W K (some (.v (.int (kk : Nat)))) s8 s9 s10 s11 s12 s13 s14) h0
      = .ok .nx (mSl n most many xs IN (W ++ [v]) (K ++ [mouthT y]) (some (.v (.int (kk : Nat)))) s8 s9 s10 s11 s12 s13 s14) h' ∧ Bag1 h' n (b + 41) ∧ Only1 h h' n ∧ WG (xs.take many) v ∧ endOf v = (y, (0 : Int)) ∧ startOf v = x := fun h0 bg0 o0 => by
    obtain ⟨v, h', e, ok, b', o'⟩ := w_wireL D.dt D.dl k D.dw bg0 (by omega) nmx nmy 0 false
    have e' : callK P (k + 5) w [.ref n, .str x, .str y, .int 0, .bl false] h0 = .ok (.v v) h' := e
    refine ⟨v, h', ?_, b'.le (by omega), o0.trans o', ⟨x, y, 0, ok, ?_, by omega⟩, ok.e, ok.s⟩
    · simp only [mSl]
      simp [appOk, appS, ix, iy', e', slW, slK, SL]
    · rw [List.mem_take_iff_getElem]
      obtain ⟨lk, ek⟩ := List.getElem?_eq_some_iff.mp ex
      exact ⟨kk, by omega, ek⟩
  have ct : evE (Γc P (k + 3)) (.cmp .NotIn (.ix (.var 3) (.var 6)) (.lc (.ix (.var 14) (.c (.int 0))) (.nm 14) (.e (.var 5)) .yes)) (mSl n most many xs IN W K (some (.v (.int (kk : Nat)))) s8 s9 s10 s11 s12 s13 s14) h = .ok (.v (.bl (!oneOf x (W.map startOf)))) h := by
    have wk : walkL true (mSl n most many xs IN W K (some (.v (.int (kk : Nat)))) s8 s9 s10 s11 s12 s13 s14) h (.bw 5) = some ⟨W, none⟩ := rfl
    rw [evE_cmp]
    simp only [evE_lc, evIt_e, evE_ix, evE_var, List.getElem?_cons_succ, List.getElem?_cons_zero, varE_v, varE_al, Out.bind_ok, ixL_lst, seen_lst, ixR_lst, ix, Option.map_some, lift_some, wk, lc, cmpL_va, seen_str, cmpR_notin_lst, ni]
  rw [forB_nm]
  simp only [List.set_cons_zero, List.set_cons_succ]
  unfold netL2
  rw [evSs_cons, evS_ife, evC_bop, evCs_two, evC_t, ct, Out.bind_ok, truL_v, seen_bl, truT_bl, lift_some, Out.bind_ok]
  cases c : oneOf x (W.map startOf)
  · obtain ⟨v, h', e, b', o', q1, q2, q3⟩ := put h (bg.le (by omega)) Only1.refl
    refine ⟨_, _, h', ?_, b', o', .inr ⟨v, rfl, rfl, q1, q2, q3⟩⟩
    simp only [Bool.not_false, beq_self_eq_true, if_true, sb_ok, e, SO.seq_nx, evSs_nil, show ((BoolOp.Or == BoolOp.Or) = true) from rfl, show (true == (BoolOp.Or == BoolOp.Or)) = true from rfl]
  · obtain ⟨d, h1, e1, d1, b1, o1⟩ := w_take D.dt (k + 2) bg (by omega) 6 (by decide) (by decide)
    have e1' : callK P (k + 5) t [.ref n, .int 6] h = .ok (.v (.int d)) h1 := e1
    have c2 : evCs (Γc P (k + 3)) .Or [.t (.cmp .Eq (.call t [.var 0, .c (.int 6)]) (.c (.int 0)))] (mSl n most many xs IN W K (some (.v (.int (kk : Nat)))) s8 s9 s10 s11 s12 s13 s14) h = .ok (decide ((d : Int) = 0)) h1 := by
      rw [evCs_one, evC_t]
      simp only [mSl]
      simp [e1']
    simp only [Bool.not_true, show (false == (BoolOp.Or == BoolOp.Or)) = false from rfl, Bool.false_eq_true, if_false, c2, sb_ok]
    have hs := oneOf_iff.mp c
    obtain ⟨v0, m0, e0⟩ := List.mem_map.mp hs
    by_cases c3 : (d : Int) = 0
    · obtain ⟨v, h', e, b', o', q1, q2, q3⟩ := put h1 b1 o1
      refine ⟨_, _, h', ?_, b', o', .inr ⟨v, rfl, rfl, q1, q2, q3⟩⟩
      simp only [decide_eq_true c3, if_true, e, SO.seq_nx, evSs_nil]
    · refine ⟨W, K, h1, ?_, b1.le (by omega), o1, .inl ⟨rfl, rfl, v0, m0, e0⟩⟩
      simp only [decide_eq_false c3, Bool.false_eq_true, if_false, SO.seq_nx, evSs_nil]
/-- all mouths -/
theorem net_s8 {n b most many : Nat} {xs : List Str} {IN : List (T × Nat)} {W K0 : List T} {h : Hs} (bg : Bag1 h n b) (hb : b ≤ 2 ^ 15) (hm : 1 ≤ many) (hm2 : many ≤ 10) (hx : xs.length = 2 * many) (nx : ∀ x ∈ xs, nameS x = true) (nd : xs.Nodup) (lW : W.length ≤ 70) (lK : K0.length ≤ 10) (hW : ∀ v ∈ W, WG (xs.take many) v) (s6 s8 s9 s10 s11 s12 s13 s14 : Option Sl) :
    ∃ (V : List T) (Ms : List Str) (h' : Hs) (s6' : Option Sl), evSs (Γc P (k + 3)) [.for (.nm 6) (.r1 (.var 2)) (netL2 t w)] (mSl n most many xs IN W K0 s6 s8 s9 s10 s11 s12 s13 s14) h
      = .ok .nx (mSl n most many xs IN (W ++ V) (K0 ++ Ms.map mouthT) s6' s8 s9 s10 s11 s12 s13 s14) h' ∧ Bag1 h' n (b + 410) ∧ Only1 h h' n ∧ (∀ v ∈ V, WG (xs.take many) v) ∧ V.map endOf = Ms.map (fun x => (x, (0 : Int))) ∧ Ms.Nodup ∧ (∀ x ∈ Ms, x ∈ xs.drop many) ∧ Ms.length ≤ many ∧ ∀ x ∈ xs.take many, ∃ v ∈ W ++ V, startOf v = x := by
  have rg := rng0 (j := (many : Int)) rfl (by omega)
  have inj : ∀ {a b : Nat} {x : Str}, xs[a]? = some x → xs[b]? = some x → a = b := fun {a b x} ea eb => by
    obtain ⟨la, ha⟩ := List.getElem?_eq_some_iff.mp ea
    obtain ⟨lb, hb⟩ := List.getElem?_eq_some_iff.mp eb
    have pw := List.pairwise_iff_getElem.mp nd
    rcases Nat.lt_trichotomy a b with c | c | c
    · exact (pw a b la lb c (ha.trans hb.symm)).elim
    · exact c
    · exact (pw b a lb la c (hb.trans ha.symm)).elim
  obtain ⟨σ', h', e, V, Ms, c6, rfl, bV, oV, hV, eV, nM, iM, lM, sV⟩ := forL_run (body := forB (Γc P (k + 3)) (.nm 6) (netL2 t w)) (fun i σ h' => ∃ (V : List T) (Ms : List Str) (c6 : Option Sl), σ = mSl n most many xs IN (W ++ V) (K0 ++ Ms.map mouthT) c6 s8 s9 s10 s11 s12 s13 s14 ∧ Bag1 h' n (b + 41 * i) ∧ Only1 h h' n ∧ (∀ v ∈ V, WG (xs.take many) v) ∧ V.map endOf = Ms.map (fun x => (x, (0 : Int))) ∧ Ms.Nodup ∧ (∀ x ∈ Ms, ∃ j, j < i ∧ xs[many + j]? = some x) ∧ Ms.length ≤ i ∧ ∀ j x, j < i → xs[j]? = some x → ∃ v ∈ W ++ V, startOf v = x)
    ((List.range many).map fun k : Nat => .int k) 0 (fun i y0 ey0 σ h1 q => by
      obtain ⟨rfl, hi⟩ := rng_get ey0
      obtain ⟨V, Ms, c6, rfl, bV, oV, hV, eV, nM, iM, lM, sV⟩ := q
      rw [Nat.zero_add] at bV iM lM sV ⊢
      have le1 : i < xs.length := by omega
      have le2 : many + i < xs.length := by omega
      have ex : xs[i]? = some xs[i] := List.getElem?_eq_getElem le1
      have ey : xs[many + i]? = some xs[many + i] := List.getElem?_eq_getElem le2
      have lV : V.length = Ms.length := by have := congrArg List.length eV; simpa using this
      have hWV : ∀ v ∈ W ++ V, WG (xs.take many) v := fun v m => by
        rcases List.mem_append.mp m with m | m
        · exact hW v m
        · exact hV v m
      obtain ⟨W', K', h2, e2, b2, o2, q2⟩ := net_l2 N D k (h := h1) bV (by omega) hm hm2 hx nx (W := W ++ V) (K := K0 ++ Ms.map mouthT) (by simp; omega) (by simp; omega) hWV hi ex ey c6 s8 s9 s10 s11 s12 s13 s14
      rcases q2 with ⟨rfl, rfl, v, mv, ev⟩ | ⟨v, rfl, rfl, wg, ve, vs⟩
      · refine ⟨_, h2, .inl e2, V, Ms, some (.v (.int (i : Nat))), rfl, b2.le (by omega), oV.trans o2, hV, eV, nM, fun x m => ?_, by omega, fun j x hj ej => ?_⟩
        · obtain ⟨j, lj, ej⟩ := iM x m
          exact ⟨j, by omega, ej⟩
        · by_cases c : j = i
          · subst c
            rw [ex] at ej
            cases ej
            exact ⟨v, mv, ev⟩
          · exact sV j x (by omega) ej
      · refine ⟨_, h2, .inl e2, V ++ [v], Ms ++ [xs[many + i]], some (.v (.int (i : Nat))), by simp, b2.le (by omega), oV.trans o2, fun u m => ?_, by rw [List.map_append, eV]; simp [ve], ?_, fun x m => ?_, by simp; omega, fun j x hj ej => ?_⟩
        · rcases List.mem_append.mp m with m | m
          · exact hV u m
          · rw [List.mem_singleton.mp m]; exact wg
        · rw [List.nodup_append]
          refine ⟨nM, by simp, fun x m z mz => ?_⟩
          rw [List.mem_singleton.mp mz]
          obtain ⟨j, lj, ej⟩ := iM x m
          intro c
          subst c
          have := inj ej ey
          omega
        · rcases List.mem_append.mp m with m | m
          · obtain ⟨j, lj, ej⟩ := iM x m
            exact ⟨j, by omega, ej⟩
          · rw [List.mem_singleton.mp m]
            exact ⟨i, by omega, ey⟩
        · by_cases c : j = i
          · subst c
            rw [ex] at ej
            cases ej
            exact ⟨v, by simp, vs⟩
          · obtain ⟨u, mu, eu⟩ := sV j x (by omega) ej
            exact ⟨u, by rcases List.mem_append.mp mu with m | m <;> simp [m], eu⟩) (mSl n most many xs IN W K0 s6 s8 s9 s10 s11 s12 s13 s14) h ⟨[], [], s6, by simp, bg, Only1.refl, fun _ m => (List.not_mem_nil m).elim, rfl, List.nodup_nil, fun _ m => (List.not_mem_nil m).elim, by simp, fun j x hj => (Nat.not_lt_zero _ hj).elim⟩
  rw [List.length_map, List.length_range, Nat.zero_add] at bV iM lM sV
  refine ⟨V, Ms, h', c6, ?_, bV.le (by omega), oV, hV, eV, nM, fun x m => ?_, lM, fun x m => ?_⟩
  · simp only [mSl] at e ⊢
    simp [-List.append_assoc, -List.map_append, rg, e]
  · obtain ⟨j, lj, ej⟩ := iM x m
    rw [List.mem_drop_iff_getElem]
    obtain ⟨lk, ek⟩ := List.getElem?_eq_some_iff.mp ej
    exact ⟨j, by omega, by rw [← ek]⟩
  · rw [List.mem_take_iff_getElem] at m
    obtain ⟨j, lj, ej⟩ := m
    exact sV j x (by omega) (by rw [List.getElem?_eq_getElem (by omega), ej])
end
end VY
namespace VY
open PySem L2
theorem cut_to {l : List T} {d : Nat} (h : d ≤ l.length) : cutT l none (some (d : Int)) = l.take d := by
  unfold cutT
  rw [HT.sIx_nat, HT.sIx_none]
  simp
theorem cut_from {l : List T} {d : Nat} (h : d ≤ l.length) : cutT l (some (d : Int)) none = l.drop d := by
  unfold cutT
  rw [HT.sIx_nat, HT.sIx_none, show min d l.length = d by omega]
  rw [List.take_of_length_le (by simp)]
section
variable {P : Pg} {t nm l i w : Nat} (N : NetP P) (D : DrawP P t nm l i w) (k : Nat)
include N D
/-- _law_net(bag, most): a net -/
theorem w_net {f : Nat} (hf : P.ds[f]? = some ⟨2, 15, netT t nm i w⟩) {n b : Nat} {h : Hs} (bg : Bag1 h n b) (hb : b ≤ 2 ^ 14) {most : Nat} (hm : 1 ≤ most) (hm2 : most ≤ 10) :
    ∃ (wk ws : List T) (h' : Hs), callK P (k + 6) f [.ref n, .int (most : Nat)] h = .ok (.v (.tup [.tup wk, .tup ws])) h' ∧ NetOk wk ws ∧ Bag1 h' n (b + 4000) ∧ Only1 h h' n := by
  rw [callK_eq (k := k + 3) hf, runD_eq _ _ _ rfl]
  obtain ⟨d, h1, e1, d1, b1, o1⟩ := w_take D.dt (k + 2) bg (by omega) most (by omega) (by omega)
  have e1' : callK P (k + 5) t [.ref n, .int most] h = .ok (.v (.int d)) h1 := e1
  obtain ⟨many, em⟩ : ∃ many, many = 1 + d := ⟨_, rfl⟩
  obtain ⟨xs, h2, e2, l2, nx, nd, b2, o2⟩ := w_names D.dt (k + 1) D.dn b1 (by omega) (many := 2 * many) (by omega)
  have e2' : callK P (k + 5) nm [.ref n, .int ((2 * many : Nat) : Int)] h1 = .ok (.al (xs.map .str)) h2 := e2
  have m2 : opR .Mult (.int 2) (.int (many : Nat)) = some (.v (.int ((2 * many : Nat) : Int))) := by rw [opR_mul (mulOk_l (by decide) (by decide))]; simp
  have ct : cutT (xs.map T.str) none (some ((many : Nat) : Int)) = (xs.take many).map .str := by rw [cut_to (by simp; omega), List.map_take]
  obtain ⟨ys, h3, e3, q3, b3, o3⟩ := lcL_rel (f := lcT (Γc P (k + 3)) (.call i [.var 0, .var 10]) (.nm 10) .yes [some (.v (.ref n)), some (.v (.int (most : Nat))), some (.v (.int (many : Nat))), some (.v (.lst (xs.map .str))), none, none, none, none, none, none, none, none, none, none, none])
    (fun j h' => Bag1 h' n (b + 1 + 2 + 7 * (2 * many) + 5 * j) ∧ Only1 h h' n) (fun x y => ∃ (s : Str) (w : T) (m : Nat), x = .str s ∧ y = .tup [w, .int (m : Nat)] ∧ InnerOk s w m) ((xs.take many).map .str) [] 0 h2 ⟨b2, o1.trans o2⟩ (fun x hx j j1 j2 h' q => by
      obtain ⟨s, ms, rfl⟩ := List.mem_map.mp hx
      simp only [List.length_map, List.length_take] at j2
      obtain ⟨w', m, h3, e3, ok, b3, o3⟩ := w_inner D.dt (k + 1) D.di q.1 (by omega) (nx s (List.mem_of_mem_take ms))
      have e3' : callK P (k + 5) i [.ref n, .str s] h' = .ok (.v (.tup [w', .int (m : Nat)])) h3 := e3
      refine ⟨.tup [w', .int (m : Nat)], h3, ?_, ⟨s, w', m, rfl, rfl, ok⟩, b3.le (by omega), q.2.trans o3⟩
      simp [lcT, Tg.ixs, wipeT, e3']
      rfl) (by simp; show _ ≤ 16777216; omega)
  rw [List.length_map, List.length_take, Nat.zero_add, show min many xs.length = many by omega] at b3
  obtain ⟨IN, eI, hI⟩ : ∃ IN : List (T × Nat), ys = (IN.map fun p => .tup [p.1, .int (p.2 : Nat)]) ∧ All2 (fun x p => InnerOk x p.1 p.2) (xs.take many) IN := by
    clear e3
    generalize xs.take many = zs at q3
    generalize ez : zs.map T.str = us at q3
    induction q3 generalizing zs with
    | nil =>
      have : zs = [] := by cases zs with | nil => rfl | cons _ _ => cases ez
      subst this
      exact ⟨[], rfl, .nil⟩
    | cons q _ ih =>
      obtain ⟨s, w', m, rfl, rfl, ok⟩ := q
      cases zs with
      | nil => cases ez
      | cons z zs =>
        rw [List.map_cons] at ez
        injection ez with ez1 ez2
        injection ez1 with ez1
        subst ez1
        obtain ⟨IN, eI, hI⟩ := ih zs ez2
        exact ⟨(w', m) :: IN, by rw [eI]; rfl, .cons ok hI⟩
  subst eI
  have lI : IN.length = many := by
    have := hI.length
    rw [List.length_take] at this
    omega
  have A : evSs (Γc P (k + 3)) (netA t nm i) [some (.v (.ref n)), some (.v (.int (most : Nat))), none, none, none, none, none, none, none, none, none, none, none, none, none] h
      = .ok .nx (nSl n most many xs IN [] none none none none none none none none none) h3 := by
    have em' : (1 : Int) + (d : Int) = (many : Nat) := by omega
    have e2'' : callK P (k + 5) nm [.ref n, .int (2 * (many : Int))] h1 = .ok (.al (xs.map .str)) h2 := e2'
    have m2' : opR .Mult (.int 2) (.int (many : Nat)) = some (.v (.int (2 * (many : Int)))) := m2
    simp only [netA, nSl]
    simp [e1', em', m2', e2'', ct, -List.map_take, e3]
  obtain ⟨W, h4, s6, s9, s11, B, hW, eW, b4, o4, lW⟩ := net_s6 D k (most := most) b3 (by omega) (by omega) (by omega) (by omega) nx hI
  have C : evSs (Γc P (k + 3)) [.asg 7 (.lc (.var 12) (.tp [.nm 12, .nm 13]) (.e (.var 4)) .yes)] (nSl n most many xs IN W s6 none none s9 none s11 none none none) h4
      = .ok .nx (mSl n most many xs IN W (IN.map (·.1)) s6 none s9 none s11 none none none) h4 := by
    have lc := lcL_map (f := lcT (Γc P (k + 3)) (.var 12) (.tp [.nm 12, .nm 13]) .yes (nSl n most many xs IN W s6 none none s9 none s11 none none none)) (g := none) (h := h4) (fun t => match t with | .tup (a :: _) => a | _ => .non) rfl (IN.map fun p => .tup [p.1, .int (p.2 : Nat)]) [] (fun y hy => by
      obtain ⟨p, _, rfl⟩ := List.mem_map.mp hy
      simp [lcT, Tg.ixs, ixss, wipeT]
      rfl) (by simp; show _ ≤ 16777216; omega)
    have en : ((IN.map fun p => T.tup [p.1, .int (p.2 : Nat)]).map fun t => match t with | .tup (a :: _) => a | _ => .non) = IN.map (·.1) := by rw [List.map_map]; rfl
    rw [List.nil_append, en] at lc
    simp only [nSl] at lc ⊢
    simp [-List.map_map, lc]
  obtain ⟨V, Ms, h5, s6', Dd, b5, o5, hV, eV, nM, iM, lM, sV⟩ := net_s8 N D k (most := most) (IN := IN) (W := W) (K0 := IN.map (·.1)) b4 (by omega) (by omega) (by omega) (by omega) nx nd lW (by simp; omega) hW s6 none s9 none s11 none none none
  have mA := fun x m => nx x (List.mem_of_mem_take (l := xs) (i := many) (a := x) m)
  have ok : NetOk (IN.map (·.1) ++ Ms.map fun x => T.tup [.str "mouth", .str x]) (W ++ V) := by
    refine net_made (A := xs.take many) hI mA (fun x m => nx x (List.mem_of_mem_drop (iM x m))) ?_ (by simp; omega) (by simp; omega) (by simp; omega) (fun v m => ?_) ?_ sV
    · rw [List.nodup_append]
      have nd2 := nd
      rw [← List.take_append_drop many xs, List.nodup_append] at nd2
      exact ⟨nd2.1, nM, fun a ma c mc => nd2.2.2 a ma c (iM c mc)⟩
    · rcases List.mem_append.mp m with m | m
      · exact hW v m
      · exact hV v m
    · rw [List.map_append, eW, eV]
  generalize hK : IN.map (·.1) ++ Ms.map (fun x => T.tup [.str "mouth", .str x]) = K at ok
  have hK' : IN.map (·.1) ++ Ms.map mouthT = K := hK
  rw [hK'] at Dd
  obtain ⟨l1', l2'⟩ := ok.lw
  obtain ⟨d6, h6, e6, d6l, b6, o6⟩ := w_take D.dt (k + 2) b5 (by omega) K.length (by omega) (by omega)
  have e6' : callK P (k + 5) t [.ref n, .int (K.length : Nat)] h5 = .ok (.v (.int d6)) h6 := e6
  obtain ⟨d7, h7, e7, d7l, b7, o7⟩ := w_take D.dt (k + 2) b6 (by omega) 2 (by decide) (by decide)
  have e7' : callK P (k + 5) t [.ref n, .int 2] h6 = .ok (.v (.int d7)) h7 := e7
  have p1 : K.Perm (K.drop d6 ++ K.take d6) := by
    have := List.perm_append_comm (l₁ := K.take d6) (l₂ := K.drop d6)
    rwa [List.take_append_drop] at this
  have c1 := cut_from (l := K) (d := d6) (by omega)
  have c2 := cut_to (l := K) (d := d6) (by omega)
  have sl : (K.drop d6).length + (K.take d6).length ≤ SL := by
    rw [List.length_drop, List.length_take]
    show _ ≤ 16777216
    omega
  have sl2 : K.length - d6 + min d6 K.length ≤ 16777216 := by omega
  have tot : Only1 h h7 n := (((((o3.trans o4).trans o5).trans o6).trans o7))
  have last : ∃ ws : List T, (W ++ V).Perm ws ∧ evSs (Γc P (k + 3)) (netZ t) (mSl n most many xs IN (W ++ V) K s6' none s9 none s11 none none none) h5 = .ok (.ret (.v (.tup [.tup (K.drop d6 ++ K.take d6), .tup ws]))) (mSl n most many xs IN (W ++ V) K s6' (some (.v (.int (d6 : Nat)))) s9 none s11 none none none) h7 := by
    have k1 : ∀ h, peeks (mSl n most many xs IN (W ++ V) K s6' none s9 none s11 none none none) h [.bw 7] = some [.lst K] := fun h => rfl
    have k2 : ∀ l u h, slL (mSl n most many xs IN (W ++ V) K s6' (some (.v (.int (d6 : Nat)))) s9 none s11 none none none) (.bw 7) l u h = .ok (.al (cutT K l u)) h := fun l u h => rfl
    have k3 : ∀ h, peeks (mSl n most many xs IN (W ++ V) K s6' (some (.v (.int (d6 : Nat)))) s9 none s11 none none none) h [.bw 5] = some [.lst (W ++ V)] := fun h => rfl
    have k4 : ∀ h, peek (mSl n most many xs IN (W ++ V) K s6' (some (.v (.int (d6 : Nat)))) s9 none s11 none none none) h (.bw 5) = some (.lst (W ++ V)) := fun h => rfl
    simp only [mSl] at k1 k2 k3 k4 ⊢
    by_cases c : d7 = 0
    · subst c
      have e7'' : callK P (k + 5) t [.ref n, .int 2] h6 = .ok (.v (.int 0)) h7 := e7'
      refine ⟨W ++ V, List.Perm.refl _, ?_⟩
      simp [-List.append_assoc, netZ, k1, e6', k2, k3, c1, c2, e7'', sl2, SL]
    · refine ⟨(W ++ V).reverse, (List.reverse_perm _).symm, ?_⟩
      have c' : ¬ (d7 : Int) = 0 := by omega
      simp [-List.append_assoc, -List.reverse_append, netZ, k1, e6', k2, k4, c1, c2, e7', c, sl2, SL]
  obtain ⟨ws, pw, Z⟩ := last
  refine ⟨_, ws, h7, ?_, ok.perm p1 pw, b7.le (by omega), tot⟩
  have st : startT 15 [.ref n, .int (most : Nat)] = [some (.v (.ref n)), some (.v (.int (most : Nat))), none, none, none, none, none, none, none, none, none, none, none, none, none] := rfl
  simp only [st, netT_eq]
  rw [evSs_app, A, SO.seq_nx, evSs_app, B, SO.seq_nx, evSs_app, C, SO.seq_nx, evSs_app, Dd, SO.seq_nx, Z]
  rfl
end
end VY
namespace VY
open PySem L2
theorem join_len (a : Str) (ys : List Str) : (Txt.join a ys).length ≤ (ys.map (·.length)).sum + ys.length * a.length := by
  have e : (Txt.join a ys).length = (ys.map (·.length)).sum + (ys.length - 1) * a.length := by
    show (Builtin.Str.glued a ys).length = _
    exact size_glued a ys
  rw [e]
  have := Nat.mul_le_mul_right a.length (Nat.sub_le ys.length 1)
  omega
theorem sum_le {ys : List Str} {B : Nat} (h : ∀ y ∈ ys, y.length ≤ B) : (ys.map (·.length)).sum ≤ ys.length * B := by
  induction ys with
  | nil => simp
  | cons y r ih =>
    have := h y (by simp)
    have := ih fun z m => h z (by simp [m])
    rw [List.map_cons, List.sum_cons, List.length_cons, Nat.add_mul]
    omega
theorem int_len {i : Int} (h : i.natAbs.log2 < 1920) : (toString i : Str).length ≤ 1921 := PyProof.Rows.int_text_len_1921 h
theorem log_ok {i : Int} {b : Nat} (h : i.natAbs < 2 ^ 1920) : i.natAbs.log2 < 1920 := by
  by_cases c : i.natAbs = 0
  · rw [c]; decide
  · exact (Nat.log2_lt c).mpr h
theorem small_log {i : Int} (h : i.natAbs ≤ 2000000000) : i.natAbs.log2 < 1920 := by
  by_cases c : i.natAbs = 0
  · rw [c]; decide
  · refine (Nat.log2_lt c).mpr (Nat.lt_of_le_of_lt h ?_)
    decide +kernel
/-- parts one behind another -/
def catS : Str → List Str → Str
  | acc, [] => acc
  | acc, y :: ys => catS (acc ++ y) ys
theorem cp_cat : ∀ (ys : List Str) (acc : Str), (catS acc ys).cps.toList = acc.cps.toList ++ (ys.map fun y => y.cps.toList).flatten
  | [], acc => by simp [catS]
  | y :: ys, acc => by rw [catS, cp_cat ys, cp_app]; simp
theorem evJ_parts {Γ : VY.Ctx} {σ : Slots} {h : Hs} : ∀ {es : List E} {ys : List Str} {acc : Str}, All2 (fun e y => (evE Γ e σ h).bind (fmR Γ) = .ok y h) es ys → acc.length + (ys.map (·.length)).sum ≤ SL → evJ Γ es acc σ h = .ok (catS acc ys) h
  | [], _, acc, .nil, _ => by rw [evJ_nil, catS]
  | e :: es, y :: ys, acc, .cons q r, l => by
    rw [List.map_cons, List.sum_cons] at l
    have la : (acc ++ y).length = acc.length + y.length := by rw [len_cp, cp_app, List.length_append, ← len_cp, ← len_cp]
    have b : ∀ (g : Str → Hs → Out Str), ((evE Γ e σ h).bind fun r h1 => (fmR Γ r h1).bind g) = ((evE Γ e σ h).bind (fmR Γ)).bind g := fun g => by
      cases evE Γ e σ h <;> rfl
    rw [evJ_cons, b, q, Out.bind_ok, if_pos (by rw [la]; omega), evJ_parts r (by rw [la]; omega), catS]
theorem cp_join_cons (a x y : Str) (r : List Str) : (Txt.join a (x :: y :: r)).cps.toList = x.cps.toList ++ (a.cps.toList ++ (Txt.join a (y :: r)).cps.toList) := by
  have e : ∀ l, Txt.join a l = Str.join a l := fun l => StrLaws.glued_eq_join a l
  rw [e, e, show Str.join a (x :: y :: r) = x ++ a ++ Str.join a (y :: r) from rfl, cp_app, cp_app, List.append_assoc]
theorem cp_join_one (a x : Str) : (Txt.join a [x]).cps.toList = x.cps.toList := by
  have e : ∀ l, Txt.join a l = Str.join a l := fun l => StrLaws.glued_eq_join a l
  rw [e]
  rfl
def letTx : Option Int → Str
  | none => "!"
  | some i => toString i
def letsTx (L : List (Option Int)) : Str := if L.length = 0 then "-" else Txt.join " " (L.map letTx)
def roomTx : Option Int → Str
  | none => "-"
  | some i => toString i
structure WireD where
  s : Str
  g : Str
  a : Int
  L : List (Option Int)
  far : Int
  room : Option Int
def WireD.t (d : WireD) : T := .tup [.str d.s, .str d.g, .int d.a, .tup (d.L.map optT), .int d.far, optT d.room]
def WireD.words (d : WireD) : List Str := ["wire", d.s, d.g, toString d.a, toString d.far, roomTx d.room, letsTx d.L]
def WireD.tx (d : WireD) : Str := Txt.join " " d.words
structure WireD.Ok (d : WireD) : Prop where
  s : d.s.length ≤ 1000
  g : d.g.length ≤ 1000
  a : d.a.natAbs ≤ 2000000000
  L : ∀ o ∈ d.L, letterB (optT o) = true
  n : d.L.length ≤ 8
  far : d.far.natAbs ≤ 2000000000
  room : ∀ i, d.room = some i → i.natAbs ≤ 2000000000
theorem letter_small {o : Option Int} (h : letterB (optT o) = true) : ∀ i, o = some i → i.natAbs ≤ 2000000000 := fun i e => by
  subst e
  simp [optT, letterB] at h
  omega
theorem wire_d {names : List Str} {w : T} (h : wireB names w = true) (f : fineT w = true) : ∃ d : WireD, w = d.t ∧ d.Ok := by
  unfold wireB at h
  split at h
  · rename_i s g a fi far room
    simp only [Bool.and_eq_true] at h
    obtain ⟨h1, h2, h3, h4, h5, h6, h7⟩ := h
    simp only [fineT, fineTs, Bool.and_eq_true, decide_eq_true_eq] at f
    have int_of : ∀ {lo hi : Int} {t : T}, withinB lo hi t = true → ∃ i, t = .int i ∧ lo ≤ i ∧ i ≤ hi := fun {lo hi t} e => by
      cases t <;> first | (cases e; done) | (simp only [withinB, Bool.and_eq_true, decide_eq_true_eq] at e; exact ⟨_, rfl, e.1, e.2⟩)
    obtain ⟨i, rfl, a1, a2⟩ := int_of h3
    obtain ⟨j, rfl, b1, b2⟩ := int_of h6
    obtain ⟨L, rfl, hL⟩ : ∃ L : List (Option Int), fi = L.map optT ∧ ∀ o ∈ L, letterB (optT o) = true := by
      clear h4 h7 f
      rw [List.all_eq_true] at h5
      induction fi with
      | nil => exact ⟨[], rfl, fun _ m => (List.not_mem_nil m).elim⟩
      | cons y r ih =>
        obtain ⟨L, e, q⟩ := ih fun z m => h5 z (by simp [m])
        have hy := h5 y (by simp)
        obtain ⟨o, rfl⟩ : ∃ o, y = optT o := by
          cases y <;> first | (cases hy; done) | exact ⟨none, rfl⟩ | exact ⟨some _, rfl⟩
        refine ⟨o :: L, by rw [e]; rfl, fun z m => ?_⟩
        rcases List.mem_cons.mp m with rfl | m
        · exact hy
        · exact q z m
    obtain ⟨o, rfl, ho⟩ : ∃ o : Option Int, room = optT o ∧ ∀ i, o = some i → i.natAbs ≤ 2000000000 := by
      unfold roomB at h7
      split at h7
      · exact ⟨none, rfl, fun i e => by cases e⟩
      · obtain ⟨m, rfl, m1, m2⟩ := int_of h7
        refine ⟨some m, rfl, fun i e => ?_⟩
        cases e
        split at m1 <;> omega
    refine ⟨⟨s, g, i, L, j, o⟩, rfl, ⟨f.2.1.1, f.2.2.1.1, by show i.natAbs ≤ _; omega, hL, ?_, by show j.natAbs ≤ _; omega, ho⟩⟩
    simpa using h4
  · cases h
theorem let_len {o : Option Int} (h : ∀ i, o = some i → i.natAbs ≤ 2000000000) : (letTx o).length ≤ 1921 := by
  cases o with
  | none => decide +kernel
  | some i => exact int_len (small_log (h i rfl))
theorem room_len {o : Option Int} (h : ∀ i, o = some i → i.natAbs ≤ 2000000000) : (roomTx o).length ≤ 1921 := by
  cases o with
  | none => decide +kernel
  | some i => exact int_len (small_log (h i rfl))
theorem one_len : (" " : Str).length = 1 ∧ ("\n" : Str).length = 1 := by decide +kernel
theorem lets_sum {L : List (Option Int)} (h : ∀ o ∈ L, letterB (optT o) = true) (n : L.length ≤ 8) : ((L.map letTx).map (·.length)).sum + (L.map letTx).length * (" " : Str).length ≤ 16000 := by
  have := sum_le (ys := L.map letTx) (B := 1921) (fun y m => by
    obtain ⟨o, mo, rfl⟩ := List.mem_map.mp m
    exact let_len (letter_small (h o mo)))
  rw [one_len.1]
  rw [List.length_map] at this ⊢
  have : L.length * 1921 ≤ 8 * 1921 := Nat.mul_le_mul_right _ n
  omega
theorem lets_len {L : List (Option Int)} (h : ∀ o ∈ L, letterB (optT o) = true) (n : L.length ≤ 8) : (letsTx L).length ≤ 16000 := by
  unfold letsTx
  split
  · decide +kernel
  · exact Nat.le_trans (join_len _ _) (lets_sum h n)
theorem WireD.Ok.sum {d : WireD} (k : d.Ok) : (d.words.map (·.length)).sum + d.words.length * (" " : Str).length ≤ 24000 := by
  have h1 := k.s
  have h2 := k.g
  have h3 := int_len (small_log k.a)
  have h4 := int_len (small_log k.far)
  have h5 := room_len k.room
  have h6 := lets_len k.L k.n
  have h7 : ("wire" : Str).length = 4 := by decide +kernel
  rw [one_len.1]
  simp only [WireD.words, List.map_cons, List.map_nil, List.sum_cons, List.sum_nil, List.length_cons, List.length_nil, h7]
  omega
theorem WireD.Ok.len {d : WireD} (k : d.Ok) : d.tx.length ≤ 24000 := Nat.le_trans (join_len _ _) k.sum
def letterTT (gb : Nat) : List S := [.ret (.ife (.t (.cmp .Is (.var 0) (.c .non))) (.gl gb) (.blt .str [.var 0]))]
def lettersTT (a gn : Nat) : List S := [.ret (.ife (.t (.cmp .Eq (.blt .len [.var 0]) (.c (.int 0)))) (.gl gn) (.mth .join (.c (.str " ")) [.lc (.call a [.var 1]) (.nm 1) (.e (.var 0)) .yes]))]
def wireTT (b gn : Nat) : List S := [.asgT (.tp [.nm 1, .nm 2, .nm 3, .nm 4, .nm 5, .nm 6]) (.var 0), .ret (.fs [.c (.str "wire "), .var 1, .c (.str " "), .var 2, .c (.str " "), .var 3, .c (.str " "), .var 5, .c (.str " "), .ife (.t (.cmp .Is (.var 6) (.c .non))) (.gl gn) (.var 6), .c (.str " "), .call b [.var 4]])]
structure TextP (P : Pg) (a b c gb gn : Nat) : Prop where
  da : P.ds[a]? = some ⟨1, 1, letterTT gb⟩
  db : P.ds[b]? = some ⟨1, 2, lettersTT a gn⟩
  dc : P.ds[c]? = some ⟨1, 7, wireTT b gn⟩
  gb : P.gv gb = some (.str "!")
  gn : P.gv gn = some (.str "-")
theorem str_int {i : Int} (h : i.natAbs ≤ 2000000000) : bltR .str [.int i] = some (.v (.str (toString i))) := by
  show (if i.natAbs.log2 < 1920 then some (R.v (.str (toString i))) else none) = _
  rw [if_pos (small_log h)]
section
variable {P : Pg} {a b c gb gn : Nat} (X : TextP P a b c gb gn) (k : Nat)
include X
theorem w_letT {o : Option Int} (ho : ∀ i, o = some i → i.natAbs ≤ 2000000000) (h : Hs) : callK P (k + 3) a [optT o] h = .ok (.v (.str (letTx o))) h := by
  rw [callK_eq X.da, runD_eq _ _ _ rfl]
  cases o with
  | none => simp [letterTT, startT, optT, X.gb, letTx]
  | some i =>
    have := str_int (ho i rfl)
    simp [letterTT, startT, optT, this, letTx]
theorem w_letsT {L : List (Option Int)} (hL : ∀ o ∈ L, letterB (optT o) = true) (n : L.length ≤ 8) (h : Hs) : callK P (k + 4) b [.tup (L.map optT)] h = .ok (.v (.str (letsTx L))) h := by
  rw [callK_eq (k := k + 1) X.db, runD_eq _ _ _ rfl]
  by_cases c0 : L.length = 0
  · have : ((L.length : Nat) : Int) = 0 := by omega
    simp [lettersTT, startT, this, X.gn, letsTx, c0]
  · have c1 : ¬ ((L.length : Nat) : Int) = 0 := by omega
    have lc := lcL_map (f := lcT (Γc P (k + 1)) (.call a [.var 1]) (.nm 1) .yes [some (.v (.tup (L.map optT))), none]) (g := none) (h := h) (fun t => match t with | .int i => .str (letTx (some i)) | _ => .str (letTx none)) rfl (L.map optT) [] (fun y hy => by
      obtain ⟨o, mo, rfl⟩ := List.mem_map.mp hy
      have := w_letT X k (o := o) (letter_small (hL o mo)) h
      cases o with
      | none =>
        have this : callK P (k + 3) a [.non] h = .ok (.v (.str (letTx none))) h := this
        simp [lcT, Tg.ixs, wipeT, optT, this]; rfl
      | some i =>
        have this : callK P (k + 3) a [.int i] h = .ok (.v (.str (letTx (some i)))) h := this
        simp [lcT, Tg.ixs, wipeT, optT, this]; rfl) (by simp; show _ ≤ 16777216; omega)
    have en : (L.map optT).map (fun t => match t with | .int i => T.str (letTx (some i)) | _ => .str (letTx none)) = (L.map letTx).map .str := by
      rw [List.map_map, List.map_map]
      refine List.map_congr_left fun o _ => ?_
      cases o <;> rfl
    rw [en, List.nil_append] at lc
    have js := lets_sum hL n
    have js2 : ((L.map letTx).map (·.length)).sum + (L.map letTx).length * (" " : Str).length ≤ SL := Nat.le_trans js (by decide)
    have jn : joL " " (some (.lst ((L.map letTx).map .str))) h = .ok (.v (.str (Txt.join " " (L.map letTx)))) h := by
      rw [joL_lst, strs_ok, Option.bind_some, if_pos js2]; rfl
    simp only [lettersTT]
    simp [startT, c0, -List.map_map, lc, -joL_lst, jn, letsTx]
theorem w_wireT {d : WireD} (ok : d.Ok) (h : Hs) : callK P (k + 5) c [d.t] h = .ok (.v (.str d.tx)) h := by
  rw [callK_eq (k := k + 2) X.dc, runD_eq _ _ _ rfl]
  have ls := w_letsT X k ok.L ok.n h
  have st : startT 7 [d.t] = [some (.v d.t), none, none, none, none, none, none] := rfl
  have hs := ok.s
  have hg := ok.g
  have ha := small_log ok.a
  have hf := small_log ok.far
  have ll := lets_len ok.L ok.n
  have sl : ∀ y : Str, y.length ≤ 30000 → y.length ≤ SL := fun y h => Nat.le_trans h (by decide)
  have l5 : ("wire " : Str).length = 5 := by decide +kernel
  have parts : All2 (fun e y => (evE (Γc P (k + 2)) e [some (.v d.t), some (.v (.str d.s)), some (.v (.str d.g)), some (.v (.int d.a)), some (.v (.tup (d.L.map optT))), some (.v (.int d.far)), some (.v (optT d.room))] h).bind (fmR (Γc P (k + 2))) = .ok y h)
      [.c (.str "wire "), .var 1, .c (.str " "), .var 2, .c (.str " "), .var 3, .c (.str " "), .var 5, .c (.str " "), .ife (.t (.cmp .Is (.var 6) (.c .non))) (.gl gn) (.var 6), .c (.str " "), .call b [.var 4]]
      ["wire ", d.s, " ", d.g, " ", toString d.a, " ", toString d.far, " ", roomTx d.room, " ", letsTx d.L] := by
    have s1 : (" " : Str).length ≤ SL := by decide +kernel
    refine .cons ?_ (.cons ?_ (.cons ?_ (.cons ?_ (.cons ?_ (.cons ?_ (.cons ?_ (.cons ?_ (.cons ?_ (.cons ?_ (.cons ?_ (.cons ?_ .nil)))))))))))
    · simp only [evE_c, CT_str, Out.bind_ok, fmR_str, if_pos (sl "wire " (by rw [l5]; decide))]
    · simp only [evE_var, List.getElem?_cons_succ, List.getElem?_cons_zero, varE_v, Out.bind_ok, fmR_str, if_pos (sl d.s (by omega))]
    · simp only [evE_c, CT_str, Out.bind_ok, fmR_str, if_pos s1]
    · simp only [evE_var, List.getElem?_cons_succ, List.getElem?_cons_zero, varE_v, Out.bind_ok, fmR_str, if_pos (sl d.g (by omega))]
    · simp only [evE_c, CT_str, Out.bind_ok, fmR_str, if_pos s1]
    · simp only [evE_var, List.getElem?_cons_succ, List.getElem?_cons_zero, varE_v, Out.bind_ok, fmR_int, if_pos ha]
    · simp only [evE_c, CT_str, Out.bind_ok, fmR_str, if_pos s1]
    · simp only [evE_var, List.getElem?_cons_succ, List.getElem?_cons_zero, varE_v, Out.bind_ok, fmR_int, if_pos hf]
    · simp only [evE_c, CT_str, Out.bind_ok, fmR_str, if_pos s1]
    · cases er : d.room with
      | none =>
        have z : ("-" : Str).length ≤ SL := by decide +kernel
        simp [optT, X.gn, roomTx]
        exact z
      | some i =>
        have := small_log (ok.room i er)
        simp [optT, roomTx, this]
    · simp only [evE_c, CT_str, Out.bind_ok, fmR_str, if_pos s1]
    · simp [ls]
      exact sl _ (by omega)
  have sum := ok.sum
  have tot : Str.empty.length + (([("wire " : Str), d.s, " ", d.g, " ", toString d.a, " ", toString d.far, " ", roomTx d.room, " ", letsTx d.L] : List Str).map (·.length)).sum ≤ SL := by
    have h7 : ("wire" : Str).length = 4 := by decide +kernel
    have h0 : Str.empty.length = 0 := rfl
    simp only [WireD.words, List.map_cons, List.map_nil, List.sum_cons, List.sum_nil, List.length_cons, List.length_nil, h7, one_len.1, l5, h0] at sum ⊢
    show _ ≤ 16777216
    omega
  have J := evJ_parts parts tot
  have eq : catS Str.empty [("wire " : Str), d.s, " ", d.g, " ", toString d.a, " ", toString d.far, " ", roomTx d.room, " ", letsTx d.L] = d.tx := by
    refine str_ext ?_
    have e0 : ("wire " : Str).cps.toList = ("wire" : Str).cps.toList ++ (" " : Str).cps.toList := by decide +kernel
    rw [cp_cat]
    simp only [WireD.tx, WireD.words, cp_join_cons, cp_join_one, List.map_cons, List.map_nil, List.flatten_cons, List.flatten_nil, e0, List.append_assoc, List.append_nil]
    rfl
  rw [eq] at J
  simp only [wireTT, st]
  have dt : d.t = .tup [.str d.s, .str d.g, .int d.a, .tup (d.L.map optT), .int d.far, optT d.room] := rfl
  have e1 : evS (Γc P (k + 2)) (.asgT (.tp [.nm 1, .nm 2, .nm 3, .nm 4, .nm 5, .nm 6]) (.var 0)) [some (.v d.t), none, none, none, none, none, none] h = .ok .nx [some (.v d.t), some (.v (.str d.s)), some (.v (.str d.g)), some (.v (.int d.a)), some (.v (.tup (d.L.map optT))), some (.v (.int d.far)), some (.v (optT d.room))] h := by
    rw [dt]; simp
  rw [evSs_cons, e1, SO.seq_nx, evSs_cons, evS_ret, evE_fs, J]
  simp
end
end VY
namespace VY
open PySem L2
theorem ok_lit (s : String) : PyData.strOk (Str.ofString s) = true := by
  rw [Str.ofString_eq_toList]
  unfold PyData.strOk
  rw [Array.all_eq_true']
  intro x hx
  have hx : x ∈ s.toList.map Char.toNat := by simpa using hx
  obtain ⟨c, _, rfl⟩ := List.mem_map.mp hx
  have := c.valid
  refine decide_eq_true ?_
  have h : c.toNat < 1114112 := by
    rcases this with h | ⟨_, h⟩
    · exact Nat.lt_trans h (by decide)
    · exact h
  exact h
theorem ok_cp {s : Str} : PyData.strOk s = true ↔ ∀ x ∈ s.cps.toList, x < 1114112 := by
  unfold PyData.strOk
  rw [Array.all_eq_true']
  simp
theorem ok_join {a : Str} (ha : PyData.strOk a = true) : ∀ {ys : List Str}, (∀ y ∈ ys, PyData.strOk y = true) → PyData.strOk (Txt.join a ys) = true
  | [], _ => by
    rw [show Txt.join a [] = Str.join a [] from StrLaws.glued_eq_join a []]
    rw [ok_cp]
    simp [Str.join, Str.empty]
  | [x], h => by
    rw [ok_cp, cp_join_one]
    exact ok_cp.mp (h x (by simp))
  | x :: y :: r, h => by
    rw [ok_cp, cp_join_cons]
    intro c m
    rcases List.mem_append.mp m with m | m
    · exact ok_cp.mp (h x (by simp)) c m
    · rcases List.mem_append.mp m with m | m
      · exact ok_cp.mp ha c m
      · exact ok_cp.mp (ok_join ha (ys := y :: r) fun z mz => h z (by simp [mz])) c m
theorem eqT_refl {t : T} (e : fineT t = true) (l : depT t ≤ 64) : eqT t t = some true := by
  obtain ⟨d, a, b⟩ := fine_shp e l
  unfold eqT
  rw [a]
  simp only [b, Bool.and_self, if_true]
  have : d.canLay0 = true := by
    simp [SeqAt.shaped] at b
    exact b.1
  rw [SeqAt.eqv_refl d this]
theorem work_d {t : T} (h : workB t = true) (f : fineT t = true) : ∃ ss : List Str, t = .tup (ss.map .str) ∧ ss.length ≤ 3 ∧ ∀ s ∈ ss, s.length ≤ 1000 ∧ PyData.strOk s = true := by
  unfold workB at h
  split at h
  · rename_i k x
    simp only [fineT, fineTs, Bool.and_eq_true, decide_eq_true_eq] at f
    refine ⟨[k, x], rfl, by simp, fun s m => ?_⟩
    simp at m
    rcases m with rfl | rfl
    · exact f.2.1
    · exact f.2.2.1
  · rename_i k x w
    simp only [fineT, fineTs, Bool.and_eq_true, decide_eq_true_eq] at f
    refine ⟨[k, x, w], rfl, by simp, fun s m => ?_⟩
    simp at m
    rcases m with rfl | rfl | rfl
    · exact f.2.1
    · exact f.2.2.1
    · exact f.2.2.2.1
  · cases h
/-- a net, told by words -/
structure NetD (wk ws : List T) (A : List (List Str)) (B : List WireD) : Prop where
  k : wk = A.map fun ss => .tup (ss.map .str)
  v : ws = B.map WireD.t
  a : ∀ ss ∈ A, ss.length ≤ 3 ∧ ∀ s ∈ ss, s.length ≤ 1000 ∧ PyData.strOk s = true
  b : ∀ d ∈ B, d.Ok ∧ PyData.strOk d.s = true ∧ PyData.strOk d.g = true
  la : A.length ≤ 40
  lb : B.length ≤ 100
theorem net_d {wk ws : List T} (n : NetOk wk ws) : ∃ A B, NetD wk ws A B := by
  obtain ⟨A, e1, h1⟩ : ∃ A : List (List Str), wk = (A.map fun ss => .tup (ss.map .str)) ∧ ∀ ss ∈ A, ss.length ≤ 3 ∧ ∀ s ∈ ss, s.length ≤ 1000 ∧ PyData.strOk s = true := by
    have hw : ∀ t ∈ wk, workB t = true ∧ fineT t = true := fun t m => ⟨(n.w t m).1, (n.w t m).2.1⟩
    clear n
    induction wk with
    | nil => exact ⟨[], rfl, fun _ m => (List.not_mem_nil m).elim⟩
    | cons t r ih =>
      obtain ⟨A, e, h⟩ := ih fun t m => hw t (by simp [m])
      obtain ⟨ss, es, l, q⟩ := work_d (hw t (by simp)).1 (hw t (by simp)).2
      refine ⟨ss :: A, by rw [e, es]; rfl, fun z m => ?_⟩
      rcases List.mem_cons.mp m with rfl | m
      · exact ⟨l, q⟩
      · exact h z m
  obtain ⟨B, e2, h2⟩ : ∃ B : List WireD, ws = B.map WireD.t ∧ ∀ d ∈ B, d.Ok ∧ PyData.strOk d.s = true ∧ PyData.strOk d.g = true := by
    have hv : ∀ t ∈ ws, wireB (wk.map nameOf) t = true ∧ fineT t = true := n.v
    clear n e1
    induction ws with
    | nil => exact ⟨[], rfl, fun _ m => (List.not_mem_nil m).elim⟩
    | cons t r ih =>
      obtain ⟨B, e, h⟩ := ih fun t m => hv t (by simp [m])
      obtain ⟨d, ed, ok⟩ := wire_d (hv t (by simp)).1 (hv t (by simp)).2
      have f := (hv t (by simp)).2
      rw [ed] at f
      simp only [WireD.t, fineT, fineTs, Bool.and_eq_true] at f
      refine ⟨d :: B, by rw [e, ed]; rfl, fun z m => ?_⟩
      rcases List.mem_cons.mp m with rfl | m
      · exact ⟨ok, f.2.1.2, f.2.2.1.2⟩
      · exact h z m
  refine ⟨A, B, e1, e2, h1, h2, ?_, ?_⟩
  · have := n.lw.2; rw [e1, List.length_map] at this; exact this
  · have := n.lv; rw [e2, List.length_map] at this; exact this
/-- a net's text -/
def netTx (A : List (List Str)) (B : List WireD) : Str := Txt.join "\n" (A.map (Txt.join " ") ++ B.map WireD.tx)
section
variable {wk ws : List T} {A : List (List Str)} {B : List WireD} (n : NetD wk ws A B)
include n
theorem NetD.work {ss : List Str} (m : ss ∈ A) : (ss.map (·.length)).sum + ss.length * (" " : Str).length ≤ 4000 := by
  obtain ⟨l, h⟩ := n.a ss m
  have := sum_le (B := 1000) fun y my => (h y my).1
  have : ss.length * 1000 ≤ 3 * 1000 := Nat.mul_le_mul_right _ l
  rw [one_len.1]
  omega
theorem NetD.rows {y : Str} (m : y ∈ A.map (Txt.join " ") ++ B.map WireD.tx) : y.length ≤ 24000 := by
  rcases List.mem_append.mp m with m | m
  · obtain ⟨ss, ms, rfl⟩ := List.mem_map.mp m
    have := join_len " " ss
    have := n.work ms
    omega
  · obtain ⟨d, md, rfl⟩ := List.mem_map.mp m
    exact (n.b d md).1.len
theorem NetD.sum : ((A.map (Txt.join " ") ++ B.map WireD.tx).map (·.length)).sum + (A.map (Txt.join " ") ++ B.map WireD.tx).length * ("\n" : Str).length ≤ 4000000 := by
  have h := sum_le (B := 24000) fun y m => n.rows m
  have := n.la
  have := n.lb
  rw [one_len.2]
  simp only [List.length_append, List.length_map] at h ⊢
  have : (A.length + B.length) * 24000 ≤ 140 * 24000 := Nat.mul_le_mul_right _ (by omega)
  omega
theorem NetD.len : (netTx A B).length ≤ 4000000 := Nat.le_trans (join_len _ _) n.sum
theorem ok_int (i : Int) : PyData.strOk (toString i : Str) = true := ok_lit _
theorem NetD.ok : PyData.strOk (netTx A B) = true := by
  refine ok_join (ok_lit "\n") fun y m => ?_
  rcases List.mem_append.mp m with m | m
  · obtain ⟨ss, ms, rfl⟩ := List.mem_map.mp m
    exact ok_join (ok_lit " ") fun s m => ((n.a ss ms).2 s m).2
  · obtain ⟨d, md, rfl⟩ := List.mem_map.mp m
    obtain ⟨ok, o1, o2⟩ := n.b d md
    refine ok_join (ok_lit " ") fun s m => ?_
    simp only [WireD.words, List.mem_cons, List.not_mem_nil, or_false] at m
    rcases m with rfl | rfl | rfl | rfl | rfl | rfl | rfl
    · exact ok_lit "wire"
    · exact o1
    · exact o2
    · exact ok_lit _
    · exact ok_lit _
    · cases d.room with
      | none => exact ok_lit "-"
      | some i => exact ok_lit _
    · unfold letsTx
      split
      · exact ok_lit "-"
      · refine ok_join (ok_lit " ") fun s m => ?_
        obtain ⟨o, _, rfl⟩ := List.mem_map.mp m
        cases o with
        | none => exact ok_lit "!"
        | some i => exact ok_lit _
end
def strTT (c : Nat) : List S := [.asg 1 (.lc (.mth .join (.c (.str " ")) [.var 2]) (.nm 2) (.e (.op (.at "held_works") [.var 0])) .yes), .fz 1, .ret (.mth .join (.c (.str "\n")) [.bin .Add (.var 1) (.lc (.call c [.var 3]) (.nm 3) (.e (.op (.at "held_wires") [.var 0])) .yes)])]
section
variable {P : Pg} {a b c gb gn iN : Nat} (X : TextP P a b c gb gn) (C : NetC P iN) (k : Nat)
include X C
theorem w_strT {f : Nat} (hf : P.ds[f]? = some ⟨1, 4, strTT c⟩) {wk ws : List T} {A : List (List Str)} {B : List WireD} (n : NetD wk ws A B) {h : Hs} {s : Nat} (isn : IsNet h s wk ws) : callK P (k + 6) f [.ref s] h = .ok (.v (.str (netTx A B))) h := by
  rw [callK_eq (k := k + 3) hf, runD_eq _ _ _ rfl]
  obtain ⟨b0, e, -⟩ := isn
  have k1 : (netFs wk ws b0).lookup ("held_works" : Str) = some (.tup wk) := rfl
  have k2 : (netFs wk ws b0).lookup ("held_wires" : Str) = some (.tup ws) := rfl
  have lA := n.la
  have lB := n.lb
  have lc1 : ∀ σ0 : Option Sl, lcL (lcT (Γc P (k + 3)) (.mth .join (.c (.str " ")) [.var 2]) (.nm 2) .yes [some (.v (.ref s)), σ0, none, none]) none wk [] h = .ok ((A.map (Txt.join " ")).map .str) h := fun σ0 => by
    rw [lcL_map (fun t => match t with | .tup l => .str (Txt.join " " ((strsOf l).getD [])) | _ => .non) rfl wk [] (fun t m => ?_) (by rw [n.k]; simp; show _ ≤ 16777216; omega)]
    · rw [n.k, List.nil_append, List.map_map, List.map_map]
      congr 1
      refine List.map_congr_left fun ss _ => ?_
      simp [strs_ok]
    · rw [n.k] at m
      obtain ⟨ss, ms, rfl⟩ := List.mem_map.mp m
      have j2 : (ss.map (·.length)).sum + ss.length * (" " : Str).length ≤ SL := Nat.le_trans (n.work ms) (by decide)
      have jn : joL " " (some (.tup (ss.map .str))) h = .ok (.v (.str (Txt.join " " ss))) h := by
        rw [joL_tup, strs_ok, Option.bind_some, if_pos j2]; rfl
      simp [lcT, Tg.ixs, wipeT, -joL_tup, jn, strs_ok]
      rfl
  have lc2 : ∀ σ0 : Option Sl, lcL (lcT (Γc P (k + 3)) (.call c [.var 3]) (.nm 3) .yes [some (.v (.ref s)), σ0, none, none]) none ws [] h = .ok ((B.map WireD.tx).map .str) h := fun σ0 => by
    have go : ∀ (L : List WireD) (acc : List T), (∀ d ∈ L, d.Ok) → acc.length + L.length ≤ SL → lcL (lcT (Γc P (k + 3)) (.call c [.var 3]) (.nm 3) .yes [some (.v (.ref s)), σ0, none, none]) none (L.map WireD.t) acc h = .ok (acc ++ (L.map WireD.tx).map .str) h := fun L => by
      induction L with
      | nil => intro acc _ _; simp
      | cons d L ih =>
        intro acc ok l
        simp only [List.length_cons] at l
        have w := w_wireT X k (ok d (by simp)) h
        have one : lcT (Γc P (k + 3)) (.call c [.var 3]) (.nm 3) .yes [some (.v (.ref s)), σ0, none, none] d.t h = .ok (some (.str d.tx)) h := by
          simp [lcT, Tg.ixs, wipeT, w]
          rfl
        rw [List.map_cons, lcL, if_pos (gdB_none h), one, Out.bind_ok]
        simp only []
        rw [if_pos (by omega), ih _ (fun d m => ok d (by simp [m])) (by simp; omega)]
        simp
    rw [n.v, go B [] (fun d m => (n.b d m).1) (by simp; show _ ≤ 16777216; omega), List.nil_append]
  have js : ((A.map (Txt.join " ") ++ B.map WireD.tx).map (·.length)).sum + (A.map (Txt.join " ") ++ B.map WireD.tx).length * ("\n" : Str).length ≤ SL := Nat.le_trans n.sum (by decide)
  have jn : joL "\n" (some (.lst ((A.map (Txt.join " ")).map .str ++ (B.map WireD.tx).map .str))) h = .ok (.v (.str (netTx A B))) h := by
    rw [← List.map_append, joL_lst, strs_ok, Option.bind_some, if_pos js]; rfl
  have ca : opR .Add (.lst ((A.map (Txt.join " ")).map .str)) (.lst ((B.map WireD.tx).map .str)) = some (.al ((A.map (Txt.join " ")).map .str ++ (B.map WireD.tx).map .str)) := by
    rw [opR_catL, if_pos (by simp only [List.length_map]; show _ ≤ 16777216; omega)]
  have st : startT 4 [.ref s] = [some (.v (.ref s)), none, none, none] := rfl
  simp only [strTT, st]
  simp [-List.map_map, -opR_catL, -joL_lst, -List.map_append, e, C.f1, C.f2, k1, k2, lc1, lc2, ca, jn]
end
end VY
namespace VY
open PySem L2
def dg (m : Nat) : List Nat := (Nat.toDigits 10 m).map Char.toNat
theorem dg_dig (m : Nat) : ∀ c ∈ dg m, 48 ≤ c ∧ c ≤ 57 := by
  intro c hc
  obtain ⟨ch, hch, e⟩ := List.mem_map.mp hc
  have r := PyProof.Rows.digit_range (Nat.isDigit_of_mem_toDigits (by decide) (by decide) hch)
  rw [← e]
  exact r
theorem dg_small {m : Nat} (h : m < 10) : dg m = [48 + m] := by
  unfold dg
  rw [Nat.toDigits_of_lt_base h]
  have : ∀ d : Nat, d < 10 → (Nat.digitChar d).toNat = 48 + d := by decide
  rw [List.map_cons, this m h]
  rfl
theorem dg_step {m : Nat} (h : ¬ m < 10) : dg m = dg (m / 10) ++ dg (m % 10) := by
  unfold dg
  have hm : m % 10 < 10 := Nat.mod_lt m (by decide)
  have t : Nat.toDigits 10 (m / 10) ++ Nat.toDigits 10 (m % 10) = Nat.toDigits 10 (10 * (m / 10) + m % 10) := Nat.toDigits_append_toDigits (by decide) (by omega) hm
  rw [Nat.div_add_mod] at t
  rw [← t, List.map_append]
theorem dg_head (m : Nat) : ∃ c r, dg m = c :: r ∧ (m ≠ 0 → c ≠ 48) := by
  induction m using Nat.strongRecOn with
  | _ m ih =>
    by_cases h : m < 10
    · exact ⟨48 + m, [], dg_small h, fun h => by omega⟩
    · obtain ⟨c, r, e, q⟩ := ih (m / 10) (by omega)
      exact ⟨c, r ++ dg (m % 10), by rw [dg_step h, e]; rfl, fun _ => q (by omega)⟩
theorem dg_len {k : Nat} : ∀ {m : Nat}, m < 10 ^ (k + 1) → (dg m).length ≤ k + 1 := by
  induction k with
  | zero => intro m h; rw [dg_small (by omega)]; simp
  | succ k ih =>
    intro m h
    by_cases c : m < 10
    · rw [dg_small c]; simp
    · have hd : m / 10 < 10 ^ (k + 1) := by rw [Nat.pow_succ] at h; omega
      have := ih hd
      rw [dg_step c, List.length_append, dg_small (Nat.mod_lt m (by decide))]
      simpa using this
theorem num_cps (i : Int) : (Str.ofString (toString i)).cps.toList = (if 0 ≤ i then [] else [45]) ++ dg i.natAbs := by
  rw [PyProof.Rows.signs_ofString, Int.toString_eq_repr, Int.repr_eq_if]
  split
  · rw [Nat.toList_repr]
    rw [show i.toNat = i.natAbs by omega]
    rfl
  · rw [String.toList_append, List.map_append, Nat.toList_repr]
    rw [show (-i).toNat = i.natAbs by omega]
    rfl
theorem num_dig (i : Int) : ∀ c ∈ (Str.ofString (toString i)).cps.toList, c = 45 ∨ (48 ≤ c ∧ c ≤ 57) := by
  intro c m
  rw [num_cps] at m
  rcases List.mem_append.mp m with m | m
  · split at m
    · cases m
    · exact .inl (List.mem_singleton.mp m)
  · exact .inr (dg_dig _ c m)
theorem num_size (i : Int) : (Str.ofString (toString i)).length = (if 0 ≤ i then 0 else 1) + (dg i.natAbs).length := by
  have e : (Str.ofString (toString i)).length = (Str.ofString (toString i)).cps.toList.length := rfl
  rw [e, num_cps, List.length_append]
  split <;> rfl
theorem lit_cps {s : String} {l : List Nat} (h : s.toList.map Char.toNat = l) : (Str.ofString s).cps.toList = l := by rw [PyProof.Rows.signs_ofString, h]
theorem minus_cps : ("-" : Str).cps.toList = [45] := by decide +kernel
theorem rmpre_neg {x : Str} {r : List Nat} (h : x.cps.toList = 45 :: r) : Txt.removeprefix x "-" = ⟨r.toArray⟩ := by
  have l1 : ("-" : Str).length = 1 := by decide +kernel
  have e2 : ("-" : Str).cps = #[45] := by decide +kernel
  have lx : x.length = r.length + 1 := by show x.cps.size = _; rw [← Array.length_toList, h]; rfl
  have sb : Builtin.Str.subAt x "-" 0 = true := by
    unfold Builtin.Str.subAt
    rw [l1, e2]
    refine beq_iff_eq.mpr ?_
    apply Array.ext'
    rw [Array.toList_extract, h]
    simp
  rw [PySem.StrLaws.removeprefix_eq, if_pos (by rw [sb, l1, lx]; simp), l1, lx, h]
  simp
theorem rmpre_pos {x : Str} {c : Nat} {r : List Nat} (h : x.cps.toList = c :: r) (hc : c ≠ 45) : Txt.removeprefix x "-" = x := by
  have l1 : ("-" : Str).length = 1 := by decide +kernel
  have e2 : ("-" : Str).cps = #[45] := by decide +kernel
  have sb : Builtin.Str.subAt x "-" 0 = false := by
    unfold Builtin.Str.subAt
    rw [l1, e2]
    refine beq_eq_false_iff_ne.mpr fun e => ?_
    have := congrArg Array.toList e
    rw [Array.toList_extract, h] at this
    simp at this
    exact hc this
  rw [PySem.StrLaws.removeprefix_eq, if_neg (by rw [sb]; simp)]
/-- a number's signs -/
def fig (i : Int) : Str := ⟨(dg i.natAbs).toArray⟩
theorem fig_cps (i : Int) : (fig i).cps.toList = dg i.natAbs := rfl
theorem rmpre_num (i : Int) : Txt.removeprefix (Str.ofString (toString i)) "-" = fig i := by
  have e := num_cps i
  by_cases c : 0 ≤ i
  · rw [if_pos c, List.nil_append] at e
    obtain ⟨d, r, ed, _⟩ := dg_head i.natAbs
    have hd := dg_dig i.natAbs d (by rw [ed]; simp)
    rw [rmpre_pos (by rw [e, ed]) (by omega)]
    exact str_ext e
  · rw [if_neg c] at e
    exact rmpre_neg e
theorem num_read {i : Int} (h : i.natAbs < 10 ^ 10) : PySem.intText? (Str.ofString (toString i)) = some i := by
  have l := dg_len (k := 9) h
  have sz := num_size i
  have e := num_cps i
  obtain ⟨d, r, ed, _⟩ := dg_head i.natAbs
  have v : NumText.digitsVal (dg i.natAbs) = i.natAbs := PySem.W.KIN.val_back i.natAbs
  by_cases c : 0 ≤ i
  · rw [if_pos c] at e sz
    rw [List.nil_append] at e
    rw [intText_digits (by rw [e]; exact dg_dig _) (by rw [e, ed]; simp) (by omega), e, v]
    congr 1
    omega
  · rw [if_neg c] at e sz
    rw [intText_neg (cs := dg i.natAbs) e (dg_dig _) (by rw [ed]; simp) (by omega), v]
    congr 1
    omega
theorem num_zero {i : Int} (h : (dg i.natAbs).head? = some 48) : i = 0 := by
  obtain ⟨c, r, e, q⟩ := dg_head i.natAbs
  rw [e] at h
  by_cases z : i.natAbs = 0
  · omega
  · exact ((q z) (by simpa using h)).elim
/-- no blank, no line's end -/
def clean (s : Str) : Prop := 32 ∉ s.cps.toList ∧ 10 ∉ s.cps.toList
theorem clean_num (i : Int) : clean (Str.ofString (toString i)) := ⟨fun m => by have := num_dig i _ m; omega, fun m => by have := num_dig i _ m; omega⟩
theorem clean_let (o : Option Int) : clean (letTx o) := by
  cases o with
  | none => exact ⟨by decide +kernel, by decide +kernel⟩
  | some i => exact clean_num i
theorem clean_room (o : Option Int) : clean (roomTx o) := by
  cases o with
  | none => exact ⟨by decide +kernel, by decide +kernel⟩
  | some i => exact clean_num i
theorem clean_name {s : Str} (h : nameS s = true) : clean s := by
  unfold nameS at h
  simp only [Bool.and_eq_true, List.all_eq_true, decide_eq_true_eq] at h
  have a1 : 32 ∉ azS.cps.toList := by decide +kernel
  have a2 : 10 ∉ azS.cps.toList := by decide +kernel
  exact ⟨fun m => a1 (h.2 _ m), fun m => a2 (h.2 _ m)⟩
theorem clean_all {l : List Str} (h : (l.all fun s => !(s.cps.toList.contains 32) && !(s.cps.toList.contains 10)) = true) {s : Str} (m : s ∈ l) : clean s := by
  have := List.all_eq_true.mp h s m
  simp at this
  exact ⟨by simpa using this.1, by simpa using this.2⟩
/-- the signs of joined texts -/
theorem join_mem {a : Str} {c : Nat} (ha : c ∉ a.cps.toList) : ∀ {ys : List Str}, (∀ y ∈ ys, c ∉ y.cps.toList) → c ∉ (Txt.join a ys).cps.toList
  | [], _ => by
    rw [show Txt.join a [] = Str.join a [] from StrLaws.glued_eq_join a []]
    simp [Str.join, Str.empty]
  | [x], h => by
    rw [cp_join_one]
    exact h x (by simp)
  | x :: y :: r, h => by
    rw [cp_join_cons]
    intro m
    rcases List.mem_append.mp m with m | m
    · exact h x (by simp) m
    · rcases List.mem_append.mp m with m | m
      · exact ha m
      · exact join_mem ha (ys := y :: r) (fun z mz => h z (by simp [mz])) m
theorem split_sp {ys : List Str} (ne : ys ≠ []) (h : ∀ y ∈ ys, clean y) : Txt.split (Txt.join " " ys) " " = ys :=
  TL.split_join (y := " ") (s := 32) (S := []) (by decide +kernel) (by decide +kernel) ne fun p m => (h p m).1
theorem split_nl {ys : List Str} (ne : ys ≠ []) (h : ∀ y ∈ ys, 10 ∉ y.cps.toList) : Txt.split (Txt.join "\n" ys) "\n" = ys :=
  TL.split_join (y := "\n") (s := 10) (S := []) (by decide +kernel) (by decide +kernel) ne h
def letW (L : List (Option Int)) : List Str := if L.length = 0 then ["-"] else L.map letTx
def WireD.toks (d : WireD) : List Str := "wire" :: d.s :: d.g :: toString d.a :: toString d.far :: roomTx d.room :: letW d.L
theorem letW_ne (L : List (Option Int)) : letW L ≠ [] := by
  unfold letW
  split
  · simp
  · rename_i c
    intro e
    rw [List.map_eq_nil_iff] at e
    rw [e] at c
    exact c rfl
theorem letsTx_eq (L : List (Option Int)) : letsTx L = Txt.join " " (letW L) := by
  unfold letsTx letW
  split
  · exact str_ext (by rw [cp_join_one])
  · rfl
theorem tx_toks (d : WireD) : d.tx = Txt.join " " d.toks := by
  refine str_ext ?_
  unfold WireD.tx WireD.words WireD.toks
  rw [letsTx_eq]
  obtain ⟨y, r, e⟩ := List.exists_cons_of_ne_nil (letW_ne d.L)
  rw [e]
  simp only [cp_join_cons, cp_join_one]
theorem toks_clean {d : WireD} (hs : nameS d.s = true) (hg : nameS d.g = true) : ∀ y ∈ d.toks, clean y := by
  intro y m
  simp only [WireD.toks, List.mem_cons] at m
  rcases m with rfl | rfl | rfl | rfl | rfl | rfl | m
  · exact ⟨by decide +kernel, by decide +kernel⟩
  · exact clean_name hs
  · exact clean_name hg
  · exact clean_num _
  · exact clean_num _
  · exact clean_room _
  · unfold letW at m
    split at m
    · cases List.mem_singleton.mp m
      exact ⟨by decide +kernel, by decide +kernel⟩
    · obtain ⟨o, _, rfl⟩ := List.mem_map.mp m
      exact clean_let o
theorem split_wire {d : WireD} (hs : nameS d.s = true) (hg : nameS d.g = true) : Txt.split d.tx " " = d.toks := by
  rw [tx_toks]
  exact split_sp (by simp [WireD.toks]) (toks_clean hs hg)
/-- a net's words -/
structure NetW (A : List (List Str)) (B : List WireD) : Prop where
  a : ∀ ss ∈ A, workB (.tup (ss.map .str)) = true
  b : ∀ d ∈ B, nameS d.s = true ∧ nameS d.g = true
  ne : A ≠ []
theorem work_words {ss : List Str} (h : workB (.tup (ss.map .str)) = true) : ∃ k r, ss = k :: r ∧ oneOf k ["spring", "fold", "pick", "mouth"] = true ∧ ∀ s ∈ ss, clean s := by
  have kn : ∀ {k : Str}, oneOf k plainL = true → oneOf k ["spring", "fold", "pick", "mouth"] = true := fun {k} e => by
    rw [oneOf_iff] at e ⊢
    simp [plainL] at e ⊢
    rcases e with e | e | e <;> simp [e]
  have kc : ∀ {k : Str}, oneOf k plainL = true → clean k := fun {k} e => clean_all (l := plainL) (by decide +kernel) (oneOf_iff.mp e)
  have wc : ∀ {k : Str}, oneOf k wordsL = true → clean k := fun {k} e => clean_all (l := wordsL) (by decide +kernel) (oneOf_iff.mp e)
  match ss, h with
  | [k, x], h =>
    have h : (nameS x && oneOf k plainL) = true := h
    rw [Bool.and_eq_true] at h
    refine ⟨k, [x], rfl, kn h.2, fun s m => ?_⟩
    simp at m
    rcases m with rfl | rfl
    · exact kc h.2
    · exact clean_name h.1
  | [k, x, w], h =>
    have h : (nameS x && (decide (k = "fold") && oneOf w wordsL)) = true := h
    rw [Bool.and_eq_true, Bool.and_eq_true, decide_eq_true_eq] at h
    obtain ⟨h1, rfl, h2⟩ := h
    refine ⟨_, [x, w], rfl, by decide +kernel, fun s m => ?_⟩
    simp at m
    rcases m with rfl | rfl | rfl
    · exact ⟨by decide +kernel, by decide +kernel⟩
    · exact clean_name h1
    · exact wc h2
theorem split_work {ss : List Str} (h : workB (.tup (ss.map .str)) = true) : Txt.split (Txt.join " " ss) " " = ss := by
  obtain ⟨k, r, e, _, c⟩ := work_words h
  exact split_sp (by rw [e]; simp) c
theorem split_net {A : List (List Str)} {B : List WireD} (n : NetW A B) : Txt.split (netTx A B) "\n" = A.map (Txt.join " ") ++ B.map WireD.tx := by
  refine split_nl (by simp [n.ne]) fun y m => ?_
  have sp : 10 ∉ (" " : Str).cps.toList := by decide +kernel
  rcases List.mem_append.mp m with m | m
  · obtain ⟨ss, ms, rfl⟩ := List.mem_map.mp m
    obtain ⟨k, r, e, _, c⟩ := work_words (n.a ss ms)
    exact join_mem sp fun y m => (c y m).2
  · obtain ⟨d, md, rfl⟩ := List.mem_map.mp m
    rw [tx_toks]
    exact join_mem sp fun y m => (toks_clean (n.b d md).1 (n.b d md).2 y m).2
theorem net_w {wk ws : List T} {A : List (List Str)} {B : List WireD} (ok : NetOk wk ws) (n : NetD wk ws A B) : NetW A B where
  a := fun ss m => (ok.w _ (by rw [n.k]; exact List.mem_map_of_mem m)).1
  b := fun d m => by
    have h := (ok.v d.t (by rw [n.v]; exact List.mem_map_of_mem m)).1
    have nm : ∀ x, oneOf x (wk.map nameOf) = true → nameS x = true := fun x e => by
      obtain ⟨t, mt, rfl⟩ := List.mem_map.mp (oneOf_iff.mp e)
      have := (ok.w t mt).1
      unfold workB at this
      split at this
      · rw [Bool.and_eq_true] at this; exact this.1
      · rw [Bool.and_eq_true] at this; exact this.1
      · cases this
    simp only [WireD.t, wireB, Bool.and_eq_true] at h
    exact ⟨nm _ h.1, nm _ h.2.1⟩
  ne := fun e => by
    have := ok.lw.1
    rw [n.k, e] at this
    simp at this
end VY
namespace VY
open PySem L2
/-- where the reading defs and constants lie -/
structure RdI where
  n : Nat
  lw : Nat
  li : Nat
  wk : Nat
  wi : Nat
  gb : Nat
  gn : Nat
  gf : Nat
  gF : Nat
  gp : Nat
  gW : Nat
section
variable (z : RdI)
def rdN : List S := [.asg 1 (.mth .rmpre (.var 0) [.c (.str "-")]), .ife (.bop .Or [.not (.t (.ch .LtE .LtE (.c (.int 1)) (.blt .len [.var 1]) (.gl z.gf))), .not (.t (.blt .all [.lc (.cmp .In (.var 2) (.gl z.gF)) (.nm 2) (.e (.var 1)) .yes]))]) [.ret (.c .non)] [], .ife (.bop .And [.t (.cmp .Eq (.ix (.var 1) (.c (.int 0))) (.c (.str "0"))), .t (.cmp .NotEq (.var 0) (.c (.str "0")))]) [.ret (.c .non)] [], .ret (.blt .int [.var 0])]
def rdLw : List S := [.ife (.t (.cmp .Eq (.var 0) (.gl z.gb))) [.ret (.c (.bl true))] [], .asg 1 (.call z.n [.var 0]), .ret (.bop .And [.cmp .IsNot (.var 1) (.c .non), .call 1 [.var 1]])]
def rdLi : List S := [.ife (.t (.cmp .Eq (.var 0) (.lst [.gl z.gn]))) [.ret (.lst [])] [], .ife (.bop .Or [.t (.cmp .Eq (.var 0) (.lst [])), .not (.t (.blt .all [.lc (.call z.lw [.var 1]) (.nm 1) (.e (.var 0)) .yes]))]) [.ret (.c .non)] [], .ret (.lc (.call z.n [.var 1]) (.nm 1) (.e (.var 0)) .yes)]
def rdWk : List S := [.asg 1 (.blt .tuple [.var 0]), .ret (.ife (.t (.call 6 [.var 1])) (.var 1) (.c .non))]
def rdWi : List S := [.ife (.t (.cmp .Lt (.blt .len [.var 0]) (.gl z.gp))) [.ret (.c .non)] [], .asgR [3, 4] 7 (.sl (.var 0) .no (.at (.bin .Sub (.gl z.gp) (.c (.int 1))))), .par2 5 6 (.call z.n [.ix (.var 7) (.c (.int 0))]) (.call z.n [.ix (.var 7) (.c (.int 1))]), .asg 1 (.ife (.t (.cmp .Eq (.ix (.var 7) (.c (.int 2))) (.gl z.gn))) (.c .non) (.call z.n [.ix (.var 7) (.c (.int 2))])), .asg 2 (.call z.li [.sl (.var 0) (.at (.bin .Sub (.gl z.gp) (.c (.int 1)))) .no]), .fz 2, .ife (.bop .Or [.not (.t (.call 3 [.var 3])), .not (.t (.call 3 [.var 4])), .t (.cmp .Is (.var 5) (.c .non)), .t (.cmp .Is (.var 6) (.c .non)), .t (.cmp .Is (.var 2) (.c .non))]) [.ret (.c .non)] [], .ife (.bop .And [.t (.cmp .Is (.var 1) (.c .non)), .t (.cmp .NotEq (.ix (.var 7) (.c (.int 2))) (.gl z.gn))]) [.ret (.c .non)] [], .ret (.tup [.var 3, .var 4, .var 5, .blt .tuple [.var 2], .var 6, .var 1])]
def rdNet : List S := [.ife (.not (.t (.blt .isinstance [.var 0, .gl 6]))) [.rse "NoText" [.neg (.c (.int 1))]] [], .asg 1 (.mth .split (.var 0) [.c (.str "\n")]), .fz 1, .par2 3 4 (.lst []) (.lst []), .pr 3, .pr 4, .for (.tp [.nm 5, .nm 6]) (.en (.var 1)) [.asgR [7] 8 (.mth .split (.var 6) [.c (.str " ")]), .fz 8, .ife (.bop .And [.t (.cmp .In (.var 7) (.gl z.gW)), .t (.cmp .Eq (.var 4) (.lst []))]) [.par2 9 10 (.call z.wk [.bin .Add (.lst [.var 7]) (.var 8)]) (.var 3)] [.ife (.t (.cmp .Eq (.var 7) (.c (.str "wire")))) [.par2 9 10 (.call z.wi [.var 8]) (.var 4)] [.rse "NoText" [.var 5]]], .ife (.t (.cmp .Is (.var 9) (.c .non))) [.rse "NoText" [.var 5]] [], .app 10 (.var 9)], .tryX 2 "NoNet" [.ret (.new "Net" [.blt .tuple [.var 3], .blt .tuple [.var 4]])] [.stop]]
structure ReadP (P : Pg) (z : RdI) : Prop where
  dn : P.ds[z.n]? = some ⟨1, 3, rdN z⟩
  dl : P.ds[z.lw]? = some ⟨1, 2, rdLw z⟩
  di : P.ds[z.li]? = some ⟨1, 2, rdLi z⟩
  dk : P.ds[z.wk]? = some ⟨1, 2, rdWk⟩
  dw : P.ds[z.wi]? = some ⟨1, 8, rdWi z⟩
  gb : P.gv z.gb = some (.str "!")
  gn : P.gv z.gn = some (.str "-")
  gf : P.gv z.gf = some (.int 10)
  gF : P.gv z.gF = some (.str "0123456789")
  gp : P.gv z.gp = some (.int 6)
  gW : P.gv z.gW = some (.tup [.str "spring", .str "fold", .str "pick", .str "mouth"])
end
theorem FIG_mem {c : Nat} : c ∈ ("0123456789" : Str).cps.toList ↔ 48 ≤ c ∧ c ≤ 57 := by
  have e : ("0123456789" : Str).cps.toList = [48, 49, 50, 51, 52, 53, 54, 55, 56, 57] := by decide +kernel
  rw [e]
  simp
  omega
theorem fig_len {i : Int} (h : i.natAbs < 10 ^ 10) : 1 ≤ (fig i).length ∧ (fig i).length ≤ 10 := by
  have l := dg_len (k := 9) h
  obtain ⟨c, r, e, _⟩ := dg_head i.natAbs
  have : (fig i).length = (dg i.natAbs).length := by show (fig i).cps.size = _; rw [← Array.length_toList, fig_cps]
  rw [this]
  refine ⟨by rw [e]; simp, l⟩
theorem numTx_len {i : Int} (h : i.natAbs < 10 ^ 10) : (Str.ofString (toString i)).length ≤ 11 := by
  have l := dg_len (k := 9) h
  rw [num_size]
  split <;> omega
theorem ok_chr {c : Nat} (h : c < 1114112) : PyData.strOk ⟨#[c]⟩ = true := by
  rw [ok_cp]
  intro x m
  simp at m
  omega
theorem len_str {s : Str} (h : s.length ≤ 16777216) : bltR .len [.str s] = some (.v (.int s.length)) := by
  simp only [bltR, lenT]; rw [if_pos (by show _ ≤ 16777216; omega)]; rfl
section
variable {P : Pg} {z : RdI} (n : NetP P) (X : ReadP P z) (k : Nat) (h : Hs)
include X
/-- a number's text is read -/
theorem w_num {i : Int} (hi : i.natAbs < 10 ^ 10) : callK P (k + 3) z.n [.str (Str.ofString (toString i))] h = .ok (.v (.int i)) h := by
  rw [callK_eq X.dn, runD_eq _ _ _ rfl]
  have rm := rmpre_num i
  have rd := num_read hi
  have lw := numTx_len hi
  obtain ⟨l1, l2⟩ := fig_len hi
  have z0 : i = 0 → Str.ofString (toString i) = "0" := fun e => by subst e; decide +kernel
  have okw : PyData.strOk (Str.ofString (toString i)) = true := ok_lit _
  generalize Str.ofString (toString i) = w at *
  have len := len_str (s := fig i) (by omega)
  have c1 : (1 : Int) ≤ (fig i).length := by omega
  have c2 : ((fig i).length : Int) ≤ 10 := by omega
  have lS : w.length ≤ SL := Nat.le_trans lw (by decide)
  have l6 : w.length ≤ 640 := by omega
  have lc := lcL_map (f := lcT (Γc P k) (.cmp .In (.var 2) (.gl z.gF)) (.nm 2) .yes [some (.v (.str w)), some (.v (.str (fig i))), none]) (g := none) (h := h) (fun x => .bl true) rfl ((fig i).cps.toList.map fun c => .str ⟨#[c]⟩) [] (fun x hx => by
    obtain ⟨c, mc, rfl⟩ := List.mem_map.mp hx
    have : c ∈ ("0123456789" : Str).cps.toList := FIG_mem.mpr (dg_dig _ c mc)
    simp [lcT, X.gF, inT, Tg.ixs, wipeT, this]; rfl) (by simp; show (fig i).length ≤ 16777216; omega)
  rw [List.nil_append, List.map_map] at lc
  have al : bltR .all [.lst ((fig i).cps.toList.map ((fun _ => T.bl true) ∘ fun c => T.str ⟨#[c]⟩))] = some (.v (.bl true)) := by
    have e : ((fig i).cps.toList.map ((fun _ => T.bl true) ∘ fun c => T.str ⟨#[c]⟩)) = ((fig i).cps.toList.map fun _ => true).map .bl := by rw [List.map_map]; rfl
    rw [e, all_bls]
    congr 3
    rw [List.all_eq_true]
    intro x m
    obtain ⟨_, _, rfl⟩ := List.mem_map.mp m
    rfl
  obtain ⟨c, r, ec, hc⟩ := dg_head i.natAbs
  have rg := dg_dig i.natAbs c (by rw [ec]; simp)
  have ix0 : ixR (.str (fig i)) (.int 0) = some (.str ⟨#[c]⟩) := by
    show (if (fig i).length ≤ SL then (L2.atI (fig i).cps.toList 0).map fun c => T.str ⟨#[c]⟩ else none) = _
    rw [if_pos (Nat.le_trans l2 (by decide)), fig_cps, ec, at0]
    rfl
  have q1 : eqT (.str ⟨#[c]⟩) (.str "0") = some (decide ((⟨#[c]⟩ : Str) = "0")) := eqT_ss (ok_chr (by omega)) (ok_lit "0")
  have q2 : eqT (.str w) (.str "0") = some (decide (w = "0")) := eqT_ss okw (ok_lit "0")
  have key : (⟨#[c]⟩ : Str) = "0" → w = "0" := fun e => by
    have : c = 48 := by
      have := congrArg (fun s : Str => s.cps.toList) e
      have e0 : ("0" : Str).cps.toList = [48] := by decide +kernel
      simp only [e0] at this
      simpa using this
    refine z0 (num_zero ?_)
    rw [ec, this]
    rfl
  have bi : bltR .int [.str w] = some (.v (.int i)) := by rw [int_str, if_pos l6, rd]; rfl
  by_cases k0 : (⟨#[c]⟩ : Str) = "0"
  · have kw := key k0
    subst kw
    simp [rdN, startT, rm, lS, X.gf, len, c1, c2, -List.map_map, lc, al, ix0, q1, q2, k0, bi, -int_str]
  · simp [rdN, startT, rm, lS, X.gf, len, c1, c2, -List.map_map, lc, al, ix0, q1, q2, k0, bi, -int_str]
/-- the broken letter's text is no number -/
theorem w_bang : callK P (k + 3) z.n [.str "!"] h = .ok (.v .non) h := by
  rw [callK_eq X.dn, runD_eq _ _ _ rfl]
  have rm : Txt.removeprefix ("!" : Str) "-" = "!" := rmpre_pos (c := 33) (r := []) (by decide +kernel) (by decide)
  have len : bltR .len [.str ("!" : Str)] = some (.v (.int 1)) := by rw [len_str (by decide +kernel)]; rfl
  have lS : ("!" : Str).length ≤ SL := by decide +kernel
  have lc : lcL (lcT (Γc P k) (.cmp .In (.var 2) (.gl z.gF)) (.nm 2) .yes [some (.v (.str "!")), some (.v (.str "!")), none]) none (("!" : Str).cps.toList.map fun c => .str ⟨#[c]⟩) [] h = .ok [.bl false] h := by
    have e : ("!" : Str).cps.toList = [33] := by decide +kernel
    have ni : ¬ 33 ∈ ("0123456789" : Str).cps.toList := by decide +kernel
    have one : lcT (Γc P k) (.cmp .In (.var 2) (.gl z.gF)) (.nm 2) .yes [some (.v (.str "!")), some (.v (.str "!")), none] (.str ⟨#[33]⟩) h = .ok (some (.bl false)) h := by
      simp [lcT, X.gF, inT, Tg.ixs, wipeT, ni]; rfl
    rw [e, List.map_cons, List.map_nil, lcL, if_pos (gdB_none h), one, Out.bind_ok]
    simp [SL]
  have al : bltR .all [.lst [.bl false]] = some (.v (.bl false)) := rfl
  simp [rdN, startT, rm, lS, X.gf, len, -List.map_map, lc, al]
theorem w_letW {o : Option Int} (ho : letterB (optT o) = true) : callK P (k + 3) z.n [.str (letTx o)] h = .ok (.v (optT o)) h := by
  cases o with
  | none => exact w_bang X k h
  | some i =>
    have := letter_small ho i rfl
    exact w_num X k h (by omega)
end
end VY
namespace VY
open PySem L2
theorem lcL_over {α : Type} {f : T → Hs → Out (Option T)} {h : Hs} (F G : α → T) : ∀ (L : List α) (acc : List T), (∀ a ∈ L, f (F a) h = .ok (some (G a)) h) → acc.length + L.length ≤ SL → lcL f none (L.map F) acc h = .ok (acc ++ L.map G) h
  | [], acc, _, _ => by rw [List.map_nil, lcL, if_pos (gdB_none h)]; simp
  | x :: L, acc, hf, hl => by
    simp only [List.length_cons] at hl
    rw [List.map_cons, lcL, if_pos (gdB_none h), hf x (by simp), Out.bind_ok]
    simp only []
    rw [if_pos (by omega), lcL_over F G L _ (fun y hy => hf y (by simp [hy])) (by simp; omega)]
    simp
theorem toDs_strs : ∀ a : List Str, toDs (a.map .str) = some (a.map PyData.str)
  | [] => by simp [toDs]
  | x :: a => by simp [toDs, toDs_strs a, toD]
theorem lay_strs : ∀ {a : List Str}, (∀ s ∈ a, PyData.strOk s = true) → PyData.canLayAll0 (a.map PyData.str) = true ∧ PyData.depthAll (a.map PyData.str) = 0
  | [], _ => by simp [PyData.canLayAll0, PyData.depthAll]
  | x :: a, h => by
    obtain ⟨p, q⟩ := lay_strs (a := a) fun s m => h s (by simp [m])
    have := h x (by simp)
    simp [PyData.canLayAll0, PyData.depthAll, PyData.canLay0, PyData.depth, p, q, this]
theorem shp_strs {a : List Str} (h : ∀ s ∈ a, PyData.strOk s = true) : SeqAt.shaped (.list (a.map PyData.str)) = true := by
  obtain ⟨p, q⟩ := lay_strs h
  simp [SeqAt.shaped, PyData.canLay0, PyData.depth, p, q]
theorem eqvs_strs : ∀ a b : List Str, PyData.eqv (.list (a.map PyData.str)) (.list (b.map PyData.str)) = decide (a = b)
  | [], [] => by simp [PyData.eqv, PyData.eqvAll]
  | [], _ :: _ => by simp [PyData.eqv, PyData.eqvAll]
  | _ :: _, [] => by simp [PyData.eqv, PyData.eqvAll]
  | o :: L, p :: M => by
    have ih := eqvs_strs L M
    simp only [PyData.eqv] at ih
    have e : PyData.eqv (.str o) (.str p) = decide (o = p) := by simp [PyData.eqv]; rfl
    simp only [List.map_cons, PyData.eqv, PyData.eqvAll, ih] at e ⊢
    rw [e]
    by_cases c : o = p <;> by_cases c' : L = M <;> simp [c, c']
theorem eqL_str {a b : List Str} (ha : ∀ s ∈ a, PyData.strOk s = true) (hb : ∀ s ∈ b, PyData.strOk s = true) : eqT (.lst (a.map .str)) (.lst (b.map .str)) = some (decide (a = b)) := by
  have e : ∀ L : List Str, toD (.lst (L.map .str)) = some (.list (L.map PyData.str)) := fun L => by rw [toD, toDs_strs]; rfl
  unfold eqT
  rw [e, e]
  simp [shp_strs ha, shp_strs hb, eqvs_strs]
theorem ok_let (o : Option Int) : PyData.strOk (letTx o) = true := by cases o <;> exact ok_lit _
theorem ok_letW (L : List (Option Int)) : ∀ s ∈ letW L, PyData.strOk s = true := by
  intro s m
  unfold letW at m
  split at m
  · cases List.mem_singleton.mp m; exact ok_lit _
  · obtain ⟨o, _, rfl⟩ := List.mem_map.mp m; exact ok_let o
theorem num_not_none (i : Int) : Str.ofString (toString i) ≠ "-" := by
  intro e
  have q := congrArg (fun s : Str => s.cps.toList) e
  simp only [minus_cps, num_cps] at q
  obtain ⟨c, r, ec, _⟩ := dg_head i.natAbs
  have rg := dg_dig i.natAbs c (by rw [ec]; simp)
  rw [ec] at q
  split at q <;> simp at q
  omega
theorem let_not_none (o : Option Int) : letTx o ≠ "-" := by
  cases o with
  | none => decide +kernel
  | some i => exact num_not_none i
section
variable {P : Pg} {z : RdI} (n : NetP P) (X : ReadP P z) (k : Nat) (h : Hs)
include n X
theorem w_lw {o : Option Int} (ho : letterB (optT o) = true) : callK P (k + 5) z.lw [.str (letTx o)] h = .ok (.v (.bl true)) h := by
  rw [callK_eq (k := k + 2) X.dl, runD_eq _ _ _ rfl]
  have q : eqT (.str (letTx o)) (.str "!") = some (decide (letTx o = "!")) := eqT_ss (ok_let o) (ok_lit "!")
  by_cases c : letTx o = "!"
  · generalize letTx o = w at *
    subst c
    simp [rdLw, startT, X.gb, q]
  · cases o with
    | none => exact (c rfl).elim
    | some i =>
      have e1 : callK P (k + 4) z.n [.str (letTx (some i))] h = .ok (.v (.int i)) h := w_letW X (k + 1) h ho
      have e2 : callK P (k + 4) 1 [.int i] h = .ok (.v (.bl true)) h := by
        have := w_letter n k h (t := .int i) rfl
        rw [this]
        exact congrArg (fun b => Out.ok (R.v (.bl b)) h) ho
      generalize letTx (some i) = w at *
      simp [rdLw, startT, X.gb, q, c, e1, e2]
theorem w_li {L : List (Option Int)} (hL : ∀ o ∈ L, letterB (optT o) = true) (l : L.length ≤ 8) : callK P (k + 6) z.li [.lst ((letW L).map .str)] h = .ok (.al (L.map optT)) h := by
  rw [callK_eq (k := k + 3) X.di, runD_eq _ _ _ rfl]
  have q1 : eqT (.lst ((letW L).map .str)) (.lst [.str "-"]) = some (decide (letW L = [("-" : Str)])) := eqL_str (b := [("-" : Str)]) (ok_letW L) (fun s m => by cases List.mem_singleton.mp m; exact ok_lit _)
  have q2 : eqT (.lst ((letW L).map .str)) (.lst []) = some (decide (letW L = [])) := eqL_str (b := []) (ok_letW L) (fun s m => by cases m)
  by_cases c0 : L.length = 0
  · have e : L = [] := List.length_eq_zero_iff.mp c0
    subst e
    have e2 : letW [] = [("-" : Str)] := rfl
    rw [e2] at q1
    have q3 : eqT (.lst [.str ("-" : Str)]) (.lst [.str ("-" : Str)]) = some true := q1.trans (by simp)
    simp [rdLi, startT, e2, X.gn, q3, SL]
  · have e2 : letW L = L.map letTx := if_neg c0
    have n1 : ¬ letW L = [("-" : Str)] := by
      rw [e2]
      intro e
      obtain ⟨o, r, eo⟩ := List.exists_cons_of_ne_nil (l := L) (fun e => c0 (by rw [e]; rfl))
      rw [eo, List.map_cons] at e
      exact let_not_none o (List.cons.inj e).1
    have n2 := letW_ne L
    rw [decide_eq_false n1] at q1
    rw [decide_eq_false n2] at q2
    rw [e2] at q1 q2 ⊢
    rw [List.map_map] at q1 q2 ⊢
    have lc1 := lcL_over (f := lcT (Γc P (k + 3)) (.call z.lw [.var 1]) (.nm 1) .yes [some (.v (.lst (L.map (T.str ∘ letTx)))), none]) (h := h) (T.str ∘ letTx) (fun _ => T.bl true) L [] (fun o mo => by
      have w := w_lw n X k h (hL o mo)
      have w : callK P (k + 5) z.lw [.str (letTx o)] h = .ok (.v (.bl true)) h := w
      simp [lcT, Tg.ixs, wipeT, w]; rfl) (by simp; show _ ≤ 16777216; omega)
    have lc2 := lcL_over (f := lcT (Γc P (k + 3)) (.call z.n [.var 1]) (.nm 1) .yes [some (.v (.lst (L.map (T.str ∘ letTx)))), none]) (h := h) (T.str ∘ letTx) optT L [] (fun o mo => by
      have w : callK P (k + 5) z.n [.str (letTx o)] h = .ok (.v (optT o)) h := w_letW X (k + 2) h (hL o mo)
      have : frz (.v (optT o)) = some (optT o) := rfl
      simp [lcT, Tg.ixs, wipeT, w]; cases o <;> rfl) (by simp; show _ ≤ 16777216; omega)
    rw [List.nil_append] at lc1 lc2
    have al : bltR .all [.lst (L.map fun _ => T.bl true)] = some (.v (.bl true)) := by
      have e : (L.map fun _ => T.bl true) = (L.map fun _ => true).map .bl := by rw [List.map_map]; rfl
      rw [e, all_bls]
      congr 3
      rw [List.all_eq_true]
      intro x m
      obtain ⟨_, _, rfl⟩ := List.mem_map.mp m
      rfl
    simp only [rdLi]
    simp [-List.map_map, startT, X.gn, q1, q2, lc1, lc2, al, SL]
theorem w_wk {ss : List Str} (hw : workB (.tup (ss.map .str)) = true) (hf : fineT (.tup (ss.map .str)) = true) (hd : depT (.tup (ss.map .str)) ≤ 60) : callK P (k + 5) z.wk [.lst (ss.map .str)] h = .ok (.v (.tup (ss.map .str))) h := by
  rw [callK_eq (k := k + 2) X.dk, runD_eq _ _ _ rfl]
  have e : callK P (k + 4) 6 [.tup (ss.map .str)] h = .ok (.v (.bl true)) h := by rw [w_work n k h hf hd, hw]
  simp [rdWk, startT, e]
theorem w_wi {d : WireD} (ok : d.Ok) (hs : nameS d.s = true) (hg : nameS d.g = true) : callK P (k + 7) z.wi [.lst (d.toks.tail.map .str)] h = .ok (.v d.t) h := by
  rw [callK_eq (k := k + 4) X.dw, runD_eq _ _ _ rfl]
  have a1 : callK P (k + 6) z.n [.str (Str.ofString (toString d.a))] h = .ok (.v (.int d.a)) h := w_num X (k + 3) h (by have := ok.a; omega)
  have a2 : callK P (k + 6) z.n [.str (Str.ofString (toString d.far))] h = .ok (.v (.int d.far)) h := w_num X (k + 3) h (by have := ok.far; omega)
  have a3 : callK P (k + 6) z.li [.lst ((letW d.L).map .str)] h = .ok (.al (d.L.map optT)) h := w_li n X k h ok.L ok.n
  have nm : ∀ s : Str, nameS s = true → callK P (k + 6) 3 [.str s] h = .ok (.v (.bl true)) h := fun s e => by
    have f : fineT (.str s) = true := by
      have := nameS_iff.mp e
      simp only [fineT, Bool.and_eq_true, decide_eq_true_eq]
      exact ⟨by rw [len_cp]; omega, nameS_ok e⟩
    have w := w_name n (k + 3) h (t := .str s) f
    rw [show nameB (.str s) = true from e] at w
    exact w
  have n1 := nm d.s hs
  have n2 := nm d.g hg
  have q : eqT (.str (roomTx d.room)) (.str "-") = some (decide (roomTx d.room = "-")) := eqT_ss (by cases d.room <;> exact ok_lit _) (ok_lit "-")
  have rm : d.room ≠ none → roomTx d.room ≠ "-" ∧ callK P (k + 6) z.n [.str (roomTx d.room)] h = .ok (.v (optT d.room)) h := fun e => by
    cases er : d.room with
    | none => exact (e er).elim
    | some i => exact ⟨num_not_none i, w_num X (k + 3) h (by have := ok.room i er; omega)⟩
  have tk : d.toks.tail.map T.str = .str d.s :: .str d.g :: .str (Str.ofString (toString d.a)) :: .str (Str.ofString (toString d.far)) :: .str (roomTx d.room) :: (letW d.L).map .str := rfl
  have lw : (letW d.L).length ≤ 8 ∧ 1 ≤ (letW d.L).length := by
    have := ok.n
    unfold letW
    split
    · simp
    · rw [List.length_map]; omega
  rw [tk]
  have dt : d.t = .tup [.str d.s, .str d.g, .int d.a, .tup (d.L.map optT), .int d.far, optT d.room] := rfl
  rw [dt]
  generalize Str.ofString (toString d.a) = ta at *
  generalize Str.ofString (toString d.far) = tf at *
  have c5 : cutT (.str d.s :: .str d.g :: .str ta :: .str tf :: .str (roomTx d.room) :: (letW d.L).map T.str) none (some (5 : Int)) = [.str d.s, .str d.g, .str ta, .str tf, .str (roomTx d.room)] := by
    rw [show (5 : Int) = ((5 : Nat) : Int) from rfl, cut_to (by simp)]
    rfl
  have f5 : cutT (.str d.s :: .str d.g :: .str ta :: .str tf :: .str (roomTx d.room) :: (letW d.L).map T.str) (some (5 : Int)) none = (letW d.L).map T.str := by
    rw [show (5 : Int) = ((5 : Nat) : Int) from rfl, cut_from (by simp)]
    rfl
  have len : bltR .len [.lst (.str d.s :: .str d.g :: .str ta :: .str tf :: .str (roomTx d.room) :: (letW d.L).map T.str)] = some (.v (.int (((letW d.L).length + 5 : Nat) : Int))) := by
    rw [len_lst]
    simp
    omega
  have l6 : ¬ ((((letW d.L).length + 5 : Nat) : Int) < 6) := by omega
  generalize hW : (letW d.L).map T.str = W at *
  generalize hL : d.L.map optT = L at *
  have bw : ∀ (s0 s1 s2 s3 s4 s5 s6 : Option Sl) (l : List T) (u : T), ixL P.wd [s0, s1, s2, s3, s4, s5, s6, some (.al l)] (.bw 7) (.v u) h = lift ((ixR (.lst l) u).map .v) h := fun s0 s1 s2 s3 s4 s5 s6 l u => ixL_bw _ _ _ (l := l) rfl u
  generalize (((letW d.L).length + 5 : Nat) : Int) = LEN at *
  have st : startT 8 [.lst (.str d.s :: .str d.g :: .str ta :: .str tf :: .str (roomTx d.room) :: W)] = [some (.v (.lst (.str d.s :: .str d.g :: .str ta :: .str tf :: .str (roomTx d.room) :: W))), none, none, none, none, none, none, none] := rfl
  rw [st]
  simp only [rdWi]
  cases er : d.room with
  | none =>
    rw [er] at q c5 f5 len
    have q : eqT (.str (roomTx none)) (.str "-") = some true := by rw [q]; rfl
    simp [X.gp, X.gn, len, -len_lst, l6, c5, f5, starS, setsV, a1, a2, a3, n1, n2, q, bw, optT, SL]
  | some i =>
    obtain ⟨r1, r2⟩ := rm (by rw [er]; simp)
    rw [er] at q c5 f5 len r1 r2
    rw [decide_eq_false r1] at q
    simp [X.gp, X.gn, len, -len_lst, l6, c5, f5, starS, setsV, a1, a2, a3, n1, n2, q, bw, r2, optT, SL]
end
end VY
namespace VY
open PySem L2
def rdL (z : RdI) : List S := [.asgR [7] 8 (.mth .split (.var 6) [.c (.str " ")]), .fz 8, .ife (.bop .And [.t (.cmp .In (.var 7) (.gl z.gW)), .t (.cmp .Eq (.var 4) (.lst []))]) [.par2 9 10 (.call z.wk [.bin .Add (.lst [.var 7]) (.var 8)]) (.var 3)] [.ife (.t (.cmp .Eq (.var 7) (.c (.str "wire")))) [.par2 9 10 (.call z.wi [.var 8]) (.var 4)] [.rse "NoText" [.var 5]]], .ife (.t (.cmp .Is (.var 9) (.c .non))) [.rse "NoText" [.var 5]] [], .app 10 (.var 9)]
theorem at_new {h : Hs} (a b : HOb) : (h ++ [a, b])[h.length]? = some a ∧ (h ++ [a, b])[h.length + 1]? = some b := by
  constructor
  · rw [List.getElem?_append_right (Nat.le_refl _), Nat.sub_self]; rfl
  · rw [List.getElem?_append_right (by omega), show h.length + 1 - h.length = 1 by omega]; rfl
theorem set_new0 {h : Hs} (a b c : HOb) : (h ++ [a, b]).set h.length c = h ++ [c, b] := by
  rw [List.set_append_right _ _ (Nat.le_refl _), Nat.sub_self]; rfl
theorem set_new1 {h : Hs} (a b c : HOb) : (h ++ [a, b]).set (h.length + 1) c = h ++ [a, c] := by
  rw [List.set_append_right _ _ (by omega), show h.length + 1 - h.length = 1 by omega]; rfl
section
variable {P : Pg} {z : RdI} (n : NetP P) (X : ReadP P z) (k : Nat)
include n X
theorem rd_work {ss : List Str} (hw : workB (.tup (ss.map .str)) = true) (hf : fineT (.tup (ss.map .str)) = true) (hd : depT (.tup (ss.map .str)) ≤ 60) (hl : (Txt.join " " ss).length ≤ 24000) (l3 : ss.length ≤ 3)
    (h0 : Hs) (i : Nat) (a : List T) (la : a.length ≤ 1000) (s0 s1 s2 s5 s6 s7 s8 s9 s10 : Option Sl) :
    ∃ t5 t6 t7 t8 t9 t10, forB (Γc P (k + 7)) (.tp [.nm 5, .nm 6]) (rdL z) (.tup [.int (i : Nat), .str (Txt.join " " ss)]) [s0, s1, s2, some (.v (.ref h0.length)), some (.v (.ref (h0.length + 1))), s5, s6, s7, s8, s9, s10] (h0 ++ [.lst a, .lst []])
      = .ok .nx [s0, s1, s2, some (.v (.ref h0.length)), some (.v (.ref (h0.length + 1))), t5, t6, t7, t8, t9, t10] (h0 ++ [.lst (a ++ [.tup (ss.map .str)]), .lst []]) := by
  obtain ⟨kd, r, e, kn, _⟩ := work_words hw
  have sp := split_work hw
  have w := w_wk n X (k + 4) (h0 ++ [.lst a, .lst []]) hw hf hd
  have w' : callK P (k + 9) z.wk [.lst (ss.map .str)] (h0 ++ [.lst a, .lst []]) = .ok (.v (.tup (ss.map .str))) (h0 ++ [.lst a, .lst []]) := w
  obtain ⟨g0, g1⟩ := at_new (h := h0) (.lst a) (.lst [])
  have q0 : eqT (.lst []) (.lst []) = some true := eqL_str (a := []) (b := []) (fun s m => by cases m) (fun s m => by cases m)
  have inw : inT (.str kd) (.tup [.str "spring", .str "fold", .str "pick", .str "mouth"]) = some true := by
    have := inS kd ["spring", "fold", "pick", "mouth"]
    rw [kn] at this
    exact this
  have b1 : ((" " : Str).length == 0) = false := by decide +kernel
  have cond : ((" " : Str).length == 0) = false ∧ (Txt.join " " ss).length + 2 ≤ SL := ⟨b1, by show _ ≤ 16777216; omega⟩
  have lr : r.length ≤ 2 := by rw [e] at l3; simpa using l3
  have cat : opR .Add (.lst [.str kd]) (.lst (r.map .str)) = some (.al (ss.map .str)) := by
    rw [opR_catL, if_pos (by simp; show _ ≤ 16777216; omega), e]; rfl
  have sa : a.length < SL := by show _ < 16777216; omega
  have st : starS [7] 8 (ss.map .str) [s0, s1, s2, some (.v (.ref h0.length)), some (.v (.ref (h0.length + 1))), some (.v (.int i)), some (.v (.str (Txt.join " " ss))), s7, s8, s9, s10] = some [s0, s1, s2, some (.v (.ref h0.length)), some (.v (.ref (h0.length + 1))), some (.v (.int i)), some (.v (.str (Txt.join " " ss))), some (.v (.str kd)), some (.al (r.map .str)), s9, s10] := by
    rw [e]
    simp [starS, setsV]
  refine ⟨some (.v (.int i)), some (.v (.str (Txt.join " " ss))), some (.v (.str kd)), some (.v (.lst (r.map .str))), some (.v (.tup (ss.map .str))), some (.v (.ref h0.length)), ?_⟩
  have sx : mtX [s0, s1, s2, some (.v (.ref h0.length)), some (.v (.ref (h0.length + 1))), some (.v (.int i)), some (.v (.str (Txt.join " " ss))), s7, s8, s9, s10] (.v (.str (Txt.join " " ss))) .split [.v (.str " ")] (h0 ++ [.lst a, .lst []]) = .ok (.al (ss.map .str)) (h0 ++ [.lst a, .lst []]) := by
    rw [mtX_split, if_pos cond, sp]
  have sn := set_new0 (h := h0) (.lst a) (.lst []) (.lst (a ++ [.tup (ss.map .str)]))
  have lS : 1 ≤ SL := by decide
  simp [forB, rdL, sx, -mtX_split, seqT, st, X.gW, inw, g0, g1, q0, cat, -opR_catL, w', appOk, appS, sa, sn, SL]
theorem rd_wire {d : WireD} (ok : d.Ok) (hs : nameS d.s = true) (hg : nameS d.g = true)
    (h0 : Hs) (i : Nat) (a b : List T) (lb : b.length ≤ 1000) (s0 s1 s2 s5 s6 s7 s8 s9 s10 : Option Sl) :
    ∃ t5 t6 t7 t8 t9 t10, forB (Γc P (k + 7)) (.tp [.nm 5, .nm 6]) (rdL z) (.tup [.int (i : Nat), .str d.tx]) [s0, s1, s2, some (.v (.ref h0.length)), some (.v (.ref (h0.length + 1))), s5, s6, s7, s8, s9, s10] (h0 ++ [.lst a, .lst b])
      = .ok .nx [s0, s1, s2, some (.v (.ref h0.length)), some (.v (.ref (h0.length + 1))), t5, t6, t7, t8, t9, t10] (h0 ++ [.lst a, .lst (b ++ [d.t])]) := by
  have sp := split_wire hs hg
  have w := w_wi n X (k + 2) (h0 ++ [.lst a, .lst b]) ok hs hg
  have w' : callK P (k + 9) z.wi [.lst (d.toks.tail.map .str)] (h0 ++ [.lst a, .lst b]) = .ok (.v d.t) (h0 ++ [.lst a, .lst b]) := w
  obtain ⟨g0, g1⟩ := at_new (h := h0) (.lst a) (.lst b)
  have inw : inT (.str "wire") (.tup [.str "spring", .str "fold", .str "pick", .str "mouth"]) = some false := by
    have := inS "wire" ["spring", "fold", "pick", "mouth"]
    rw [show oneOf "wire" ["spring", "fold", "pick", "mouth"] = false by decide +kernel] at this
    exact this
  have qw : eqT (.str "wire") (.str "wire") = some true := by rw [eqT_ss (ok_lit _) (ok_lit _)]; simp
  have b1 : ((" " : Str).length == 0) = false := by decide +kernel
  have len := ok.len
  have cond : ((" " : Str).length == 0) = false ∧ d.tx.length + 2 ≤ SL := ⟨b1, by show _ ≤ 16777216; omega⟩
  have sb : b.length < SL := by show _ < 16777216; omega
  have tk : d.toks.map T.str = .str "wire" :: d.toks.tail.map .str := rfl
  have dt : d.t = .tup [.str d.s, .str d.g, .int d.a, .tup (d.L.map optT), .int d.far, optT d.room] := rfl
  generalize htl : d.toks.tail.map T.str = r at *
  have st : starS [7] 8 (d.toks.map .str) [s0, s1, s2, some (.v (.ref h0.length)), some (.v (.ref (h0.length + 1))), some (.v (.int i)), some (.v (.str d.tx)), s7, s8, s9, s10] = some [s0, s1, s2, some (.v (.ref h0.length)), some (.v (.ref (h0.length + 1))), some (.v (.int i)), some (.v (.str d.tx)), some (.v (.str "wire")), some (.al r), s9, s10] := by
    rw [tk]
    simp [starS, setsV]
  refine ⟨some (.v (.int i)), some (.v (.str d.tx)), some (.v (.str "wire")), some (.v (.lst r)), some (.v d.t), some (.v (.ref (h0.length + 1))), ?_⟩
  have sx : mtX [s0, s1, s2, some (.v (.ref h0.length)), some (.v (.ref (h0.length + 1))), some (.v (.int i)), some (.v (.str d.tx)), s7, s8, s9, s10] (.v (.str d.tx)) .split [.v (.str " ")] (h0 ++ [.lst a, .lst b]) = .ok (.al (d.toks.map .str)) (h0 ++ [.lst a, .lst b]) := by
    rw [mtX_split, if_pos cond, sp]
  have sn := set_new1 (h := h0) (.lst a) (.lst b) (.lst (b ++ [d.t]))
  have isn : cmpR .Is d.t .non = some false := by rw [dt]; rfl
  have sd : seen (h0 ++ [.lst a, .lst b]) d.t = d.t := by rw [dt]; rfl
  simp [forB, rdL, sx, -mtX_split, seqT, st, X.gW, inw, g0, g1, qw, w', isn, sd, -cmpR_is, appOk, appS, sb, sn, SL]
theorem rd_works (h0 : Hs) (s0 s1 s2 : Option Sl) (tl : List T) : ∀ (A : List (List Str)) (i : Nat) (a : List T) (s5 s6 s7 s8 s9 s10 : Option Sl),
    (∀ ss ∈ A, workB (.tup (ss.map .str)) = true ∧ fineT (.tup (ss.map .str)) = true ∧ depT (.tup (ss.map .str)) ≤ 60 ∧ (Txt.join " " ss).length ≤ 24000 ∧ ss.length ≤ 3) → a.length + A.length ≤ 900 →
    ∃ t5 t6 t7 t8 t9 t10, forL (forB (Γc P (k + 7)) (.tp [.nm 5, .nm 6]) (rdL z)) none (numF i ((A.map fun ss => .str (Txt.join " " ss)) ++ tl)) [s0, s1, s2, some (.v (.ref h0.length)), some (.v (.ref (h0.length + 1))), s5, s6, s7, s8, s9, s10] (h0 ++ [.lst a, .lst []])
      = forL (forB (Γc P (k + 7)) (.tp [.nm 5, .nm 6]) (rdL z)) none (numF (i + A.length) tl) [s0, s1, s2, some (.v (.ref h0.length)), some (.v (.ref (h0.length + 1))), t5, t6, t7, t8, t9, t10] (h0 ++ [.lst (a ++ A.map fun ss => .tup (ss.map .str)), .lst []])
  | [], i, a, s5, s6, s7, s8, s9, s10, _, _ => ⟨s5, s6, s7, s8, s9, s10, by simp⟩
  | ss :: A, i, a, s5, s6, s7, s8, s9, s10, hA, hl => by
    simp only [List.length_cons] at hl
    obtain ⟨p1, p2, p3, p4, p5⟩ := hA ss (by simp)
    obtain ⟨t5, t6, t7, t8, t9, t10, e⟩ := rd_work n X k p1 p2 p3 p4 p5 h0 i a (by omega) s0 s1 s2 s5 s6 s7 s8 s9 s10
    obtain ⟨u5, u6, u7, u8, u9, u10, e2⟩ := rd_works h0 s0 s1 s2 tl A (i + 1) (a ++ [.tup (ss.map .str)]) t5 t6 t7 t8 t9 t10 (fun x m => hA x (by simp [m])) (by simp; omega)
    refine ⟨u5, u6, u7, u8, u9, u10, ?_⟩
    rw [List.map_cons, List.cons_append, show ∀ l, numF i (.str (Txt.join " " ss) :: l) = .tup [.int (i : Nat), .str (Txt.join " " ss)] :: numF (i + 1) l from fun l => rfl, forL_cons, e, SO.turn_nx, e2]
    rw [show i + 1 + A.length = i + (ss :: A).length by simp; omega]
    simp
theorem rd_wires (h0 : Hs) (a : List T) (s0 s1 s2 : Option Sl) : ∀ (B : List WireD) (i : Nat) (b : List T) (s5 s6 s7 s8 s9 s10 : Option Sl),
    (∀ d ∈ B, d.Ok ∧ nameS d.s = true ∧ nameS d.g = true) → b.length + B.length ≤ 900 →
    ∃ t5 t6 t7 t8 t9 t10, forL (forB (Γc P (k + 7)) (.tp [.nm 5, .nm 6]) (rdL z)) none (numF i (B.map fun d => .str d.tx)) [s0, s1, s2, some (.v (.ref h0.length)), some (.v (.ref (h0.length + 1))), s5, s6, s7, s8, s9, s10] (h0 ++ [.lst a, .lst b])
      = .ok .nx [s0, s1, s2, some (.v (.ref h0.length)), some (.v (.ref (h0.length + 1))), t5, t6, t7, t8, t9, t10] (h0 ++ [.lst a, .lst (b ++ B.map WireD.t)])
  | [], i, b, s5, s6, s7, s8, s9, s10, _, _ => ⟨s5, s6, s7, s8, s9, s10, by simp [show numF i [] = [] from rfl]⟩
  | d :: B, i, b, s5, s6, s7, s8, s9, s10, hB, hl => by
    simp only [List.length_cons] at hl
    obtain ⟨p1, p2, p3⟩ := hB d (by simp)
    obtain ⟨t5, t6, t7, t8, t9, t10, e⟩ := rd_wire n X k p1 p2 p3 h0 i a b (by omega) s0 s1 s2 s5 s6 s7 s8 s9 s10
    obtain ⟨u5, u6, u7, u8, u9, u10, e2⟩ := rd_wires h0 a s0 s1 s2 B (i + 1) (b ++ [d.t]) t5 t6 t7 t8 t9 t10 (fun x m => hB x (by simp [m])) (by simp; omega)
    refine ⟨u5, u6, u7, u8, u9, u10, ?_⟩
    rw [List.map_cons, show ∀ l, numF i (.str d.tx :: l) = .tup [.int (i : Nat), .str d.tx] :: numF (i + 1) l from fun l => rfl, forL_cons, e, SO.turn_nx, e2]
    simp
/-- a net's text is read -/
theorem w_read {iN : Nat} (C : NetC P iN) {r : Nat} (hr : P.ds[r]? = some ⟨1, 11, rdNet z⟩) {wk ws : List T} {A : List (List Str)} {B : List WireD} (nd : NetD wk ws A B) (nw : NetW A B) (ok : netX wk ws = none) (hk : ∀ t ∈ wk, fineT t = true ∧ depT t ≤ 60) (hv : ∀ t ∈ ws, fineT t = true) (h : Hs) :
    ∃ h', callK P (k + 10) r [.str (netTx A B)] h = .ok (.v (.ref (h.length + 2))) h' ∧ Gr h h' ∧ IsNet h' (h.length + 2) wk ws := by
  rw [callK_eq (k := k + 7) hr, runD_eq _ _ _ rfl]
  have W := w_init n C k hk hv (h ++ [.lst wk, .lst ws])
  rw [ok] at W
  obtain ⟨h', e, g, isn⟩ := W
  rw [show (h ++ [HOb.lst wk, .lst ws]).length = h.length + 2 by simp] at e isn
  refine ⟨h', ?_, Gr.trans ⟨_, rfl⟩ g, isn⟩
  have lA := nd.la
  have lB := nd.lb
  have rows := split_net nw
  have sm := nd.len
  have okt := nd.ok
  obtain ⟨u5, u6, u7, u8, u9, u10, eW⟩ := rd_works n X k h (some (.v (.str (netTx A B)))) (some (.v (.lst ((A.map (Txt.join " ") ++ B.map WireD.tx).map .str)))) none (B.map fun d => .str d.tx) A 0 [] none none none none none none
    (fun ss m => by
      have q := hk (.tup (ss.map .str)) (by rw [nd.k]; exact List.mem_map_of_mem m)
      have j := join_len " " ss
      have j2 := nd.work m
      exact ⟨nw.a ss m, q.1, q.2, by omega, (nd.a ss m).1⟩) (by simp; omega)
  obtain ⟨v5, v6, v7, v8, v9, v10, eV⟩ := rd_wires n X k h (A.map fun ss => .tup (ss.map .str)) (some (.v (.str (netTx A B)))) (some (.v (.lst ((A.map (Txt.join " ") ++ B.map WireD.tx).map .str)))) none B (0 + A.length) [] u5 u6 u7 u8 u9 u10
    (fun d m => ⟨(nd.b d m).1, nw.b d m⟩) (by simp; omega)
  rw [List.nil_append] at eW
  rw [eV, List.nil_append, ← nd.k, ← nd.v] at eW
  have em : (A.map fun ss => T.str (Txt.join " " ss)) ++ (B.map fun d => .str d.tx) = (A.map (Txt.join " ") ++ B.map WireD.tx).map .str := by rw [List.map_append, List.map_map, List.map_map]; rfl
  rw [em] at eW
  have b1 : (("\n" : Str).length == 0) = false := by decide +kernel
  have cond : (("\n" : Str).length == 0) = false ∧ (netTx A B).length + 2 ≤ SL := ⟨b1, by show _ ≤ 16777216; omega⟩
  have sx : ∀ σ, mtX σ (.v (.str (netTx A B))) .split [.v (.str "\n")] h = .ok (.al ((A.map (Txt.join " ") ++ B.map WireD.tx).map .str)) h := fun σ => by rw [mtX_split, if_pos cond, rows]
  have isi : bltR .isinstance [.str (netTx A B), .ty "str"] = some (.v (.bl true)) := rfl
  generalize hR : (A.map (Txt.join " ") ++ B.map WireD.tx).map T.str = R at *
  have st : startT 11 [.str (netTx A B)] = [some (.v (.str (netTx A B))), none, none, none, none, none, none, none, none, none, none] := rfl
  obtain ⟨g0, g1⟩ := at_new (h := h) (.lst wk) (.lst ws)
  have nw2 : ∀ σ, evE (Γc P (k + 7)) (.new "Net" [.blt .tuple [.var 3], .blt .tuple [.var 4]]) σ (h ++ [.lst wk, .lst ws]) = _ := fun σ => evE_new (Γc P (k + 7)) σ _ C.ini [.blt .tuple [.var 3], .blt .tuple [.var 4]]
  have try1 := fun σ h => evS_tryX (Γc P (k + 7)) σ h n.xs 2 [.ret (.new "Net" [.blt .tuple [.var 3], .blt .tuple [.var 4]])] [.stop]
  have e' : callK P (k + 8) iN [.ref (h.length + 2), .tup wk, .tup ws] (h ++ [.lst wk, .lst ws, .ins "Net" []]) = .ok (.v .non) h' := by rw [← e]; simp
  rw [st]
  show (evSs (Γc P (k + 7)) (rdNet z) _ h).out = _
  have pre : evSs (Γc P (k + 7)) (rdNet z) [some (.v (.str (netTx A B))), none, none, none, none, none, none, none, none, none, none] h
      = (forL (forB (Γc P (k + 7)) (.tp [.nm 5, .nm 6]) (rdL z)) none (numF 0 R) [some (.v (.str (netTx A B))), some (.v (.lst R)), none, some (.v (.ref h.length)), some (.v (.ref (h.length + 1))), none, none, none, none, none, none] (h ++ [.lst [], .lst []])).seq (evSs (Γc P (k + 7)) [.tryX 2 "NoNet" [.ret (.new "Net" [.blt .tuple [.var 3], .blt .tuple [.var 4]])] [.stop]]) := by
    simp [rdNet, n.g6, isi, sx, -mtX_split, numT_eq]
    rfl
  rw [pre, eW, SO.seq_nx, evSs_cons, try1, evSs_cons, evS_ret, nw2]
  simp [g0, g1, e']
end
end VY
namespace K06
open VY PySem L2
abbrev rowb : List Stmt := PySem.Challenge.pw_oweback_k06_nets_read.main.body
def st (i : Nat) : Stmt := rowb.getD i (.Pass ⟨0, 0, 0, 0⟩)
/-- is_whole(thing): 0 thing -/
def b0 : List S := [.ret (.bop .And [.blt .isinstance [.var 0, .gl 0], .not (.blt .isinstance [.var 0, .gl 1])])]
def f0 : FD := ⟨1, 1, b0⟩
def F0 : FnD := ⟨⟨("is_whole", none), "is_whole", "is_whole", L2.defArgs (st 10), L2.defBody (st 10), L2.defScope (st 10), [], []⟩, ["thing"], ["thing"], f0, fun _ _ _ _ _ _ us hl => match us, hl with | [_], _ => rfl⟩
/-- is_letter(thing): 0 thing -/
def b1 : List S := [.ret (.bop .Or [.cmp .Is (.var 0) (.c .non), .bop .And [.call 0 [.var 0], .ch .LtE .LtE (.neg (.gl 2)) (.var 0) (.gl 2)]])]
def f1 : FD := ⟨1, 1, b1⟩
def F1 : FnD := ⟨⟨("is_letter", none), "is_letter", "is_letter", L2.defArgs (st 11), L2.defBody (st 11), L2.defScope (st 11), [], []⟩, ["thing"], ["thing"], f1, fun _ _ _ _ _ _ us hl => match us, hl with | [_], _ => rfl⟩
/-- takes(word, many): 0 word, 1 many -/
def b2 : List S := [.ife (.t (.cmp .In (.var 0) (.gl 3))) [.ret (.cmp .Eq (.var 1) (.c (.int 2)))] [], .ret (.bop .And [.cmp .In (.var 0) (.gl 4), .ch .LtE .LtE (.c (.int 1)) (.var 1) (.gl 5)])]
def f2 : FD := ⟨2, 2, b2⟩
def F2 : FnD := ⟨⟨("takes", none), "takes", "takes", L2.defArgs (st 12), L2.defBody (st 12), L2.defScope (st 12), [], []⟩, ["word", "many"], ["word", "many"], f2, fun _ _ _ _ _ _ us hl => match us, hl with | [_, _], _ => rfl⟩
/-- is_name(thing): 0 thing, 1 sign -/
def b3 : List S := [.ife (.bop .Or [.not (.t (.blt .isinstance [.var 0, .gl 6])), .not (.t (.ch .LtE .LtE (.c (.int 1)) (.blt .len [.var 0]) (.gl 7)))]) [.ret (.c (.bl false))] [], .ret (.blt .all [.lc (.cmp .In (.var 1) (.gl 8)) (.nm 1) (.e (.var 0)) .yes])]
def f3 : FD := ⟨1, 2, b3⟩
def F3 : FnD := ⟨⟨("is_name", none), "is_name", "is_name", L2.defArgs (st 33), L2.defBody (st 33), L2.defScope (st 33), [], []⟩, ["thing", "sign"], ["thing"], f3, fun _ _ _ _ _ _ us hl => match us, hl with | [_], _ => rfl⟩
/-- is_within(thing, least, most): 0 thing, 1 least, 2 most -/
def b4 : List S := [.ret (.bop .And [.call 0 [.var 0], .ch .LtE .LtE (.var 1) (.var 0) (.var 2)])]
def f4 : FD := ⟨3, 3, b4⟩
def F4 : FnD := ⟨⟨("is_within", none), "is_within", "is_within", L2.defArgs (st 34), L2.defBody (st 34), L2.defScope (st 34), [], []⟩, ["thing", "least", "most"], ["thing", "least", "most"], f4, fun _ _ _ _ _ _ us hl => match us, hl with | [_, _, _], _ => rfl⟩
/-- is_room(thing, many): 0 thing, 1 many -/
def b5 : List S := [.ret (.bop .Or [.cmp .Is (.var 0) (.c .non), .call 4 [.var 0, .blt .max [.c (.int 1), .var 1], .gl 9]])]
def f5 : FD := ⟨2, 2, b5⟩
def F5 : FnD := ⟨⟨("is_room", none), "is_room", "is_room", L2.defArgs (st 35), L2.defBody (st 35), L2.defScope (st 35), [], []⟩, ["thing", "many"], ["thing", "many"], f5, fun _ _ _ _ _ _ us hl => match us, hl with | [_, _], _ => rfl⟩
/-- is_work(thing): 0 thing -/
def b6 : List S := [.ife (.bop .Or [.not (.t (.blt .isinstance [.var 0, .gl 10])), .t (.cmp .NotIn (.blt .len [.var 0]) (.tup [.c (.int 2), .c (.int 3)])), .not (.t (.call 3 [.ix (.var 0) (.c (.int 1))]))]) [.ret (.c (.bl false))] [], .ife (.t (.cmp .Eq (.blt .len [.var 0]) (.c (.int 2)))) [.ret (.bop .And [.blt .isinstance [.ix (.var 0) (.c (.int 0)), .gl 6], .cmp .In (.ix (.var 0) (.c (.int 0))) (.gl 11)])] [], .ret (.bop .And [.cmp .Eq (.ix (.var 0) (.c (.int 0))) (.c (.str "fold")), .blt .isinstance [.ix (.var 0) (.c (.int 2)), .gl 6], .cmp .In (.ix (.var 0) (.c (.int 2))) (.gl 4)])]
def f6 : FD := ⟨1, 1, b6⟩
def F6 : FnD := ⟨⟨("is_work", none), "is_work", "is_work", L2.defArgs (st 36), L2.defBody (st 36), L2.defScope (st 36), [], []⟩, ["thing"], ["thing"], f6, fun _ _ _ _ _ _ us hl => match us, hl with | [_], _ => rfl⟩
/-- is_wire(thing, names): 0 thing, 1 names, 2 start, 3 goal, 4 at, 5 first, 6 far, 7 room, 8 letter -/
def b7 : List S := [.ife (.bop .Or [.not (.t (.blt .isinstance [.var 0, .gl 10])), .t (.cmp .NotEq (.blt .len [.var 0]) (.c (.int 6)))]) [.ret (.c (.bl false))] [], .asgT (.tp [.nm 2, .nm 3, .nm 4, .nm 5, .nm 6, .nm 7]) (.var 0), .ife (.bop .Or [.not (.t (.blt .isinstance [.var 2, .gl 6])), .not (.t (.blt .isinstance [.var 3, .gl 6])), .t (.cmp .NotIn (.var 2) (.var 1)), .t (.cmp .NotIn (.var 3) (.var 1))]) [.ret (.c (.bl false))] [], .ife (.bop .Or [.not (.t (.call 4 [.var 4, .c (.int 0), .bin .Sub (.gl 12) (.c (.int 1))])), .not (.t (.blt .isinstance [.var 5, .gl 10])), .t (.cmp .Gt (.blt .len [.var 5]) (.gl 13))]) [.ret (.c (.bl false))] [], .ife (.bop .Or [.not (.t (.blt .all [.lc (.call 1 [.var 8]) (.nm 8) (.e (.var 5)) .yes])), .not (.t (.call 4 [.var 6, .c (.int 1), .gl 14]))]) [.ret (.c (.bl false))] [], .ret (.call 5 [.var 7, .blt .len [.var 5]])]
def f7 : FD := ⟨2, 9, b7⟩
def F7 : FnD := ⟨⟨("is_wire", none), "is_wire", "is_wire", L2.defArgs (st 37), L2.defBody (st 37), L2.defScope (st 37), [], []⟩, ["thing", "names", "start", "goal", "at", "first", "far", "room", "letter"], ["thing", "names"], f7, fun _ _ _ _ _ _ us hl => match us, hl with | [_, _], _ => rfl⟩
/-- look_works(works): 0 works, 1 seen, 2 at, 3 work -/
def b8 : List S := [.ife (.bop .Or [.not (.t (.blt .isinstance [.var 0, .gl 10])), .not (.t (.ch .LtE .LtE (.c (.int 1)) (.blt .len [.var 0]) (.gl 15)))]) [.rse "NoNet" [.c (.str "works"), .neg (.c (.int 1))]] [], .asg 1 (.op .set0 []), .for (.tp [.nm 2, .nm 3]) (.en (.var 0)) [.ife (.bop .Or [.not (.t (.call 6 [.var 3])), .t (.cmp .In (.ix (.var 3) (.c (.int 1))) (.var 1))]) [.rse "NoNet" [.c (.str "works"), .var 2]] [], .expr (.mth .add (.var 1) [.ix (.var 3) (.c (.int 1))])]]
def f8 : FD := ⟨1, 4, b8⟩
def F8 : FnD := ⟨⟨("look_works", none), "look_works", "look_works", L2.defArgs (st 38), L2.defBody (st 38), L2.defScope (st 38), [], []⟩, ["works", "seen", "at", "work"], ["works"], f8, fun _ _ _ _ _ _ us hl => match us, hl with | [_], _ => rfl⟩
/-- look_wires(works, wires): 0 works, 1 wires, 2 names, 3 ends, 4 at, 5 wire, 6 work -/
def b9 : List S := [.ife (.bop .Or [.not (.t (.blt .isinstance [.var 1, .gl 10])), .t (.cmp .Gt (.blt .len [.var 1]) (.gl 16))]) [.rse "NoNet" [.c (.str "wires"), .neg (.c (.int 1))]] [], .asg 2 (.lc (.ix (.var 6) (.c (.int 1))) (.nm 6) (.e (.var 0)) .yes), .fz 2, .asg 3 (.op .tset0 []), .for (.tp [.nm 4, .nm 5]) (.en (.var 1)) [.ife (.bop .Or [.not (.t (.call 7 [.var 5, .var 2])), .t (.cmp .In (.sl (.var 5) (.at (.c (.int 1))) (.at (.c (.int 3)))) (.var 3))]) [.rse "NoNet" [.c (.str "wires"), .var 4]] [], .expr (.mth .add (.var 3) [.sl (.var 5) (.at (.c (.int 1))) (.at (.c (.int 3)))])]]
def f9 : FD := ⟨2, 7, b9⟩
def F9 : FnD := ⟨⟨("look_wires", none), "look_wires", "look_wires", L2.defArgs (st 39), L2.defBody (st 39), L2.defScope (st 39), [], []⟩, ["works", "wires", "names", "ends", "at", "wire", "work"], ["works", "wires"], f9, fun _ _ _ _ _ _ us hl => match us, hl with | [_, _], _ => rfl⟩
/-- is_fed(work, many): 0 work, 1 many, 2 kind, 3 name, 4 least, 5 most, 6 words -/
def b10 : List S := [.asgR [2, 3] 6 (.var 0), .ife (.t (.cmp .Eq (.var 2) (.c (.str "fold")))) [.ret (.call 2 [.ix (.var 6) (.c (.int 0)), .var 1])] [], .asgT (.tp [.nm 4, .nm 5]) (.ix (.dsp [.c (.str "spring"), .tup [.c (.int 0), .c (.int 0)], .c (.str "mouth"), .tup [.c (.int 1), .c (.int 1)], .c (.str "pick"), .tup [.c (.int 2), .gl 12]]) (.var 2)), .ret (.ch .LtE .LtE (.var 4) (.var 1) (.var 5))]
def f10 : FD := ⟨2, 7, b10⟩
def F10 : FnD := ⟨⟨("is_fed", none), "is_fed", "is_fed", L2.defArgs (st 40), L2.defBody (st 40), L2.defScope (st 40), [], []⟩, ["work", "many", "kind", "name", "least", "most", "words"], ["work", "many"], f10, fun _ _ _ _ _ _ us hl => match us, hl with | [_, _], _ => rfl⟩
/-- look_ins(works, wires): 0 works, 1 wires, 2 at, 3 work, 4 ins, 5 leaves, 6 wire -/
def b11 : List S := [.for (.tp [.nm 2, .nm 3]) (.en (.var 0)) [.asg 4 (.blt .sorted [.lc (.ix (.var 6) (.c (.int 2))) (.nm 6) (.e (.var 1)) (.t (.cmp .Eq (.ix (.var 6) (.c (.int 1))) (.ix (.var 3) (.c (.int 1)))))]), .fz 4, .asg 5 (.blt .any [.lc (.cmp .Eq (.ix (.var 6) (.c (.int 0))) (.ix (.var 3) (.c (.int 1)))) (.nm 6) (.e (.var 1)) .yes]), .ife (.bop .Or [.t (.cmp .NotEq (.var 4) (.op .lrg [.blt .len [.var 4]])), .not (.t (.call 10 [.var 3, .blt .len [.var 4]])), .t (.cmp .Eq (.var 5) (.cmp .Eq (.ix (.var 3) (.c (.int 0))) (.c (.str "mouth"))))]) [.rse "NoNet" [.c (.str "ins"), .var 2]] []]]
def f11 : FD := ⟨2, 7, b11⟩
def F11 : FnD := ⟨⟨("look_ins", none), "look_ins", "look_ins", L2.defArgs (st 41), L2.defBody (st 41), L2.defScope (st 41), [], []⟩, ["works", "wires", "at", "work", "ins", "leaves", "wire"], ["works", "wires"], f11, fun _ _ _ _ _ _ us hl => match us, hl with | [_, _], _ => rfl⟩
/-- letter_text(letter): 0 letter -/
def b12 : List S := [.ret (.ife (.t (.cmp .Is (.var 0) (.c .non))) (.gl 17) (.blt .str [.var 0]))]
def f12 : FD := ⟨1, 1, b12⟩
def F12 : FnD := ⟨⟨("letter_text", none), "letter_text", "letter_text", L2.defArgs (st 18), L2.defBody (st 18), L2.defScope (st 18), [], []⟩, ["letter"], ["letter"], f12, fun _ _ _ _ _ _ us hl => match us, hl with | [_], _ => rfl⟩
/-- letters_text(letters): 0 letters, 1 letter -/
def b13 : List S := [.ret (.ife (.t (.cmp .Eq (.blt .len [.var 0]) (.c (.int 0)))) (.gl 18) (.mth .join (.c (.str " ")) [.lc (.call 12 [.var 1]) (.nm 1) (.e (.var 0)) .yes]))]
def f13 : FD := ⟨1, 2, b13⟩
def F13 : FnD := ⟨⟨("letters_text", none), "letters_text", "letters_text", L2.defArgs (st 19), L2.defBody (st 19), L2.defScope (st 19), [], []⟩, ["letters", "letter"], ["letters"], f13, fun _ _ _ _ _ _ us hl => match us, hl with | [_], _ => rfl⟩
/-- number_in(word): 0 word, 1 figures, 2 sign -/
def b14 : List S := [.asg 1 (.mth .rmpre (.var 0) [.c (.str "-")]), .ife (.bop .Or [.not (.t (.ch .LtE .LtE (.c (.int 1)) (.blt .len [.var 1]) (.gl 19))), .not (.t (.blt .all [.lc (.cmp .In (.var 2) (.gl 20)) (.nm 2) (.e (.var 1)) .yes]))]) [.ret (.c .non)] [], .ife (.bop .And [.t (.cmp .Eq (.ix (.var 1) (.c (.int 0))) (.c (.str "0"))), .t (.cmp .NotEq (.var 0) (.c (.str "0")))]) [.ret (.c .non)] [], .ret (.blt .int [.var 0])]
def f14 : FD := ⟨1, 3, b14⟩
def F14 : FnD := ⟨⟨("number_in", none), "number_in", "number_in", L2.defArgs (st 20), L2.defBody (st 20), L2.defScope (st 20), [], []⟩, ["word", "figures", "sign"], ["word"], f14, fun _ _ _ _ _ _ us hl => match us, hl with | [_], _ => rfl⟩
/-- is_letter_word(word): 0 word, 1 number -/
def b15 : List S := [.ife (.t (.cmp .Eq (.var 0) (.gl 17))) [.ret (.c (.bl true))] [], .asg 1 (.call 14 [.var 0]), .ret (.bop .And [.cmp .IsNot (.var 1) (.c .non), .call 1 [.var 1]])]
def f15 : FD := ⟨1, 2, b15⟩
def F15 : FnD := ⟨⟨("is_letter_word", none), "is_letter_word", "is_letter_word", L2.defArgs (st 21), L2.defBody (st 21), L2.defScope (st 21), [], []⟩, ["word", "number"], ["word"], f15, fun _ _ _ _ _ _ us hl => match us, hl with | [_], _ => rfl⟩
/-- letters_in(words): 0 words, 1 word -/
def b16 : List S := [.ife (.t (.cmp .Eq (.var 0) (.lst [.gl 18]))) [.ret (.lst [])] [], .ife (.bop .Or [.t (.cmp .Eq (.var 0) (.lst [])), .not (.t (.blt .all [.lc (.call 15 [.var 1]) (.nm 1) (.e (.var 0)) .yes]))]) [.ret (.c .non)] [], .ret (.lc (.call 14 [.var 1]) (.nm 1) (.e (.var 0)) .yes)]
def f16 : FD := ⟨1, 2, b16⟩
def F16 : FnD := ⟨⟨("letters_in", none), "letters_in", "letters_in", L2.defArgs (st 22), L2.defBody (st 22), L2.defScope (st 22), [], []⟩, ["words", "word"], ["words"], f16, fun _ _ _ _ _ _ us hl => match us, hl with | [_], _ => rfl⟩
/-- wire_text(wire): 0 wire, 1 start, 2 goal, 3 at, 4 first, 5 far, 6 room -/
def b17 : List S := [.asgT (.tp [.nm 1, .nm 2, .nm 3, .nm 4, .nm 5, .nm 6]) (.var 0), .ret (.fs [.c (.str "wire "), .var 1, .c (.str " "), .var 2, .c (.str " "), .var 3, .c (.str " "), .var 5, .c (.str " "), .ife (.t (.cmp .Is (.var 6) (.c .non))) (.gl 18) (.var 6), .c (.str " "), .call 13 [.var 4]])]
def f17 : FD := ⟨1, 7, b17⟩
def F17 : FnD := ⟨⟨("wire_text", none), "wire_text", "wire_text", L2.defArgs (st 42), L2.defBody (st 42), L2.defScope (st 42), [], []⟩, ["wire", "start", "goal", "at", "first", "far", "room"], ["wire"], f17, fun _ _ _ _ _ _ us hl => match us, hl with | [_], _ => rfl⟩
/-- work_in(words): 0 words, 1 work -/
def b18 : List S := [.asg 1 (.blt .tuple [.var 0]), .ret (.ife (.t (.call 6 [.var 1])) (.var 1) (.c .non))]
def f18 : FD := ⟨1, 2, b18⟩
def F18 : FnD := ⟨⟨("work_in", none), "work_in", "work_in", L2.defArgs (st 47), L2.defBody (st 47), L2.defScope (st 47), [], []⟩, ["words", "work"], ["words"], f18, fun _ _ _ _ _ _ us hl => match us, hl with | [_], _ => rfl⟩
/-- wire_in(words): 0 words, 1 room, 2 first, 3 start, 4 goal, 5 at, 6 far, 7 numbers -/
def b19 : List S := [.ife (.t (.cmp .Lt (.blt .len [.var 0]) (.gl 21))) [.ret (.c .non)] [], .asgR [3, 4] 7 (.sl (.var 0) .no (.at (.bin .Sub (.gl 21) (.c (.int 1))))), .par2 5 6 (.call 14 [.ix (.var 7) (.c (.int 0))]) (.call 14 [.ix (.var 7) (.c (.int 1))]), .asg 1 (.ife (.t (.cmp .Eq (.ix (.var 7) (.c (.int 2))) (.gl 18))) (.c .non) (.call 14 [.ix (.var 7) (.c (.int 2))])), .asg 2 (.call 16 [.sl (.var 0) (.at (.bin .Sub (.gl 21) (.c (.int 1)))) .no]), .fz 2, .ife (.bop .Or [.not (.t (.call 3 [.var 3])), .not (.t (.call 3 [.var 4])), .t (.cmp .Is (.var 5) (.c .non)), .t (.cmp .Is (.var 6) (.c .non)), .t (.cmp .Is (.var 2) (.c .non))]) [.ret (.c .non)] [], .ife (.bop .And [.t (.cmp .Is (.var 1) (.c .non)), .t (.cmp .NotEq (.ix (.var 7) (.c (.int 2))) (.gl 18))]) [.ret (.c .non)] [], .ret (.tup [.var 3, .var 4, .var 5, .blt .tuple [.var 2], .var 6, .var 1])]
def f19 : FD := ⟨1, 8, b19⟩
def F19 : FnD := ⟨⟨("wire_in", none), "wire_in", "wire_in", L2.defArgs (st 48), L2.defBody (st 48), L2.defScope (st 48), [], []⟩, ["words", "room", "first", "start", "goal", "at", "far", "numbers"], ["words"], f19, fun _ _ _ _ _ _ us hl => match us, hl with | [_], _ => rfl⟩
/-- read_net(text): 0 text, 1 rows, 2 why, 3 works, 4 wires, 5 at, 6 row, 7 head, 8 words, 9 part, 10 kept -/
def b20 : List S := [.ife (.not (.t (.blt .isinstance [.var 0, .gl 6]))) [.rse "NoText" [.neg (.c (.int 1))]] [], .asg 1 (.mth .split (.var 0) [.c (.str "\n")]), .fz 1, .par2 3 4 (.lst []) (.lst []), .pr 3, .pr 4, .for (.tp [.nm 5, .nm 6]) (.en (.var 1)) [.asgR [7] 8 (.mth .split (.var 6) [.c (.str " ")]), .fz 8, .ife (.bop .And [.t (.cmp .In (.var 7) (.gl 22)), .t (.cmp .Eq (.var 4) (.lst []))]) [.par2 9 10 (.call 18 [.bin .Add (.lst [.var 7]) (.var 8)]) (.var 3)] [.ife (.t (.cmp .Eq (.var 7) (.c (.str "wire")))) [.par2 9 10 (.call 19 [.var 8]) (.var 4)] [.rse "NoText" [.var 5]]], .ife (.t (.cmp .Is (.var 9) (.c .non))) [.rse "NoText" [.var 5]] [], .app 10 (.var 9)], .tryX 2 "NoNet" [.ret (.new "Net" [.blt .tuple [.var 3], .blt .tuple [.var 4]])] [.stop]]
def f20 : FD := ⟨1, 11, b20⟩
def F20 : FnD := ⟨⟨("read_net", none), "read_net", "read_net", L2.defArgs (st 49), L2.defBody (st 49), L2.defScope (st 49), [], []⟩, ["text", "rows", "why", "works", "wires", "at", "row", "head", "words", "part", "kept"], ["text"], f20, fun _ _ _ _ _ _ us hl => match us, hl with | [_], _ => rfl⟩
/-- _law_bag(_law_script, _law_at): 0 _law_script, 1 _law_at, 2 _law_cell, 3 _law_great -/
def b21s0 : S := .asg 2 (.c (.int 0))
def b21s1 : S := .ife (.t (.cmp .Lt (.var 1) (.blt .len [.var 0]))) [.asg 2 (.ix (.var 0) (.var 1))] []
def b21s2 : S := .asg 3 (.bin .Mult (.blt .abs [.var 2]) (.blt .int [.cmp .GtE (.blt .abs [.var 2]) (.bin .Pow (.c (.int 10)) (.c (.int 18)))]))
def b21s3 : S := .ret (.lst [.var 3, .bin .Add (.bin .Add (.bin .Add (.bin .Mod (.var 2) (.bin .Add (.bin .Pow (.c (.int 10)) (.c (.int 18))) (.c (.int 9)))) (.bin .Mult (.bin .Mult (.c (.int 50021)) (.var 1)) (.var 1))) (.bin .Mult (.c (.int 7013)) (.var 1))) (.c (.int 19)), .c (.int 0)])
def b21 : List S := [b21s0, b21s1, b21s2, b21s3]
def f21 : FD := ⟨2, 4, b21⟩
def F21 : FnD := ⟨⟨("_law_bag", none), "_law_bag", "_law_bag", L2.defArgs (st 51), L2.defBody (st 51), L2.defScope (st 51), [], []⟩, ["_law_script", "_law_at", "_law_cell", "_law_great"], ["_law_script", "_law_at"], f21, fun _ _ _ _ _ _ us hl => match us, hl with | [_, _], _ => rfl⟩
/-- _law_take(_law_bag_here, _law_many): 0 _law_bag_here, 1 _law_many, 2 _law_primes, 3 _law_step, 4 _law_base, 5 _law_found, 6 _law_digit -/
def b22s0 : S := .ife (.t (.cmp .Gt (.ix (.var 0) (.c (.int 0))) (.c (.int 0)))) [.asg 6 (.bin .Mod (.ix (.var 0) (.c (.int 0))) (.var 1)), .setIx (.var 0) (.c (.int 0)) (.bin .FloorDiv (.ix (.var 0) (.c (.int 0))) (.var 1)), .ret (.var 6)] []
def b22s1 : S := .asg 2 (.tup [.c (.int 2147483647), .c (.int 2147483629), .c (.int 2147483587), .c (.int 2147483579), .c (.int 2147483563), .c (.int 2147483549), .c (.int 2147483543), .c (.int 2147483497)])
def b22s2 : S := .setIx (.var 0) (.c (.int 2)) (.bin .Add (.ix (.var 0) (.c (.int 2))) (.c (.int 1)))
def b22s3 : S := .asg 3 (.ix (.var 0) (.c (.int 2)))
def b22s4 : S := .asg 4 (.bin .Add (.bin .Add (.bin .Mult (.ix (.var 0) (.c (.int 1))) (.bin .Add (.bin .Mult (.c (.int 2)) (.var 3)) (.c (.int 1)))) (.bin .Mult (.bin .Mult (.c (.int 6121)) (.var 3)) (.var 3))) (.c (.int 37)))
def b22s5 : S := .asg 5 (.bin .Mod (.bin .Pow (.var 4) (.c (.int 3))) (.ix (.var 2) (.bin .Mod (.var 3) (.c (.int 8)))))
def b22s6 : S := .ret (.bin .Mod (.bin .FloorDiv (.bin .Mod (.bin .Mult (.var 5) (.bin .Add (.bin .FloorDiv (.var 5) (.c (.int 4093))) (.var 3))) (.ix (.var 2) (.bin .Mod (.bin .Add (.var 3) (.c (.int 3))) (.c (.int 8))))) (.c (.int 16))) (.var 1))
def b22 : List S := [b22s0, b22s1, b22s2, b22s3, b22s4, b22s5, b22s6]
def f22 : FD := ⟨2, 7, b22⟩
def F22 : FnD := ⟨⟨("_law_take", none), "_law_take", "_law_take", L2.defArgs (st 52), L2.defBody (st 52), L2.defScope (st 52), [], []⟩, ["_law_bag_here", "_law_many", "_law_primes", "_law_step", "_law_base", "_law_found", "_law_digit"], ["_law_bag_here", "_law_many"], f22, fun _ _ _ _ _ _ us hl => match us, hl with | [_, _], _ => rfl⟩
/-- _law_names(_law_bag_here, _law_many): 0 _law_bag_here, 1 _law_many, 2 _law_letters, 3 _law_found, 4 _law_k, 5 _law_shift, 6 _law_side, 7 _law_stem, 8 _law_own, 9 _law_step -/
def b23l0 : List S := [.asg 7 (.mth .join (.c (.str "")) [.lc (.ix (.var 2) (.call 22 [.var 0, .c (.int 26)])) (.nm 9) (.r1 (.ix (.lst [.c (.int 0), .c (.int 0), .c (.int 1), .c (.int 2), .c (.int 6)]) (.call 22 [.var 0, .c (.int 5)]))) .yes]), .asg 8 (.bin .Add (.ix (.var 2) (.bin .Mod (.bin .Add (.var 5) (.bin .Mult (.c (.int 7)) (.var 4))) (.c (.int 26)))) (.bin .Mult (.ix (.var 2) (.bin .FloorDiv (.var 4) (.c (.int 26)))) (.blt .int [.cmp .Gt (.var 1) (.c (.int 26))]))), .app 3 (.ife (.t (.cmp .Eq (.var 6) (.c (.int 0)))) (.bin .Add (.var 8) (.var 7)) (.bin .Add (.var 7) (.var 8)))]
def b23s0 : S := .asg 2 (.c (.str "abcdefghijklmnopqrstuvwxyz"))
def b23s1 : S := .par2 5 6 (.call 22 [.var 0, .c (.int 26)]) (.call 22 [.var 0, .c (.int 2)])
def b23s2 : S := .asg 3 (.lst [])
def b23s3 : S := .for (.nm 4) (.r1 (.var 1)) b23l0
def b23s4 : S := .retS 3
def b23 : List S := [b23s0, b23s1, b23s2, b23s3, b23s4]
def f23 : FD := ⟨2, 10, b23⟩
def F23 : FnD := ⟨⟨("_law_names", none), "_law_names", "_law_names", L2.defArgs (st 53), L2.defBody (st 53), L2.defScope (st 53), [], []⟩, ["_law_bag_here", "_law_many", "_law_letters", "_law_found", "_law_k", "_law_shift", "_law_side", "_law_stem", "_law_own", "_law_step"], ["_law_bag_here", "_law_many"], f23, fun _ _ _ _ _ _ us hl => match us, hl with | [_, _], _ => rfl⟩
/-- _law_letter(_law_bag_here): 0 _law_bag_here, 1 _law_how -/
def b24s0 : S := .asg 1 (.call 22 [.var 0, .c (.int 12)])
def b24s1 : S := .ife (.t (.cmp .Lt (.var 1) (.c (.int 9)))) [.ret (.call 22 [.var 0, .c (.int 4)])] []
def b24s2 : S := .ife (.t (.cmp .Eq (.var 1) (.c (.int 9)))) [.ret (.bin .Sub (.call 22 [.var 0, .c (.int 41)]) (.c (.int 20)))] []
def b24s3 : S := .ret (.ix (.lst [.c .non, .bin .Sub (.bin .Pow (.c (.int 10)) (.c (.int 9))) (.call 22 [.var 0, .c (.int 1000)]), .bin .Sub (.call 22 [.var 0, .c (.int 3)]) (.bin .Pow (.c (.int 10)) (.c (.int 9)))]) (.call 22 [.var 0, .c (.int 3)]))
def b24 : List S := [b24s0, b24s1, b24s2, b24s3]
def f24 : FD := ⟨1, 2, b24⟩
def F24 : FnD := ⟨⟨("_law_letter", none), "_law_letter", "_law_letter", L2.defArgs (st 54), L2.defBody (st 54), L2.defScope (st 54), [], []⟩, ["_law_bag_here", "_law_how"], ["_law_bag_here"], f24, fun _ _ _ _ _ _ us hl => match us, hl with | [_], _ => rfl⟩
/-- _law_inner(_law_bag_here, _law_name): 0 _law_bag_here, 1 _law_name, 2 _law_how, 3 _law_word, 4 _law_many -/
def b25s0 : S := .asg 2 (.call 22 [.var 0, .c (.int 9)])
def b25s1 : S := .ife (.t (.cmp .Eq (.var 2) (.c (.int 0)))) [.ret (.tup [.tup [.c (.str "spring"), .var 1], .c (.int 0)])] []
def b25s2 : S := .ife (.t (.cmp .Lt (.var 2) (.c (.int 4)))) [.ret (.tup [.tup [.c (.str "pick"), .var 1], .bin .Add (.c (.int 2)) (.call 22 [.var 0, .ix (.lst [.c (.int 2), .c (.int 2), .c (.int 2), .c (.int 6)]) (.call 22 [.var 0, .c (.int 4)])])])] []
def b25s3 : S := .asg 3 (.ix (.lst [.c (.str "plus"), .c (.str "plus"), .c (.str "times"), .c (.str "least"), .c (.str "most"), .c (.str "same"), .c (.str "less"), .c (.str "over"), .c (.str "rest"), .c (.str "below")]) (.call 22 [.var 0, .c (.int 10)]))
def b25s4 : S := .asg 4 (.bin .Add (.c (.int 1)) (.call 22 [.var 0, .ix (.lst [.c (.int 2), .c (.int 2), .c (.int 3), .c (.int 6)]) (.call 22 [.var 0, .c (.int 4)])]))
def b25s5 : S := .ret (.tup [.tup [.c (.str "fold"), .var 1, .var 3], .ife (.t (.cmp .In (.var 3) (.tup [.c (.str "less"), .c (.str "over"), .c (.str "rest"), .c (.str "below")]))) (.c (.int 2)) (.var 4)])
def b25 : List S := [b25s0, b25s1, b25s2, b25s3, b25s4, b25s5]
def f25 : FD := ⟨2, 5, b25⟩
def F25 : FnD := ⟨⟨("_law_inner", none), "_law_inner", "_law_inner", L2.defArgs (st 55), L2.defBody (st 55), L2.defScope (st 55), [], []⟩, ["_law_bag_here", "_law_name", "_law_how", "_law_word", "_law_many"], ["_law_bag_here", "_law_name"], f25, fun _ _ _ _ _ _ us hl => match us, hl with | [_, _], _ => rfl⟩
/-- _law_wire(_law_bag_here, _law_start, _law_goal, _law_at, _law_is_back): 0 _law_bag_here, 1 _law_start, 2 _law_goal, 3 _law_at, 4 _law_is_back, 5 _law_many, 6 _law_first, 7 _law_room, 8 _law_k -/
def b26s0 : S := .asg 5 (.bin .Mult (.ix (.lst [.c (.int 0), .c (.int 1), .c (.int 1), .c (.int 2), .c (.int 3), .call 22 [.var 0, .c (.int 9)]]) (.call 22 [.var 0, .c (.int 6)])) (.blt .int [.bop .Or [.var 4, .cmp .Eq (.call 22 [.var 0, .c (.int 4)]) (.c (.int 0))]]))
def b26s1 : S := .asg 6 (.blt .tuple [.lc (.call 24 [.var 0]) (.nm 8) (.r1 (.var 5)) .yes])
def b26s2 : S := .asg 7 (.c .non)
def b26s3 : S := .ife (.t (.cmp .Eq (.call 22 [.var 0, .c (.int 5)]) (.c (.int 0)))) [.asg 7 (.bin .Add (.blt .max [.c (.int 1), .var 5]) (.call 22 [.var 0, .c (.int 4)]))] []
def b26s4 : S := .ret (.tup [.var 1, .var 2, .var 3, .var 6, .bin .Add (.c (.int 1)) (.call 22 [.var 0, .ix (.lst [.c (.int 1), .c (.int 3), .c (.int 9)]) (.call 22 [.var 0, .c (.int 3)])]), .var 7])
def b26 : List S := [b26s0, b26s1, b26s2, b26s3, b26s4]
def f26 : FD := ⟨5, 9, b26⟩
def F26 : FnD := ⟨⟨("_law_wire", none), "_law_wire", "_law_wire", L2.defArgs (st 56), L2.defBody (st 56), L2.defScope (st 56), [], []⟩, ["_law_bag_here", "_law_start", "_law_goal", "_law_at", "_law_is_back", "_law_many", "_law_first", "_law_room", "_law_k"], ["_law_bag_here", "_law_start", "_law_goal", "_law_at", "_law_is_back"], f26, fun _ _ _ _ _ _ us hl => match us, hl with | [_, _, _, _, _], _ => rfl⟩
/-- _law_net(_law_bag_here, _law_most): 0 _law_bag_here, 1 _law_most, 2 _law_many, 3 _law_names_here, 4 _law_inner_here, 5 _law_wires, 6 _law_k, 7 _law_works, 8 _law_turn, 9 _law_at, 10 _law_name, 11 _law_other, 12 _law_work, 13 _law_ins, 14 _law_wire_here -/
def b27l0 : List S := [.asg 11 (.call 22 [.var 0, .var 2]), .app 5 (.call 26 [.var 0, .ix (.var 3) (.var 11), .ix (.var 3) (.var 6), .var 9, .cmp .GtE (.var 11) (.var 6)])]
def b27l1 : List S := [.for (.nm 9) (.r1 (.ix (.ix (.var 4) (.var 6)) (.c (.int 1)))) b27l0]
def b27l2 : List S := [.ife (.bop .Or [.t (.cmp .NotIn (.ix (.var 3) (.var 6)) (.lc (.ix (.var 14) (.c (.int 0))) (.nm 14) (.e (.var 5)) .yes)), .t (.cmp .Eq (.call 22 [.var 0, .c (.int 6)]) (.c (.int 0)))]) [.app 7 (.tup [.c (.str "mouth"), .ix (.var 3) (.bin .Add (.var 2) (.var 6))]), .app 5 (.call 26 [.var 0, .ix (.var 3) (.var 6), .ix (.var 3) (.bin .Add (.var 2) (.var 6)), .c (.int 0), .c (.bl false)])] []]
def b27s0 : S := .asg 2 (.bin .Add (.c (.int 1)) (.call 22 [.var 0, .var 1]))
def b27s1 : S := .asg 3 (.call 23 [.var 0, .bin .Mult (.c (.int 2)) (.var 2)])
def b27s2 : S := .fz 3
def b27s3 : S := .asg 4 (.lc (.call 25 [.var 0, .var 10]) (.nm 10) (.e (.sl (.var 3) .no (.at (.var 2)))) .yes)
def b27s4 : S := .fz 4
def b27s5 : S := .asg 5 (.lst [])
def b27s6 : S := .for (.nm 6) (.r1 (.var 2)) b27l1
def b27s7 : S := .asg 7 (.lc (.var 12) (.tp [.nm 12, .nm 13]) (.e (.var 4)) .yes)
def b27s8 : S := .for (.nm 6) (.r1 (.var 2)) b27l2
def b27s9 : S := .asg 8 (.call 22 [.var 0, .blt .len [.var 7]])
def b27s10 : S := .ret (.tup [.blt .tuple [.bin .Add (.sl (.var 7) (.at (.var 8)) .no) (.sl (.var 7) .no (.at (.var 8)))], .blt .tuple [.ife (.t (.cmp .Eq (.call 22 [.var 0, .c (.int 2)]) (.c (.int 0)))) (.var 5) (.op .rev [.var 5])]])
def b27 : List S := [b27s0, b27s1, b27s2, b27s3, b27s4, b27s5, b27s6, b27s7, b27s8, b27s9, b27s10]
def f27 : FD := ⟨2, 15, b27⟩
def F27 : FnD := ⟨⟨("_law_net", none), "_law_net", "_law_net", L2.defArgs (st 57), L2.defBody (st 57), L2.defScope (st 57), [], []⟩, ["_law_bag_here", "_law_most", "_law_many", "_law_names_here", "_law_inner_here", "_law_wires", "_law_k", "_law_works", "_law_turn", "_law_at", "_law_name", "_law_other", "_law_work", "_law_ins", "_law_wire_here"], ["_law_bag_here", "_law_most"], f27, fun _ _ _ _ _ _ us hl => match us, hl with | [_, _], _ => rfl⟩
/-- law(_law_script): 0 _law_script, 1 _law_at, 2 _law_rows, 3 _law_net_here, 4 _law_ends, 5 _law_bag_here, 6 _law_text, 7 _law_found, 8 _law_works, 9 _law_wires, 10 _law_one -/
def b28l0 : List S := [.asg 5 (.call 21 [.var 0, .var 1]), .pr 5, .asgT (.tp [.nm 8, .nm 9]) (.call 27 [.var 5, .c (.int 8)]), .asg 3 (.new "Net" [.var 8, .var 9]), .asg 6 (.so (.var 3)), .asg 7 (.lst [.call 20 [.var 6], .call 20 [.var 6]]), .fz 7, .ife (.bop .Or [.t (.neI (.var 7) (.lst [.var 3, .var 3])), .t (.cmp .NotEq (.lc (.so (.var 10)) (.nm 10) (.e (.var 7)) .yes) (.lst [.var 6, .var 6]))]) [.ret (.c (.bl false))] [], .ife (.bop .Or [.t (.cmp .NotEq (.lc (.mcl "works" (.var 10) []) (.nm 10) (.e (.var 7)) .yes) (.lst [.var 8, .var 8])), .t (.cmp .NotEq (.lc (.mcl "wires" (.var 10) []) (.nm 10) (.e (.var 7)) .yes) (.lst [.var 9, .var 9]))]) [.ret (.c (.bl false))] []]
def b28s0 : S := .for (.nm 1) (.r1 (.blt .max [.c (.int 2), .blt .min [.c (.int 6), .blt .len [.var 0]]])) b28l0
def b28s1 : S := .asg 2 (.lst [.c (.str "spring a"), .c (.str "fold b less"), .c (.str "mouth c"), .c (.str "wire a b 0 1 - -"), .c (.str "wire a b 1 2 3 7 ! -1000000000")])
def b28s2 : S := .fz 2
def b28s3 : S := .asg 3 (.call 20 [.mth .join (.c (.str "\n")) [.bin .Add (.var 2) (.lst [.c (.str "wire b c 0 9 20 -")])]])
def b28s4 : S := .ife (.t (.cmp .NotEq (.mcl "works" (.var 3) []) (.tup [.tup [.c (.str "spring"), .c (.str "a")], .tup [.c (.str "fold"), .c (.str "b"), .c (.str "less")], .tup [.c (.str "mouth"), .c (.str "c")]]))) [.ret (.c (.bl false))] []
def b28s5 : S := .asg 4 (.lst [.tup [.c (.str "a"), .c (.str "b"), .c (.int 0), .tup [], .c (.int 1), .c .non], .tup [.c (.str "a"), .c (.str "b"), .c (.int 1), .tup [.c (.int 7), .c .non, .neg (.c (.int 1000000000))], .c (.int 2), .c (.int 3)], .tup [.c (.str "b"), .c (.str "c"), .c (.int 0), .tup [], .c (.int 9), .c (.int 20)]])
def b28s6 : S := .fz 4
def b28s7 : S := .ret (.bop .And [.cmp .Eq (.mcl "wires" (.var 3) []) (.blt .tuple [.var 4]), .eqI (.var 3) (.new "Net" [.mcl "works" (.var 3) [], .blt .tuple [.var 4]])])
def b28 : List S := [b28s0, b28s1, b28s2, b28s3, b28s4, b28s5, b28s6, b28s7]
def f28 : FD := ⟨1, 11, b28⟩
def F28 : FnD := ⟨⟨("law", none), "law", "law", L2.defArgs (st 58), L2.defBody (st 58), L2.defScope (st 58), [], []⟩, ["_law_script", "_law_at", "_law_rows", "_law_net_here", "_law_ends", "_law_bag_here", "_law_text", "_law_found", "_law_works", "_law_wires", "_law_one"], ["_law_script"], f28, fun _ _ _ _ _ _ us hl => match us, hl with | [_], _ => rfl⟩
/-- Net.__init__(self, works, wires): 0 self, 1 works, 2 wires, 3 at, 4 wire, 5 work, 6 name -/
def b29 : List S := [.expr (.call 8 [.var 1]), .expr (.call 9 [.var 1, .var 2]), .expr (.call 11 [.var 1, .var 2]), .setA (.var 0) "held_works" (.var 1), .setA (.var 0) "held_wires" (.var 2), .setA (.var 0) "by_name" (.dc (.ix (.var 5) (.c (.int 1))) (.var 5) (.nm 5) (.e (.var 1))), .lkf 0 "by_name", .setA (.var 0) "into" (.dc (.var 6) (.pr (.lst [])) (.nm 6) (.e (.op (.at "by_name") [.var 0]))), .setA (.var 0) "from_there" (.dc (.var 6) (.pr (.lst [])) (.nm 6) (.e (.op (.at "by_name") [.var 0]))), .for (.tp [.nm 3, .nm 4]) (.en (.var 2)) [.expr (.mth .append (.ix (.op (.at "into") [.var 0]) (.ix (.var 4) (.c (.int 1)))) [.tup [.ix (.var 4) (.c (.int 2)), .var 3]]), .expr (.mth .append (.ix (.op (.at "from_there") [.var 0]) (.ix (.var 4) (.c (.int 0)))) [.var 3])]]
def f29 : FD := ⟨3, 7, b29⟩
def F29 : FnD := ⟨⟨("Net", some "__init__"), "__init__", "Net.__init__", L2.defArgs (L2.inClass (st 43) 0), L2.defBody (L2.inClass (st 43) 0), L2.defScope (L2.inClass (st 43) 0), [], []⟩, ["self", "works", "wires", "at", "wire", "work", "name"], ["self", "works", "wires"], f29, fun _ _ _ _ _ _ us hl => match us, hl with | [_, _, _], _ => rfl⟩
/-- Net.works(self): 0 self -/
def b30 : List S := [.ret (.op (.at "held_works") [.var 0])]
def f30 : FD := ⟨1, 1, b30⟩
def F30 : FnD := ⟨⟨("Net", some "works"), "works", "Net.works", L2.defArgs (L2.inClass (st 43) 1), L2.defBody (L2.inClass (st 43) 1), L2.defScope (L2.inClass (st 43) 1), [], []⟩, ["self"], ["self"], f30, fun _ _ _ _ _ _ us hl => match us, hl with | [_], _ => rfl⟩
/-- Net.wires(self): 0 self -/
def b31 : List S := [.ret (.op (.at "held_wires") [.var 0])]
def f31 : FD := ⟨1, 1, b31⟩
def F31 : FnD := ⟨⟨("Net", some "wires"), "wires", "Net.wires", L2.defArgs (L2.inClass (st 43) 2), L2.defBody (L2.inClass (st 43) 2), L2.defScope (L2.inClass (st 43) 2), [], []⟩, ["self"], ["self"], f31, fun _ _ _ _ _ _ us hl => match us, hl with | [_], _ => rfl⟩
/-- Net.__eq__(self, other): 0 self, 1 other -/
def b32 : List S := [.ife (.not (.t (.isC "Net" (.var 1)))) [.ret (.c (.bl false))] [], .ret (.bop .And [.cmp .Eq (.op (.at "held_works") [.var 0]) (.mcl "works" (.var 1) []), .cmp .Eq (.op (.at "held_wires") [.var 0]) (.mcl "wires" (.var 1) [])])]
def f32 : FD := ⟨2, 2, b32⟩
def F32 : FnD := ⟨⟨("Net", some "__eq__"), "__eq__", "Net.__eq__", L2.defArgs (L2.inClass (st 43) 7), L2.defBody (L2.inClass (st 43) 7), L2.defScope (L2.inClass (st 43) 7), [], []⟩, ["self", "other"], ["self", "other"], f32, fun _ _ _ _ _ _ us hl => match us, hl with | [_, _], _ => rfl⟩
/-- Net.__str__(self): 0 self, 1 rows, 2 work, 3 wire -/
def b33 : List S := [.asg 1 (.lc (.mth .join (.c (.str " ")) [.var 2]) (.nm 2) (.e (.op (.at "held_works") [.var 0])) .yes), .fz 1, .ret (.mth .join (.c (.str "\n")) [.bin .Add (.var 1) (.lc (.call 17 [.var 3]) (.nm 3) (.e (.op (.at "held_wires") [.var 0])) .yes)])]
def f33 : FD := ⟨1, 4, b33⟩
def F33 : FnD := ⟨⟨("Net", some "__str__"), "__str__", "Net.__str__", L2.defArgs (L2.inClass (st 43) 9), L2.defBody (L2.inClass (st 43) 9), L2.defScope (L2.inClass (st 43) 9), [], []⟩, ["self", "rows", "work", "wire"], ["self"], f33, fun _ _ _ _ _ _ us hl => match us, hl with | [_], _ => rfl⟩
def F : List FnD := [F0, F1, F2, F3, F4, F5, F6, F7, F8, F9, F10, F11, F12, F13, F14, F15, F16, F17, F18, F19, F20, F21, F22, F23, F24, F25, F26, F27, F28, F29, F30, F31, F32, F33]
def gs : Gvs := [("int", .ty "int"), ("bool", .ty "bool"), ("LIMIT", .int 1000000000), ("PAIRS", .tup [.str "less", .str "over", .str "rest", .str "below"]), ("WORDS", .tup [.str "plus", .str "times", .str "least", .str "most", .str "same", .str "less", .str "over", .str "rest", .str "below"]), ("MOST_TAKEN", .int 6), ("str", .ty "str"), ("MOST_SIGNS", .int 8), ("LETTERS", .str "abcdefghijklmnopqrstuvwxyz"), ("MOST_ROOM", .int 20), ("tuple", .ty "tuple"), ("PLAIN", .tup [.str "spring", .str "pick", .str "mouth"]), ("MOST_INS", .int 7), ("MOST_FIRST", .int 8), ("MOST_LONG", .int 9), ("MOST_WORKS", .int 40), ("MOST_WIRES", .int 100), ("BROKEN", .str "!"), ("NONE", .str "-"), ("MOST_FIGURES", .int 10), ("FIGURES", .str "0123456789"), ("MOST_PARTS", .int 6), ("WORKS", .tup [.str "spring", .str "fold", .str "pick", .str "mouth"])]
def wds : Wds := []
def cl : List ClsD := [⟨"Net", ["held_works", "held_wires", "by_name", "into", "from_there"], [("works", 30), ("wires", 31), ("__eq__", 32), ("__str__", 33)], some 29⟩]
def xc : List XcD := [⟨"NoNet", ["part", "at"], ⟨("NoNet", some "__init__"), "__init__", "NoNet.__init__", L2.defArgs (L2.inClass (st 2) 0), L2.defBody (L2.inClass (st 2) 0), L2.defScope (L2.inClass (st 2) 0), [], []⟩, ["self", "part", "at"], fun _ _ _ _ _ _ us hl => match us, hl with | [_, _, _], _ => rfl⟩, ⟨"NoText", ["at"], ⟨("NoText", some "__init__"), "__init__", "NoText.__init__", L2.defArgs (L2.inClass (st 3) 0), L2.defBody (L2.inClass (st 3) 0), L2.defScope (L2.inClass (st 3) 0), [], []⟩, ["self", "at"], fun _ _ _ _ _ _ us hl => match us, hl with | [_, _], _ => rfl⟩]
def tx : Tx := ⟨F, gs, wds, cl, xc⟩
-- law: def 28, statement 58 of 59; names: ['__name__', '_wall', 'NoNet', 'NoText', 'NoWork', 'LIMIT', 'WORDS', 'PAIRS', 'MOST_TAKEN', 'is_whole', 'is_letter', 'takes', 'BROKEN', 'NONE', 'FIGURES', 'MOST_FIGURES', 'letter_text', 'letters_text', 'number_in', 'is_letter_word', 'letters_in', 'LETTERS', 'MOST_SIGNS', 'MOST_WORKS', 'MOST_WIRES', 'MOST_FIRST', 'MOST_LONG', 'MOST_ROOM', 'MOST_INS', 'PLAIN', 'is_name', 'is_within', 'is_room', 'is_work', 'is_wire', 'look_works', 'look_wires', 'is_fed', 'look_ins', 'wire_text', 'Net', 'WORKS', 'MOST_PARTS', 'work_in', 'wire_in', 'read_net', '_law_bag', '_law_take', '_law_names', '_law_letter', '_law_inner', '_law_wire', '_law_net']
def names : List PySem.Str := (["__name__", "_wall", "NoNet", "NoText", "NoWork", "LIMIT", "WORDS", "PAIRS", "MOST_TAKEN", "is_whole", "is_letter", "takes", "BROKEN", "NONE", "FIGURES", "MOST_FIGURES", "letter_text", "letters_text", "number_in", "is_letter_word", "letters_in", "LETTERS", "MOST_SIGNS", "MOST_WORKS", "MOST_WIRES", "MOST_FIRST", "MOST_LONG", "MOST_ROOM", "MOST_INS", "PLAIN"] : List PySem.Str) ++ (["is_name", "is_within", "is_room", "is_work", "is_wire", "look_works", "look_wires", "is_fed", "look_ins", "wire_text", "Net", "WORKS", "MOST_PARTS", "work_in", "wire_in", "read_net", "_law_bag", "_law_take", "_law_names", "_law_letter", "_law_inner", "_law_wire", "_law_net"] : List PySem.Str)
abbrev Rw : PySem.W.OpenRow := PySem.W.OpenLaw.row PySem.Challenge.rw_oweback_k06_nets_read
abbrev hk : PySem.W.Hook := vyHook 4 tx
abbrev VwP : PySem.Program := PySem.W.view Rw.prog [58]
def ob (s : PySem.W.SharedT) : He.AlX := He.obsX 4 (faOf tx) (fnOf tx) (tabsOf tx.ws) [] (exB tx) (HandSHeadRun.getT s)
theorem ob_eq (s : PySem.W.SharedT) : ob s = hk.obs s.abs := He.obsX_eq (HandSHeadRun.getT_eq s)
theorem okA : okAll tx = true := by decide +kernel
theorem tyA : tyB tx.gs = true := by decide +kernel
theorem runB (b : Bool) (w : World) : HandSHeadRun.RunEq Rw VwP hk ob 9000 names (w.withFollow "special-get-raises" b) := by
  intro os
  cases b <;> kernel_rfl
theorem run (w : World) : HandSHeadRun.RunEq Rw VwP hk ob 9000 names w := by
  have h := runB (w.params.followText "special-get-raises") w
  rwa [World.withFollow_self] at h
end K06
namespace K06
open VY PySem L2
abbrev P0 : Pg := pgOf tx
abbrev KK : Nat := 11
theorem np : NetP P0 := ⟨rfl, rfl, rfl, rfl, rfl, rfl, rfl, rfl, rfl, rfl, rfl, rfl, rfl, rfl, rfl, rfl, rfl, rfl, rfl, rfl, rfl, rfl, rfl, rfl, rfl, rfl, rfl, rfl, rfl, rfl⟩
theorem nc : NetC P0 29 := ⟨rfl, rfl, rfl, rfl, rfl, rfl, rfl⟩
theorem dp : DrawP P0 22 23 24 25 26 := ⟨rfl, rfl, rfl, rfl, rfl⟩
theorem nt : P0.ds[27]? = some ⟨2, 15, netT 22 23 25 26⟩ := rfl
theorem bg : P0.ds[21]? = some ⟨2, 4, bagB1⟩ := rfl
theorem tp : TextP P0 12 13 17 17 18 := ⟨rfl, rfl, rfl, rfl, rfl⟩
theorem sd : P0.ds[33]? = some ⟨1, 4, strTT 17⟩ := rfl
def rz : RdI := ⟨14, 15, 16, 18, 19, 17, 18, 19, 20, 21, 22⟩
theorem rp : ReadP P0 rz := ⟨rfl, rfl, rfl, rfl, rfl, rfl, rfl, rfl, rfl, rfl, rfl⟩
theorem rd : P0.ds[20]? = some ⟨1, 11, rdNet rz⟩ := rfl
theorem mcl_ins {Γ : VY.Ctx} {σ : Slots} {h : Hs} {n f : Nat} {c m : Str} {fs : List (Str × T)} {o : E} (eo : evE Γ o σ h = .ok (.v (.ref n)) h) (e : h[n]? = some (.ins c fs)) (hn : (fs.lookup m).isNone = true) (ef : Γ.cs.mt c m = some f) : evE Γ (.mcl m o []) σ h = Γ.call f [.ref n] h := by
  rw [evE, eo, Out.bind_ok]
  simp only [e, hn, if_true, ef, evEs_nil, Out.bind_ok]
theorem dep_wire (d : WireD) : depT d.t ≤ 2 := by
  have : ∀ L : List (Option Int), depTs (L.map optT) = 0 := fun L => by
    induction L with
    | nil => simp [depTs]
    | cons o L ih => rw [List.map_cons, depTs, ih]; cases o <;> simp [optT, depT]
  have r : depT (optT d.room) = 0 := by cases d.room <;> simp [optT, depT]
  simp [WireD.t, depT, depTs, this, r]
theorem fineTs_of : ∀ {l : List T}, (∀ t ∈ l, fineT t = true) → fineTs l = true
  | [], _ => rfl
  | t :: l, h => by rw [fineTs, h t (by simp), fineTs_of fun t m => h t (by simp [m])]; rfl
theorem depTs_of {B : Nat} : ∀ {l : List T}, (∀ t ∈ l, depT t ≤ B) → depTs l ≤ B
  | [], _ => by simp [depTs]
  | t :: l, h => by
    have := h t (by simp)
    have := depTs_of (l := l) fun t m => h t (by simp [m])
    simp only [depTs]
    omega
/-- two lists of one thing twice -/
theorem eqL_two {t : T} (e : fineT t = true) (l : depT t ≤ 62) : eqT (.lst [t, t]) (.lst [t, t]) = some true := by
  obtain ⟨ds, a, b, c⟩ := fine_toDs (l := [t, t]) (by simp [fineTs, e])
  have hl : depTs [t, t] ≤ 62 := depTs_of fun x m => by simp at m; rw [m]; exact l
  have ed : toD (.lst [t, t]) = some (.list ds) := by rw [toD, a]; rfl
  have sh : SeqAt.shaped (.list ds) = true := by
    simp [SeqAt.shaped, PyData.canLay0, PyData.depth, b]
    omega
  have cl : PyData.canLay0 (.list ds) = true := by simp [PyData.canLay0, b]
  unfold eqT
  rw [ed]
  simp only [sh, Bool.and_self, if_true]
  rw [SeqAt.eqv_refl (.list ds) cl]
structure Fine (wk ws : List T) : Prop where
  k : ∀ t ∈ wk, fineT t = true ∧ depT t ≤ 60
  v : ∀ t ∈ ws, fineT t = true ∧ depT t ≤ 2
  lk : wk.length ≤ 1000
  lv : ws.length ≤ 1000
theorem Fine.tk {wk ws : List T} (f : Fine wk ws) : fineT (.tup wk) = true ∧ depT (.tup wk) ≤ 61 := by
  constructor
  · simp only [fineT, fineTs_of fun t m => (f.k t m).1]
    rw [decide_eq_true (by have := f.lk; omega)]; rfl
  · have := depTs_of (B := 60) fun t m => (f.k t m).2
    simp only [depT]
    omega
theorem Fine.tv {wk ws : List T} (f : Fine wk ws) : fineT (.tup ws) = true ∧ depT (.tup ws) ≤ 61 := by
  constructor
  · simp only [fineT, fineTs_of fun t m => (f.v t m).1]
    rw [decide_eq_true (by have := f.lv; omega)]; rfl
  · have := depTs_of (B := 2) fun t m => (f.v t m).2
    simp only [depT]
    omega
theorem fine_of {wk ws : List T} {A : List (List Str)} {B : List WireD} (nd : NetD wk ws A B) (hk : ∀ t ∈ wk, fineT t = true ∧ depT t ≤ 60) (hv : ∀ t ∈ ws, fineT t = true) : Fine wk ws where
  k := hk
  v := fun t m => by
    refine ⟨hv t m, ?_⟩
    rw [nd.v] at m
    obtain ⟨d, _, rfl⟩ := List.mem_map.mp m
    exact dep_wire d
  lk := by have := nd.la; rw [nd.k, List.length_map]; omega
  lv := by have := nd.lb; rw [nd.v, List.length_map]; omega
/-- a net is made -/
theorem c_new {wk ws : List T} (ok : netX wk ws = none) (f : Fine wk ws) (h : Hs) : ∃ h', callK P0 9 29 [.ref h.length, .tup wk, .tup ws] (h ++ [.ins "Net" []]) = .ok (.v .non) h' ∧ Gr h h' ∧ IsNet h' h.length wk ws := by
  have W := w_init np nc 1 f.k (fun t m => (f.v t m).1) h
  rw [ok] at W
  exact W
theorem so_net {A : List (List Str)} {B : List WireD} {wk ws : List T} (n : NetD wk ws A B) {h : Hs} {s : Nat} (isn : IsNet h s wk ws) : soR (Γc P0 8) (.v (.ref s)) h = .ok (netTx A B) h := by
  have e := w_strT tp nc 3 sd n isn
  obtain ⟨b0, e0, -⟩ := isn
  exact soR_ins (Γc P0 8) h e0 rfl e (Nat.le_trans n.len (by decide))
theorem c_works (k : Nat) {wk ws : List T} {h : Hs} {s : Nat} (isn : IsNet h s wk ws) : callK P0 (k + 3) 30 [.ref s] h = .ok (.v (.tup wk)) h := by
  obtain ⟨b0, e0, -⟩ := isn
  have k1 : (netFs wk ws b0).lookup ("held_works" : Str) = some (.tup wk) := rfl
  rw [callK_eq (d := f30) rfl, runD_eq _ _ _ rfl]
  simp [f30, b30, startT, e0, nc.f1, k1]
theorem c_wires (k : Nat) {wk ws : List T} {h : Hs} {s : Nat} (isn : IsNet h s wk ws) : callK P0 (k + 3) 31 [.ref s] h = .ok (.v (.tup ws)) h := by
  obtain ⟨b0, e0, -⟩ := isn
  have k2 : (netFs wk ws b0).lookup ("held_wires" : Str) = some (.tup ws) := rfl
  rw [callK_eq (d := f31) rfl, runD_eq _ _ _ rfl]
  simp [f31, b31, startT, e0, nc.f2, k2]
/-- the works, the wires of a net that a name holds -/
theorem m_works (k : Nat) {wk ws : List T} {h : Hs} {s : Nat} (isn : IsNet h s wk ws) {σ : Slots} {o : E} (eo : evE (Γc P0 (k + 1)) o σ h = .ok (.v (.ref s)) h) : evE (Γc P0 (k + 1)) (.mcl "works" o []) σ h = .ok (.v (.tup wk)) h := by
  have c := c_works k isn
  obtain ⟨b0, e0, -⟩ := isn
  rw [mcl_ins (n := s) (f := 30) (c := "Net") (fs := netFs wk ws b0) eo e0 rfl rfl]
  exact c
theorem m_wires (k : Nat) {wk ws : List T} {h : Hs} {s : Nat} (isn : IsNet h s wk ws) {σ : Slots} {o : E} (eo : evE (Γc P0 (k + 1)) o σ h = .ok (.v (.ref s)) h) : evE (Γc P0 (k + 1)) (.mcl "wires" o []) σ h = .ok (.v (.tup ws)) h := by
  have c := c_wires k isn
  obtain ⟨b0, e0, -⟩ := isn
  rw [mcl_ins (n := s) (f := 31) (c := "Net") (fs := netFs wk ws b0) eo e0 rfl rfl]
  exact c
/-- == of two nets of the same -/
theorem c_eq {wk ws : List T} (f : Fine wk ws) {h : Hs} {a b : Nat} (ia : IsNet h a wk ws) (ib : IsNet h b wk ws) : callK P0 9 32 [.ref a, .ref b] h = .ok (.v (.bl true)) h := by
  have qk := eqT_refl f.tk.1 (by have := f.tk.2; omega)
  have qv := eqT_refl f.tv.1 (by have := f.tv.2; omega)
  have m1 := m_works 5 ib (σ := [some (.v (.ref a)), some (.v (.ref b))]) (o := .var 1) (by simp)
  have m2 := m_wires 5 ib (σ := [some (.v (.ref a)), some (.v (.ref b))]) (o := .var 1) (by simp)
  obtain ⟨b0, e0, -⟩ := ia
  obtain ⟨b1, e1, -⟩ := ib
  have k1 : (netFs wk ws b0).lookup ("held_works" : Str) = some (.tup wk) := rfl
  have k2 : (netFs wk ws b0).lookup ("held_wires" : Str) = some (.tup ws) := rfl
  rw [callK_eq (k := 6) (d := f32) rfl, runD_eq _ _ _ rfl]
  simp [f32, b32, startT, e0, e1, nc.f1, nc.f2, k1, k2, m1, m2, qk, qv]
theorem o_eq {wk ws : List T} (f : Fine wk ws) {h : Hs} {a b : Nat} (ia : IsNet h a wk ws) (ib : IsNet h b wk ws) : eqO (Γc P0 8) a b h = .ok true h := by
  have c := c_eq f ia ib
  obtain ⟨b0, e0, -⟩ := ia
  obtain ⟨b1, e1, -⟩ := ib
  exact eqO_eq (Γc P0 8) h e0 e1 (f := 32) rfl c
theorem turn_law (ns : List Int) (i : Nat) (hi : i ≤ 1000) (x1 x2 x3 x4 x5 x6 x7 x8 x9 x10 : Option Sl) (h : Hs) :
    ∃ (h' : Hs) (y1 y2 y3 y4 y5 y6 y7 y8 y9 y10 : Option Sl), forB (Γc P0 8) (.nm 1) b28l0 (.int (i : Nat)) [some (.v (.slst (ns.map .int))), x1, x2, x3, x4, x5, x6, x7, x8, x9, x10] h
      = .ok .nx [some (.v (.slst (ns.map .int))), y1, y2, y3, y4, y5, y6, y7, y8, y9, y10] h' := by
  obtain ⟨g, bb, eb, b0, b2⟩ := bag1 (Γc P0 7) ns h hi
  have eb' : callK P0 10 21 [.slst (ns.map .int), .int i] h = .ok (.al [.int g, .int bb, .int 0]) h := by
    rw [callK_eq (k := 7) bg]; exact eb
  have B0 : Bag1 (h ++ [.lst [.int g, .int bb, .int 0]]) h.length 0 := ⟨g, bb, 0, by simp, b0, b2, by decide, by decide⟩
  obtain ⟨wk, ws, h1, e1, ok, b1, o1⟩ := w_net np dp 4 nt B0 (by decide) (most := 8) (by decide) (by decide)
  have e1' : callK P0 10 27 [.ref h.length, .int 8] (h ++ [.lst [.int g, .int bb, .int 0]]) = .ok (.v (.tup [.tup wk, .tup ws])) h1 := e1
  obtain ⟨A, B, nd⟩ := net_d ok
  have nw := net_w ok nd
  have nx := netOk_none ok
  have f := fine_of nd (fun t m => (ok.w t m).2) (fun t m => (ok.v t m).2)
  obtain ⟨h2, e2, g2, i2⟩ := c_new nx f h1
  obtain ⟨h3, e3, g3, i3⟩ := w_read np rp 0 nc rd nd nw nx f.k (fun t m => (f.v t m).1) h2
  obtain ⟨h4, e4, g4, i4⟩ := w_read np rp 0 nc rd nd nw nx f.k (fun t m => (f.v t m).1) h3
  have e3' : callK P0 10 20 [.str (netTx A B)] h2 = .ok (.v (.ref (h2.length + 2))) h3 := e3
  have e4' : callK P0 10 20 [.str (netTx A B)] h3 = .ok (.v (.ref (h3.length + 2))) h4 := e4
  have so := so_net nd i2
  have j1 := (i2.grow g3).grow g4
  have j2 := i3.grow g4
  have j3 := i4
  have lt : h1.length < h2.length := by
    obtain ⟨b0, e0, -⟩ := i2
    exact (List.getElem?_eq_some_iff.mp e0).1
  have lt3 : h2.length + 2 < h3.length := by
    obtain ⟨b0, e0, -⟩ := i3
    exact (List.getElem?_eq_some_iff.mp e0).1
  generalize hs0 : h1.length = s at *
  generalize hs1 : h2.length + 2 = s1 at *
  generalize hs2 : h3.length + 2 = s2 at *
  have d1 : ¬ s1 = s := by omega
  have d2 : ¬ s2 = s := by omega
  have q1 := o_eq f j2 j1
  have q2 := o_eq f j3 j1
  have el : eqLs (Γc P0 8) [.ref s1, .ref s2] [.ref s, .ref s] h4 = .ok () h4 := by
    rw [eqLs_cons, if_neg d1, q1, Out.bind_ok, if_pos rfl, eqLs_cons, if_neg d2, q2, Out.bind_ok, if_pos rfl, eqLs_nil]
  have so1 := so_net nd j2
  have so2 := so_net nd j3
  have es : eqT (.lst [.str (netTx A B), .str (netTx A B)]) (.lst [.str (netTx A B), .str (netTx A B)]) = some true := by
    have := eqL_str (a := [netTx A B, netTx A B]) (b := [netTx A B, netTx A B]) (fun s m => by simp at m; rw [m]; exact nd.ok) (fun s m => by simp at m; rw [m]; exact nd.ok)
    exact this.trans (by simp)
  have ew := eqL_two f.tk.1 (by have := f.tk.2; omega)
  have ev := eqL_two f.tv.1 (by have := f.tv.2; omega)
  have two : ∀ {ff : T → Hs → Out (Option T)} (t : T), ff (.ref s1) h4 = .ok (some t) h4 → ff (.ref s2) h4 = .ok (some t) h4 → lcL ff none [.ref s1, .ref s2] [] h4 = .ok [t, t] h4 := fun t a b => by
    rw [lcL, if_pos (gdB_none h4), a, Out.bind_ok]
    simp only []
    rw [if_pos (by decide), lcL, if_pos (gdB_none h4), b, Out.bind_ok]
    simp only []
    rw [if_pos (by simp [SL]), lcL, if_pos (gdB_none h4)]
    rfl
  let S0 : Slots := [some (.v (.slst (ns.map .int))), some (.v (.int (i : Nat))), x2, some (.v (.ref s)), x4, some (.v (.ref h.length)), some (.v (.str (netTx A B))), some (.v (.lst [.ref s1, .ref s2])), some (.v (.tup wk)), some (.v (.tup ws)), x10]
  have l1 : lcL (lcT (Γc P0 8) (.so (.var 10)) (.nm 10) .yes S0) none [.ref s1, .ref s2] [] h4 = .ok [.str (netTx A B), .str (netTx A B)] h4 := two _ (by simp [lcT, Tg.ixs, wipeT, S0, so1]; rfl) (by simp [lcT, Tg.ixs, wipeT, S0, so2]; rfl)
  have l2 : lcL (lcT (Γc P0 8) (.mcl "works" (.var 10) []) (.nm 10) .yes S0) none [.ref s1, .ref s2] [] h4 = .ok [.tup wk, .tup wk] h4 := two _
    (by have := m_works 7 j2 (σ := [some (.v (.slst (ns.map .int))), some (.v (.int (i : Nat))), x2, some (.v (.ref s)), x4, some (.v (.ref h.length)), some (.v (.str (netTx A B))), some (.v (.lst [.ref s1, .ref s2])), some (.v (.tup wk)), some (.v (.tup ws)), some (.v (.ref s1))]) (o := .var 10) (by simp)
        simp [lcT, Tg.ixs, wipeT, S0, this]; rfl)
    (by have := m_works 7 j3 (σ := [some (.v (.slst (ns.map .int))), some (.v (.int (i : Nat))), x2, some (.v (.ref s)), x4, some (.v (.ref h.length)), some (.v (.str (netTx A B))), some (.v (.lst [.ref s1, .ref s2])), some (.v (.tup wk)), some (.v (.tup ws)), some (.v (.ref s2))]) (o := .var 10) (by simp)
        simp [lcT, Tg.ixs, wipeT, S0, this]; rfl)
  have l3 : lcL (lcT (Γc P0 8) (.mcl "wires" (.var 10) []) (.nm 10) .yes S0) none [.ref s1, .ref s2] [] h4 = .ok [.tup ws, .tup ws] h4 := two _
    (by have := m_wires 7 j2 (σ := [some (.v (.slst (ns.map .int))), some (.v (.int (i : Nat))), x2, some (.v (.ref s)), x4, some (.v (.ref h.length)), some (.v (.str (netTx A B))), some (.v (.lst [.ref s1, .ref s2])), some (.v (.tup wk)), some (.v (.tup ws)), some (.v (.ref s1))]) (o := .var 10) (by simp)
        simp [lcT, Tg.ixs, wipeT, S0, this]; rfl)
    (by have := m_wires 7 j3 (σ := [some (.v (.slst (ns.map .int))), some (.v (.int (i : Nat))), x2, some (.v (.ref s)), x4, some (.v (.ref h.length)), some (.v (.str (netTx A B))), some (.v (.lst [.ref s1, .ref s2])), some (.v (.tup wk)), some (.v (.tup ws)), some (.v (.ref s2))]) (o := .var 10) (by simp)
        simp [lcT, Tg.ixs, wipeT, S0, this]; rfl)
  simp only [S0] at l1 l2 l3
  clear_value S0
  refine ⟨h4, some (.v (.int (i : Nat))), x2, some (.v (.ref s)), x4, some (.v (.ref h.length)), some (.v (.str (netTx A B))), some (.v (.lst [.ref s1, .ref s2])), some (.v (.tup wk)), some (.v (.tup ws)), x10, ?_⟩
  rw [forB_nm]
  simp only [List.set_cons_zero, List.set_cons_succ]
  unfold b28l0
  have nw : ∀ σ h, evE (Γc P0 8) (.new "Net" [.var 8, .var 9]) σ h = _ := fun σ h => evE_new (Γc P0 8) σ h nc.ini [.var 8, .var 9]
  simp [eb', e1', nw, hs0, e2, so, e3', e4', el, l1, l2, l3, es, ew, ev, SL]
def fA : List (List Str) := [["spring", "a"], ["fold", "b", "less"], ["mouth", "c"]]
def fB : List WireD := [⟨"a", "b", 0, [], 1, none⟩, ⟨"a", "b", 1, [some 7, none, some (-1000000000)], 2, some 3⟩, ⟨"b", "c", 0, [], 9, some 20⟩]
def fK : List T := [.tup [.str "spring", .str "a"], .tup [.str "fold", .str "b", .str "less"], .tup [.str "mouth", .str "c"]]
def fV : List T := [.tup [.str "a", .str "b", .int 0, .tup [], .int 1, .non], .tup [.str "a", .str "b", .int 1, .tup [.int 7, .non, .int (-1000000000)], .int 2, .int 3], .tup [.str "b", .str "c", .int 0, .tup [], .int 9, .int 20]]
theorem f_ok : NetOk fK fV where
  lw := by decide
  w := fun t m => by
    simp only [fK, List.mem_cons, List.not_mem_nil, or_false] at m
    rcases m with rfl | rfl | rfl <;> decide +kernel
  nd := by decide +kernel
  lv := by decide
  v := fun t m => by
    simp only [fV, List.mem_cons, List.not_mem_nil, or_false] at m
    rcases m with rfl | rfl | rfl <;> decide +kernel
  ends := by decide +kernel
  ins := fun t m => by
    simp only [fK, List.mem_cons, List.not_mem_nil, or_false] at m
    rcases m with rfl | rfl | rfl
    · refine ⟨0, ?_, by decide +kernel⟩
      rw [show insOf (nameOf (.tup [.str "spring", .str "a"])) fV = [] by decide +kernel]
      exact List.Perm.refl _
    · refine ⟨2, ?_, by decide +kernel⟩
      rw [show insOf (nameOf (.tup [.str "fold", .str "b", .str "less"])) fV = [0, 1] by decide +kernel]
      exact List.Perm.refl _
    · refine ⟨1, ?_, by decide +kernel⟩
      rw [show insOf (nameOf (.tup [.str "mouth", .str "c"])) fV = [0] by decide +kernel]
      exact List.Perm.refl _
  out := fun t m => by
    simp only [fK, List.mem_cons, List.not_mem_nil, or_false] at m
    rcases m with rfl | rfl | rfl <;> decide +kernel
theorem f_net : netX fK fV = none := netOk_none f_ok
theorem f_all : (∀ t ∈ fK, fineT t = true ∧ depT t ≤ 60) ∧ ∀ t ∈ fV, fineT t = true := by
  constructor
  · intro t m
    simp only [fK, List.mem_cons, List.not_mem_nil, or_false] at m
    rcases m with rfl | rfl | rfl <;> decide +kernel
  · intro t m
    simp only [fV, List.mem_cons, List.not_mem_nil, or_false] at m
    rcases m with rfl | rfl | rfl <;> decide +kernel
theorem f_d : NetD fK fV fA fB where
  k := rfl
  v := rfl
  a := by decide +kernel
  b := fun d m => by
    simp only [fB, List.mem_cons, List.not_mem_nil, or_false] at m
    rcases m with rfl | rfl | rfl
    · exact ⟨⟨by decide +kernel, by decide +kernel, by decide, by decide, by decide, by decide, fun i e => by cases e⟩, by decide +kernel, by decide +kernel⟩
    · exact ⟨⟨by decide +kernel, by decide +kernel, by decide, by decide, by decide, by decide, fun i e => by cases e; decide⟩, by decide +kernel, by decide +kernel⟩
    · exact ⟨⟨by decide +kernel, by decide +kernel, by decide, by decide, by decide, by decide, fun i e => by cases e; decide⟩, by decide +kernel, by decide +kernel⟩
  la := by decide
  lb := by decide
theorem f_w : NetW fA fB where
  a := fun ss m => by
    simp only [fA, List.mem_cons, List.not_mem_nil, or_false] at m
    rcases m with rfl | rfl | rfl <;> decide +kernel
  b := fun d m => by
    simp only [fB, List.mem_cons, List.not_mem_nil, or_false] at m
    rcases m with rfl | rfl | rfl <;> exact ⟨by decide +kernel, by decide +kernel⟩
  ne := by decide
def fR : List Str := ["spring a", "fold b less", "mouth c", "wire a b 0 1 - -", "wire a b 1 2 3 7 ! -1000000000"]
theorem f_tx : Txt.join "\n" (fR ++ [("wire b c 0 9 20 -" : Str)]) = netTx fA fB := by decide +kernel
theorem f_sum : ((fR ++ [("wire b c 0 9 20 -" : Str)]).map (·.length)).sum + (fR ++ [("wire b c 0 9 20 -" : Str)]).length * ("\n" : Str).length ≤ SL := by decide +kernel
theorem f_fine : Fine fK fV := fine_of f_d f_all.1 f_all.2
theorem hlaw : ∀ ns : List Int, ns.length ≤ 63 → ∃ h', callK (pgOf tx) KK 28 [.slst (ns.map .int)] [] = .ok (.v (.bl true)) h' := by
  intro ns _
  show ∃ h', callK P0 (8 + 3) 28 [.slst (ns.map .int)] [] = .ok (.v (.bl true)) h'
  rw [callK_eq (k := 8) (d := f28) rfl, runD_eq _ _ _ rfl]
  obtain ⟨m, lo, hi, ei⟩ := it_lim (Γc P0 8) false (i := 0) (l := ns.map .int) (σ := [some (.v (.slst (ns.map .int))), none, none, none, none, none, none, none, none, none, none]) 2 6 [] rfl (by decide) (by decide) (by decide)
  obtain ⟨σ, h1, e, x1, x2, x3, x4, x5, x6, x7, x8, x9, x10, rfl⟩ := forL_run (body := forB (Γc P0 8) (.nm 1) b28l0) (fun i σ h => ∃ x1 x2 x3 x4 x5 x6 x7 x8 x9 x10 : Option Sl, σ = [some (.v (.slst (ns.map .int))), x1, x2, x3, x4, x5, x6, x7, x8, x9, x10]) ((List.range m).map fun k : Nat => .int k) 0 (fun i x ex σ h q => by
    obtain ⟨rfl, hi2⟩ := rng_get ex
    obtain ⟨x1, x2, x3, x4, x5, x6, x7, x8, x9, x10, rfl⟩ := q
    obtain ⟨h', y1, y2, y3, y4, y5, y6, y7, y8, y9, y10, e⟩ := turn_law ns i (by omega) x1 x2 x3 x4 x5 x6 x7 x8 x9 x10 h
    exact ⟨_, h', .inl e, y1, y2, y3, y4, y5, y6, y7, y8, y9, y10, rfl⟩) [some (.v (.slst (ns.map .int))), none, none, none, none, none, none, none, none, none, none] [] ⟨_, _, _, _, _, _, _, _, _, _, rfl⟩
  obtain ⟨h2, e2, g2, i2⟩ := w_read np rp 0 nc rd f_d f_w f_net f_all.1 f_all.2 h1
  obtain ⟨h3, e3, g3, i3⟩ := c_new f_net f_fine h2
  have e2' : callK P0 10 20 [.str (netTx fA fB)] h1 = .ok (.v (.ref (h1.length + 2))) h2 := e2
  have j2 := i2.grow g3
  have q := o_eq f_fine j2 i3
  have qk := eqT_refl f_fine.tk.1 (by have := f_fine.tk.2; omega)
  have qv := eqT_refl f_fine.tv.1 (by have := f_fine.tv.2; omega)
  refine ⟨h3, ?_⟩
  have st : startT f28.n [.slst (ns.map .int)] = [some (.v (.slst (ns.map .int))), none, none, none, none, none, none, none, none, none, none] := rfl
  rw [st, show f28.body = [b28s0, b28s1, b28s2, b28s3, b28s4, b28s5, b28s6, b28s7] from rfl, evSs_cons]
  unfold b28s0
  rw [evS_for, ei, sb_ok, e, SO.seq_nx]
  have jn : joL "\n" (some (.lst ((fR ++ [("wire b c 0 9 20 -" : Str)]).map .str))) h1 = .ok (.v (.str (netTx fA fB))) h1 := by
    rw [joL_lst, strs_ok, Option.bind_some, if_pos f_sum, f_tx]; rfl
  have cat : opR .Add (.lst (fR.map .str)) (.lst [.str "wire b c 0 9 20 -"]) = some (.al ((fR ++ [("wire b c 0 9 20 -" : Str)]).map .str)) := by
    rw [opR_catL, if_pos (by decide)]; rfl
  generalize netTx fA fB = tx0 at *
  generalize (fR ++ [("wire b c 0 9 20 -" : Str)]).map T.str = R2 at jn cat
  have w1 : ∀ {σ : Slots} {o : E}, evE (Γc P0 8) o σ h2 = .ok (.v (.ref (h1.length + 2))) h2 → evE (Γc P0 8) (.mcl "works" o []) σ h2 = .ok (.v (.tup fK)) h2 := fun eo => m_works 7 i2 eo
  have w2 : ∀ {σ : Slots} {o : E}, evE (Γc P0 8) o σ h2 = .ok (.v (.ref (h1.length + 2))) h2 → evE (Γc P0 8) (.mcl "wires" o []) σ h2 = .ok (.v (.tup fV)) h2 := fun eo => m_wires 7 i2 eo
  have s1 : ∀ x1 x2 x3 x4 x5 x6 x7 x8 x9 x10, evSs (Γc P0 8) [b28s1, b28s2, b28s3] [some (.v (.slst (ns.map .int))), x1, x2, x3, x4, x5, x6, x7, x8, x9, x10] h1 = .ok .nx [some (.v (.slst (ns.map .int))), x1, some (.v (.lst (fR.map .str))), some (.v (.ref (h1.length + 2))), x4, x5, x6, x7, x8, x9, x10] h2 := fun x1 x2 x3 x4 x5 x6 x7 x8 x9 x10 => by
    have fr : (fR.map T.str) = [.str "spring a", .str "fold b less", .str "mouth c", .str "wire a b 0 1 - -", .str "wire a b 1 2 3 7 ! -1000000000"] := rfl
    unfold b28s1 b28s2 b28s3
    rw [evSs_cons, show evS (Γc P0 8) (.asg 2 (.lst [.c (.str "spring a"), .c (.str "fold b less"), .c (.str "mouth c"), .c (.str "wire a b 0 1 - -"), .c (.str "wire a b 1 2 3 7 ! -1000000000")])) [some (.v (.slst (ns.map .int))), x1, x2, x3, x4, x5, x6, x7, x8, x9, x10] h1 = .ok .nx [some (.v (.slst (ns.map .int))), x1, some (.al (fR.map .str)), x3, x4, x5, x6, x7, x8, x9, x10] h1 by rw [fr]; simp [SL], SO.seq_nx]
    generalize fR.map T.str = R at *
    simp [-opR_catL, cat, -joL_lst, jn, e2', SL]
  have s2 : ∀ x1 x2 x4 x5 x6 x7 x8 x9 x10, (evSs (Γc P0 8) [b28s4, b28s5, b28s6, b28s7] [some (.v (.slst (ns.map .int))), x1, x2, some (.v (.ref (h1.length + 2))), x4, x5, x6, x7, x8, x9, x10] h2).out = .ok (.v (.bl true)) h3 := fun x1 x2 x4 x5 x6 x7 x8 x9 x10 => by
    have v3 : ∀ x4, evE (Γc P0 8) (.var 3) [some (.v (.slst (ns.map .int))), x1, x2, some (.v (.ref (h1.length + 2))), x4, x5, x6, x7, x8, x9, x10] h2 = .ok (.v (.ref (h1.length + 2))) h2 := fun x4 => by simp
    have a1 := fun x4 => w1 (v3 x4)
    have a2 := fun x4 => w2 (v3 x4)
    have qk' : eqT (.tup fK) (.tup [.tup [.str "spring", .str "a"], .tup [.str "fold", .str "b", .str "less"], .tup [.str "mouth", .str "c"]]) = some true := qk
    have nw := fun σ => evE_new (Γc P0 8) σ h2 nc.ini [.mcl "works" (.var 3) [], .blt .tuple [.var 4]]
    have qv' : eqT (.tup fV) (.tup [.tup [.str "a", .str "b", .int 0, .tup [], .int 1, .non], .tup [.str "a", .str "b", .int 1, .tup [.int 7, .non, .int (-1000000000)], .int 2, .int 3], .tup [.str "b", .str "c", .int 0, .tup [], .int 9, .int 20]]) = some true := qv
    have e3' : callK P0 9 29 [.ref h2.length, .tup fK, .tup [.tup [.str "a", .str "b", .int 0, .tup [], .int 1, .non], .tup [.str "a", .str "b", .int 1, .tup [.int 7, .non, .int (-1000000000)], .int 2, .int 3], .tup [.str "b", .str "c", .int 0, .tup [], .int 9, .int 20]]] (h2 ++ [.ins "Net" []]) = .ok (.v .non) h3 := e3
    unfold b28s4 b28s5 b28s6 b28s7
    simp [a1, a2, qk', SL, qv', nw, e3', q]
  have split : ∀ (a b : List S) σ h, evSs (Γc P0 8) (a ++ b) σ h = (evSs (Γc P0 8) a σ h).seq (evSs (Γc P0 8) b) := evSs_app (Γc P0 8)
  rw [show [b28s1, b28s2, b28s3, b28s4, b28s5, b28s6, b28s7] = [b28s1, b28s2, b28s3] ++ [b28s4, b28s5, b28s6, b28s7] from rfl, split, s1, SO.seq_nx, s2]
end K06
namespace K06
open VY PySem L2
theorem fin {P : Program} {w : World} {h : Heap} {mg : Str → Option Value} {fa : Addr} (Y : hk.says w h) (G : h.Ns mainGlobals mg) (hm : mg ("law" : Str) = some (.ref fa)) :
    ∃ (K : PySem.W.Frag) (fd : FuncData) (sp : Sp), K.In h ∧ (∀ (s : Shared) (u : Value), BindsTo s fd ⟨[u], []⟩ [("_law_script", u)]) ∧
        (∀ (H : Hp) (a : Addr) (ns : List Int), ns.length ≤ 63 → Only H → SqL K H a (ns.map V.int) → sp [.ref a] H (fun v _ => v = .bl true) fun _ _ _ => False) ∧
        ∀ base : Heap, K.In base → base.Ns mainGlobals mg → FnOk P w K mg base (L2.CX P w) KK fa fd ["_law_script"] sp := by
  obtain ⟨K, KX, c⟩ := Y
  obtain ⟨fd, sp, h1, h2, h3⟩ := vy_law (P := P) KX G c okA tyA (li := 28) (k := KK) (most := 63) (dl := F28) (x := "_law_script") rfl rfl rfl hm hlaw
  exact ⟨K, fd, sp, KX, h1, h2, h3⟩
end K06
open PySem PySem.W PySem.Calls PyProof.Rows
theorem PySem.Challenge.cw_oweback_k06_nets_read_holds : PySem.Challenge.rw_oweback_k06_nets_read.Holds := by
  w_on; o_law
  refine HandSHeadRun.head_any (r := K06.Rw) (q := K06.VwP) (H := K06.hk) (ob := K06.ob) (M := 9000) (loose := K06.names) (d := HandSHeadRun.topDef (K06.Rw).prog 58) (kwd := []) K06.ob_eq
    (by kernel_rfl) (fun s => by kernel_rfl) K06.run (by kernel_rfl) (by kernel_rfl) (by kernel_rfl) (by rfl) (by first | assumption | decide +kernel) (by decide +kernel) ⟨rfl, rfl, rfl, rfl, rfl, by decide +kernel⟩ ?hw ?hc
  case hw => w_witness2
  case hc =>
    refine VY.walk_vy (l := PySem.Challenge.rw_oweback_k06_nets_read) (n := 63) (k := K06.KK) (x := "_law_script") rfl (by decide) (by kernel_rfl) ⟨rfl, by decide, by decide⟩ ?F
    case F =>
      intro w mg fa h Y G hm0
      have hm : mg ("law" : PySem.Str) = some (.ref fa) := by
        have e : (HandSHeadRun.topDef (K06.Rw).prog 58).name = ("law" : PySem.Str) := by kernel_rfl
        rw [← e]
        exact hm0
      exact K06.fin Y G hm
