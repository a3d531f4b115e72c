import PyProof.Rows.All
import Wide.All
import OpenK.AllK
import Wide.FinOn
import KE.GoesMore
import KE.GoesEnum
import HandS.ForMost
import HandS.Walk
import HandS.Evl
import KE.KRevSl
import HandS.Style
import HandS.SortInts
import HandS.TupSets
import HandS.Strs
import HandS.SetBool
import HandS.Zip
import HandS.IsInst
import HandS.Slots
import HandS.SlotsOwn
import HandS.Codes
import KE.KDictZip
import KE.KDictKeyed
import HandS.TupLen
import HandS.Star
import HandS.TupAny
import HandS.Deep
import HandS.Conv
import HandS.WordsDict
import PySem.Challenge.RW_oneanswer_k65_whole_partings
import KE.Datum
import HandS.ClsMeth
import Lean
import KE.KStateDown
import HandS.Head0
import HandS.Head1
import HandS.Head2
import HandS.HeadEnd
import HandS.HeadHook1
import HandS.HeadHook2
set_option Elab.async false
set_option linter.all false
set_option maxRecDepth 100000
set_option maxHeartbeats 0
/-! rules of our own: enumerate of a tuple -/
namespace K65
open PySem PySem.Spec PyProof.Rows L2
open AutoSeq1 (wpAny_loadPart')

theorem meets_enumerate_newT (l : Addr) (items : Array Value) (n : Nat) (dct : Option Addr) (sl : Array (Option Value)) :
    Meets (Builtin.«enumerate.__new__» ⟨[.type "enumerate", .ref l], []⟩) (fun _ R s => s.heap.get? l = some { cls := .type "tuple", dict := dct, data := .seq items n, slots := sl } ∧
      R (.ok (.ret (.ref (s.heap.push { cls := .type "tuple_iterator", data := .fields #[.ref l, .int 0 0] }).objs.size)))
        { s with heap := (s.heap.push { cls := .type "tuple_iterator", data := .fields #[.ref l, .int 0 0] }).push { cls := .type "enumerate", data := .fields #[.none, .bool false, .ref s.heap.objs.size, rawInt 0, .none, .none] } }) :=
  .of_wp fun prog w A R s h => by
    obtain ⟨hp, g, d, tk, os⟩ := s; obtain ⟨hl, h⟩ := h
    have hsub := sub_enumerate
    have hL : Heap.IsTuple (Shared.heap ⟨hp, g, d, tk, os⟩) l items := ⟨_, hl, rfl, n, rfl⟩
    wp_walk using wpAny_loadPart' hl
    refine wpAny_stack_any fun st => wpAny_pure ?_
    split
    · rename_i c _ _ _ _ _
      cases (c == Value.type "enumerate")
      · wp_walk using wpAny_loadPart' hl, wpAny_pyIter_tuple hL
        exact ⟨_, rfl, h⟩
      · wp_walk using wpAny_loadPart' hl, wpAny_pyIter_tuple hL
        exact ⟨_, rfl, h⟩
    · wp_walk using wpAny_loadPart' hl, wpAny_pyIter_tuple hL
      exact ⟨_, rfl, h⟩
section
variable {prog : Program} {w : World} {A : Around} {E : Value → Shared → Prop} {s : Shared}
theorem call_enumerate_tup {l : Addr} {items : Array Value} {Q : Value → Shared → Prop} (hL : s.heap.IsTuple l items)
    (h : ∀ h', IsEnum h' (s.heap.objs.size + 1) s.heap.objs.size 0 .none → h'.IsTupleIter s.heap.objs.size l 0 → h'.objs.size = s.heap.objs.size + 2 →
      (∀ b o, s.heap.get? b = some o → h'.get? b = some o) → Q (.ref (s.heap.objs.size + 1)) { s with heap := h' }) :
    wpAny (model prog w) A (call (.type "enumerate") [.ref l]) Q E s := by
  obtain ⟨⟨c, dct, dt, sl⟩, hl, hc, n, hd⟩ := hL
  replace hc : c = .type "tuple" := hc
  replace hd : dt = .seq items n := hd
  subst hc hd
  refine callType_new F.called_enumerate (by decide) (F.typeCall_enumerate_1 _) (F.newCall_enumerate_1 _) (fun obj => F.args_object_init_2 obj _) F.entry_enumerate_new
    (meets_enumerate_newT l items n dct sl) ⟨hl, ?_⟩
  have hz : (s.heap.push { cls := .type "tuple_iterator", data := .fields #[.ref l, .int 0 0] }).objs.size = s.heap.objs.size + 1 := Heap.size_push ..
  show _ ∧ _
  rw [hz]
  have he : IsEnum ((s.heap.push { cls := .type "tuple_iterator", data := .fields #[.ref l, .int 0 0] }).push
      { cls := .type "enumerate", data := .fields #[.none, .bool false, .ref s.heap.objs.size, rawInt 0, .none, .none] }) (s.heap.objs.size + 1) s.heap.objs.size 0 .none := by
    have := Heap.get?_push_size (s.heap.push { cls := .type "tuple_iterator", data := .fields #[.ref l, .int 0 0] })
      (o := { cls := .type "enumerate", data := .fields #[.none, .bool false, .ref s.heap.objs.size, rawInt 0, .none, .none] }) rfl
    rw [hz] at this; exact this
  refine ⟨⟨_, he, rfl⟩, h _ he ⟨_, Heap.get?_push_of_some _ (Heap.get?_push_size _ rfl), rfl, rfl⟩ (by rw [Heap.size_push, hz]) fun b o x => Heap.get?_push_of_some _ (Heap.get?_push_of_some _ x)⟩
end
/-- the tuple at a, each item in a new pair behind its number -/
def IteT (K : PySem.W.Frag) (a : Addr) : It :=
  ⟨fun i H => ∃ (xs : List V) (x : V), SqT K H a xs ∧ xs[i]? = some x, fun i H v H' => ∃ T x, v = .ref T ∧ H T = none ∧ H' = upd H T (.tup [.int (i : Nat), x]) ∧ ∀ xs, SqT K H a xs → xs[i]? = some x, fun i H => ∃ xs : List V, SqT K H a xs ∧ xs.length ≤ i⟩
theorem turn_enumT {P : Program} {w : World} {K : PySem.W.Frag} {elts : List Expr} {kk : Nat} {tpos : Pos} (a e it : Addr) :
    Turn P w K (.Tuple elts kk tpos) (IteT K a) [e, it] e (fun i h => (∃ old, IsEnum h e it ((i : Nat) : Int) old) ∧ h.IsTupleIter it a i ∧ e ≠ it) where
  mem := by simp
  obj := fun i h st b hb => by
    obtain ⟨⟨old, he⟩, ⟨o, ho, hc, hd⟩, _⟩ := st
    have e' : b = e ∨ b = it := by simpa using hb
    rcases e' with z | z
    · rw [z]; exact ⟨_, he, fun v q => nomatch q⟩
    · rw [z]; exact ⟨o, ho, fun v q => by rw [hd] at q; cases q⟩
  keep := fun i h h' st k => let ⟨⟨old, he⟩, hi, hne⟩ := st; ⟨⟨old, k e (by simp) _ he⟩, hi.at fun o q => k it (by simp) o q, hne⟩
  item := by
    intro X hP hw hK hc i pins s σ H E I hf st hg
    subst hP hw hK
    obtain ⟨⟨old, he⟩, hit, hne⟩ := st
    obtain ⟨xs, x, hq, hx⟩ := hg
    obtain ⟨its, rv, p, hz⟩ := I.tuple hq
    obtain ⟨u, hu, ru⟩ := rv.get hx
    have hel : e < s.heap.objs.size := Heap.lt_size he
    have hil : it < s.heap.objs.size := by obtain ⟨_, q, _⟩ := hit; exact Heap.lt_size q
    have hT0 : s.heap.IsTuple a its.toArray := p
    have hae : e ≠ a := fun q => by
      obtain ⟨o, ho, hc', _⟩ := hT0
      rw [← q, he] at ho
      cases ho
      exact absurd (Value.type.inj hc') (by decide)
    have hai : a ≠ it := fun q => by
      obtain ⟨o, ho, hc', _⟩ := hT0
      obtain ⟨o2, ho2, hc2, _⟩ := hit
      rw [q, ho2] at ho
      cases ho
      rw [hc2] at hc'
      exact absurd (Value.type.inj hc') (by decide)
    have hlt : i < its.toArray.size := by
      have := (List.getElem?_eq_some_iff.mp hu).1
      simpa using this
    have D : Draws X.prog X.w X.A.in1 it [it, a] its.toArray.size (fun i v => its.toArray[i]? = some v) (fun i h => h.IsTupleIter it a i ∧ h.IsTuple a its.toArray) := Draws.tuple (A := X.A.in1) (show X.A.in1.handled = none from I.ok.hd hc) it a hai its.toArray
    refine wpAny_pyNext_enum_itemD D he ⟨hit, hT0⟩ hlt hne (fun hm => by
      rcases List.mem_cons.mp hm with q | hm
      · exact hne q
      · exact hae (List.mem_singleton.mp hm)) fun v h' tk hv ho hit' hT hsz hk => ?_
    have ev : v = u := by
      have h1 : its[i]? = some v := by simpa using hv
      rw [hu] at h1
      exact (Option.some.inj h1).symm
    subst ev
    refine ⟨_, rfl, wpAny_letOwnedTupleGo_enum (s := { s with heap := h', toks := tk + 1 }) ho fun h'' he' sb => ?_⟩
    have hT2 : h''.get? s.heap.objs.size = some { cls := .type "tuple", data := .seq #[.int i tk, v] } := (sb.2 _ (Nat.ne_of_gt hel)).trans hT
    have new : ObjOk X.prog X.w (upd H s.heap.objs.size (.tup [.int (i : Nat), x])) h'' s.heap.objs.size (.tup [.int (i : Nat), x]) :=
      ⟨by show 2 ≤ sizeLine; decide, [.int i tk, v], .cons ⟨_, rfl⟩ (.cons ru .nil), ⟨_, hT2, rfl, _, rfl⟩⟩
    have I1 : Inv X pins σ (upd H s.heap.objs.size (.tup [.int (i : Nat), x])) { s with heap := h'', toks := tk + 1 } :=
      I.turnedNew (ch := [e, it]) (fun b ob hb q => (sb.2 b (fun z => hb (by simp [z]))).trans (hk b ob (fun z => hb (by simp [z])) (fun z => hb (by simp [z])) q)) hf (Nat.le_refl _) new
    refine ⟨.ref s.heap.objs.size, _, I1, rfl, ⟨_, x, rfl, I.hok.fresh (Nat.le_refl _), rfl, fun ys hy => by rw [I.tuple_inj hy hq]; exact hx⟩, ⟨⟨v, ?_⟩, hit'.1.at fun o q => (sb.2 it (Ne.symm hne)).trans q, hne⟩, fun b hb => ?_⟩
    · have e1 : ((i + 1 : Nat) : Int) = (i : Int) + 1 := by omega
      rw [e1]; exact he'
    · have hb' : b < s.heap.objs.size := by
        have e' : b = e ∨ b = it := by simpa using hb
        rcases e' with z | z
        · rw [z]; exact hel
        · rw [z]; exact hil
      rw [upd_ne (Nat.ne_of_lt hb')]
      exact (hf b hb).1
  done := by
    intro X hP hw hK hc i pins s σ H E I hf st hg
    subst hP hw hK
    obtain ⟨⟨old, he⟩, hit, hne⟩ := st
    obtain ⟨xs, hq, hx⟩ := hg
    obtain ⟨its, rv, p, hz⟩ := I.tuple hq
    obtain ⟨f0, f1, f2, f3, f4, f5⟩ := hf it (by simp)
    have hl := rv.length
    have hT0 : s.heap.IsTuple a its.toArray := p
    have hn : its.toArray[i]? = none := by simp; omega
    have hT : s.TypeIs (.ref e) "enumerate" := ⟨_, he, rfl⟩
    unfold pyNext
    refine wpAny_bind (wpAny_attempt (wpAny_callSpecial?_slot (name := Str.ofString "__next__") hT F.slot_enumerate_next
      (wpAny_call_entry F.slot_enumerate_next hT F.entry_enumerate_next ?_ (F.args_enumerate_next_1 _))))
    show wpAny _ _ (field (.ref e) 2 >>= _) _ _ _
    refine wpAny_bind (wpAny_field he rfl (x := .ref it) rfl ?_)
    refine wpAny_bind (wpAny_nextOf_tuple_end (I.ok.hd hc) hit hT0 hn fun h' x he' hx' => ?_)
    obtain ⟨o, ho, hc'⟩ := hx'
    refine wpAny_bind (wpAny_isInstance (T := "StopIteration") (b := true) ⟨o, ho, hc'⟩ isSubtype_stop ?_)
    exact wpAny_pure ⟨rfl, I.turned (t' := s.toks) (fun b o hb q => he' b o hb q) f0 f1 f3 f4 f5⟩
  self := fun A i s Q E st h => let ⟨⟨_, he⟩, _⟩ := st; wpAny_pyIter_enum he h
def iEnumT (K : PySem.W.Frag) (ta : TA) : TI := fun σ H R => ta σ H fun vs H1 => ∃ a xs, vs = [.ref a] ∧ SqT K H1 a xs ∧ R (IteT K a) H1
theorem pi_enumT {X : Cx} {e : Expr} {ta : TA} {p pos tpos : Pos} {elts : List Expr} {kk : Nat} (hg : Gl X "enumerate") (hm : X.mg "enumerate" = none) (ha : PA X [e] ta) (hs : starEach [e] X.env = [(false, eval e X.env)] := by rfl) :
    PI X (.Tuple elts kk tpos) (.Call (.Name "enumerate" p) [e] [] pos) (iEnumT X.K ta) := by
  refine ⟨fun pins s σ H R I h => ?_⟩
  refine Call_ (ld_blt I hg hm boot_enumerate (PyProof.Rows.callWith_type1 (thn (ha.run pos pins s σ H _ I h) fun us s1 ⟨vs, H1, I1, r1, q1⟩ => ?_) hs rfl))
  obtain ⟨a, xs, ex, hq, q⟩ := q1
  subst ex
  cases r1 with
  | cons r rr =>
    cases rr
    cases r
    obtain ⟨its, rv, p', hz⟩ := I1.tuple hq
    refine call_enumerate_tup (show s1.heap.IsTuple a its.toArray from p') fun h' he hit hsz hk => wpAny_pyIter_enum he ?_
    have I2 : Inv X pins σ H1 { s1 with heap := h' } := I1.kept (t' := s1.toks) hk
    refine ⟨s1.heap.objs.size + 1, [s1.heap.objs.size + 1, s1.heap.objs.size], _, _, H1, rfl, I2, turn_enumT a (s1.heap.objs.size + 1) s1.heap.objs.size, ⟨⟨.none, he⟩, hit, Nat.succ_ne_self _⟩, fun b hb => ?_, q⟩
    have e' : b = s1.heap.objs.size + 1 ∨ b = s1.heap.objs.size := by simpa using hb
    have hle : s1.heap.objs.size ≤ b := by
      rcases e' with z | z
      · rw [z]; exact Nat.le_add_right _ _
      · rw [z]; exact Nat.le_refl _
    exact I1.fpOk hle (I1.hok.fresh hle)
theorem walk_enumT {K : PySem.W.Frag} {a : Addr} {xs : List V} : Walk (IteT K a) xs.length (fun H => SqT K H a xs) (YPair (fun i => some (.int (i : Nat))) (fun i => xs[i]?)) := by
  refine ⟨fun i _ hi q => ⟨xs, xs[i], q, by simp [hi]⟩, fun _ q => ⟨xs, q, Nat.le_refl _⟩, fun i H v H' _ q y => ?_⟩
  obtain ⟨T, x, h1, h2, h3, h4⟩ := y
  exact ⟨T, .int (i : Nat), x, h1, h2, h3, rfl, h4 xs q⟩
end K65
/-! rules of our own: sorted of a tuple, t[::-1], a great power -/
namespace K65
open PySem PySem.Spec PyProof.Rows L2
section
variable {prog : Program} {w : World} {A : Around} {E : Value → Shared → Prop} {s : Shared}
theorem collect_tup {l : Addr} {vs : List Value} {Q : List Value → Shared → Prop} (hl : IsTup s.heap l vs.toArray)
    (h : Q vs { s with heap := (s.heap.push (seqObj "list" #[] 0)).update s.heap.objs.size (Obj.mapSeq (· ++ vs.toArray)) }) (hsz : vs.length ≤ sizeLine := by size_fits) :
    wpAny (model prog w) A (collect (.ref l)) Q E s := by
  obtain ⟨o, ho, hc, n, hd⟩ := id hl
  unfold collect
  refine wpAny_bind (wpAny_runValue (codeAny_builtin entry_proto_collect' ?_))
  show wpAny _ _ (do again (.builtin "list.__iadd__" ⟨[← newList [], .ref l], []⟩)) _ _ s
  refine wpAny_bind (wpAny_newList (wpAny_pure ⟨Code.quiet_builtin _ (by decide +kernel), codeAny_builtin entry_list_iadd' ?_⟩))
  show wpAny _ _ (Builtin.List.listExtendWith (.ref s.heap.objs.size) (.ref l) (.ref s.heap.objs.size)) _ _ { s with heap := s.heap.push (seqObj "list" #[] 0) }
  unfold Builtin.List.listExtendWith
  have ho' : (s.heap.push (seqObj "list" #[] 0)).get? l = some o := Heap.get?_push_of_some _ ho
  refine wpAny_bind (wpAny_typeOf (T := "tuple") ⟨o, ho', hc⟩ ?_)
  have ht : (Value.type "tuple" == Value.type "tuple") = true := by rfl
  rw [if_pos (by rw [ht]; simp)]
  refine wpAny_bind (listItems_at ho' hd ?_)
  refine wpAny_bind (listItems_at (xs := #[]) (n := 0) (Heap.get?_push_size _ rfl) rfl ?_)
  rw [if_neg (by simp)]
  refine wpAny_bind (listUpdate_at (xs := #[]) (n := 0) (Heap.get?_push_size _ rfl) rfl ?_ (Nat.zero_le _) (by show (#[] ++ vs.toArray).size ≤ sizeLine + 1; simp only [Array.size_append, List.size_toArray, List.length_nil]; omega))
  refine wpAny_pure ?_
  show wpAny (model prog w) A (do
      let o ← load s.heap.objs.size
      match o.data with
      | .seq xs _ => pure xs.toList
      | _ => unsupported "internal:collect") Q E { s with heap := (s.heap.push (seqObj "list" #[] 0)).update s.heap.objs.size (Obj.mapSeq (· ++ vs.toArray)) }
  refine wpAny_bind (wpAny_load (get?_update_seq (Heap.get?_push_size _ rfl) _) ?_)
  show wpAny _ _ (pure ((#[] : Array Value) ++ vs.toArray).toList) Q E _
  rw [show ((#[] : Array Value) ++ vs.toArray).toList = vs by simp]
  exact wpAny_pure h
/-- sorted of a tuple: as of a list -/
theorem sorted_ordT {l : Addr} {vs : List Value} {ltv : Value → Value → Bool} {Q : Value → Shared → Prop} (O : SrtO.Swo ltv) (hl : IsTup s.heap l vs.toArray) (hz : vs.length ≤ sizeLine)
    (hS : 2 ≤ vs.length → ∀ (h₁ : Heap) (a : Addr), h₁.get? a = some (seqObj "list" vs.toArray 0) → (∀ b o, s.heap.get? b = some o → b ≠ a ∧ h₁.get? b = some o) → SrtO.SortableO prog w A.in1.in1 { s with heap := h₁ } a vs ltv)
    (h : ∀ out : List Value, SrtO.Srtd ltv out → SrtO.Stb ltv out vs → Q (.ref (s.heap.objs.size + 1)) { s with heap := sortedAll s.heap vs out.toArray }) :
    wpAny (model prog w) A (call (.builtin "sorted") [.ref l]) Q E s := by
  refine Calls.call_function_entry kind_sorted plain_sorted entry_sorted (args_sorted1 _) ?_
  unfold Builtin.«sorted»
  refine wpAny_bind (m := checkCount "sorted" 1 1 _) (wpAny_pure ?_)
  refine wpAny_bind (collect_tup hl ?_ hz)
  refine wpAny_bind (wpAny_newList ?_ hz)
  have hsz : ((s.heap.push (seqObj "list" #[] 0)).update s.heap.objs.size (Obj.mapSeq (· ++ vs.toArray))).objs.size = s.heap.objs.size + 1 := by
    rw [Heap.size_update, Heap.size_push]
  have hoL : (((s.heap.push (seqObj "list" #[] 0)).update s.heap.objs.size (Obj.mapSeq (· ++ vs.toArray))).push (seqObj "list" vs.toArray 0)).get? (s.heap.objs.size + 1) = some (seqObj "list" vs.toArray 0) := by
    rw [← hsz]; exact Heap.get?_push_size _ rfl
  have keep : ∀ b o, s.heap.get? b = some o → b ≠ s.heap.objs.size + 1 ∧ (((s.heap.push (seqObj "list" #[] 0)).update s.heap.objs.size (Obj.mapSeq (· ++ vs.toArray))).push (seqObj "list" vs.toArray 0)).get? b = some o := fun b o q => by
    have hlt : b < s.heap.objs.size := Heap.lt_size q
    refine ⟨Nat.ne_of_lt (Nat.lt_succ_of_lt hlt), Heap.get?_push_of_some _ ?_⟩
    rw [Heap.get?_update_ne _ _ _ _ (Nat.ne_of_lt hlt)]
    exact Heap.get?_push_of_some _ q
  show wpAny _ _ _ _ _ { s with heap := ((s.heap.push (seqObj "list" #[] 0)).update s.heap.objs.size (Obj.mapSeq (· ++ vs.toArray))).push (seqObj "list" vs.toArray 0) }
  rw [hsz]
  refine wpAny_bind (wpAny_holding (wpAny_call_entry slot_list_sort ⟨_, hoL, rfl⟩ entry_list_sort (SrtO.list_sort_ord O hoL hz (fun h2 => hS h2 _ _ hoL keep) fun out hs hb => ⟨_, rfl, ?_⟩) (args_list_sort _)))
  exact wpAny_pure ⟨_, rfl, h out hs hb⟩
open TS in
/-- sorted of a tuple of tuples of ints -/
theorem sorted_tupsT {l : Addr} {vs : List Value} {d : Nat} {B : Int} {Q : Value → Shared → Prop} (hl : IsTup s.heap l vs.toArray) (h64 : vs.length < 64) (hd : 1 ≤ d) (x : TupsOk s.heap d B vs)
    (h : ∀ out : Array Value, out.toList.Perm vs → out.toList.Pairwise (fun u v => code B (intsOf s.heap u) ≤ code B (intsOf s.heap v)) → Q (.ref (s.heap.objs.size + 1)) { s with heap := sortedAll s.heap vs out }) :
    wpAny (model prog w) A (call (.builtin "sorted") [.ref l]) Q E s := by
  refine Calls.call_function_entry kind_sorted plain_sorted entry_sorted (args_sorted1 _) ?_
  unfold Builtin.«sorted»
  refine wpAny_bind (m := checkCount "sorted" 1 1 _) (wpAny_pure ?_)
  refine wpAny_bind (collect_tup hl ?_ (by rw [sizeLine_eq]; omega))
  refine wpAny_bind (wpAny_newList ?_ (by rw [sizeLine_eq]; omega))
  have hsz : ((s.heap.push (seqObj "list" #[] 0)).update s.heap.objs.size (Obj.mapSeq (· ++ vs.toArray))).objs.size = s.heap.objs.size + 1 := by
    rw [Heap.size_update, Heap.size_push]
  have hoL : (((s.heap.push (seqObj "list" #[] 0)).update s.heap.objs.size (Obj.mapSeq (· ++ vs.toArray))).push (seqObj "list" vs.toArray 0)).get? (s.heap.objs.size + 1) = some (seqObj "list" vs.toArray 0) := by
    rw [← hsz]; exact Heap.get?_push_size _ rfl
  have keep : ∀ b o, s.heap.get? b = some o → o.cls = .type "tuple" → (((s.heap.push (seqObj "list" #[] 0)).update s.heap.objs.size (Obj.mapSeq (· ++ vs.toArray))).push (seqObj "list" vs.toArray 0)).get? b = some o := fun b o q _ => by
    have hlt : b < s.heap.objs.size := Heap.lt_size q
    rw [Heap.get?_push_ne _ _ _ (by rw [hsz]; exact Nat.ne_of_lt (Nat.lt_succ_of_lt hlt)), Heap.get?_update_ne _ _ _ _ (Nat.ne_of_lt hlt), Heap.get?_push_ne _ _ _ (Nat.ne_of_lt hlt)]
    exact q
  show wpAny _ _ _ _ _ { s with heap := ((s.heap.push (seqObj "list" #[] 0)).update s.heap.objs.size (Obj.mapSeq (· ++ vs.toArray))).push (seqObj "list" vs.toArray 0) }
  rw [hsz]
  refine wpAny_bind (wpAny_holding (wpAny_call_entry slot_list_sort ⟨_, hoL, rfl⟩ entry_list_sort (sort_tups hoL h64 hd (x.keeps keep) (fun v => code B (intsOf s.heap v)) (fun v hv ns t => ?_) fun out a1 a2 => ⟨_, rfl, ?_⟩) (args_list_sort _)))
  · obtain ⟨ns0, t0, _⟩ := x v hv
    have e : ns = ns0 := t.ints.symm.trans (t0.keeps keep).ints
    rw [e]
    show code B (intsOf s.heap v) = code B ns0
    rw [t0.ints]
  · exact wpAny_pure ⟨_, rfl, h out a1 a2⟩
theorem fm_some {α β : Type} (f : α → Option β) (g : α → β) : ∀ (l : List α), (∀ x ∈ l, f x = some (g x)) → l.filterMap f = l.map g
  | [], _ => rfl
  | x :: l, h => by
    rw [List.filterMap_cons, h x List.mem_cons_self, List.map_cons]
    exact congrArg _ (fm_some f g l fun y hy => h y (List.mem_cons_of_mem _ hy))
theorem getItem_tuple_rev {t sl : Addr} {items : Array Value} {vs : Value} {Q : Value → Shared → Prop} (ht : IsTup s.heap t items) (hs : s.heap.IsSliceOf sl .none .none vs) (ps : IsPart vs (some (-1)))
    (h1 : 1 ≤ items.size)
    (h : Q (.ref s.heap.objs.size) { s with heap := s.heap.push { cls := .type "tuple", data := .seq items.toList.reverse.toArray } })
    (hsz : items.size ≤ sizeLine) : wpAny (model prog w) A (getItem (.ref t) (.ref sl)) Q E s := by
  have htake : sizeOk (.seq items.toList.reverse.toArray) := by
    show items.toList.reverse.toArray.size ≤ sizeLine
    rw [List.size_toArray, List.length_reverse, Array.length_toList]
    exact hsz
  obtain ⟨os, hos, hcs, hds⟩ := id hs
  have hTs : s.TypeIs (.ref sl) "slice" := ⟨os, hos, hcs⟩
  unfold getItem
  try with_reducible refine wpAny_holding ?_
  first | refine wpAny_bind (wpAny_pure ?_) | skip
  refine wpAny_bind (wpAny_sequenceKey ht.typeIs (by decide) ?_)
  refine wpAny_bind (wpAny_callSpecial?_slot (name := Str.ofString "__getitem__") ht.typeIs PyProof.Rows.slot_tuple_getitem
    (wpAny_call_entry PyProof.Rows.slot_tuple_getitem ht.typeIs entry_tuple_getitem ?_ (args_tuple_getitem _ _)))
  show wpAny _ _ (Builtin.Tuple.tupleItemsOf (.ref t) >>= _) _ _ s
  refine wpAny_bind (tupleItemsOf_ ht ?_)
  refine wpAny_bind (wpAny_typeOf hTs ?_)
  rw [if_pos (by decide)]
  have hap : ∀ {R : Int × Int × Nat → Shared → Prop}, R ((items.size : Int) - 1, -1, items.size) s → wpAny (model prog w) A.in1 (Builtin.Slice.sliceApplied (.ref sl) (pure (items.size : Int))) R E s := by
    intro R hR
    unfold Builtin.Slice.sliceApplied Builtin.Slice.sliceFields
    refine wpAny_bind (wpAny_bind (wpAny_field hos hds (x := .none) rfl (wpAny_bind (wpAny_field hos hds (x := .none) rfl (wpAny_bind (wpAny_field hos hds (x := vs) rfl (wpAny_pure ?_)))))))
    refine wpAny_bind (HT.slicePart_ ps ?_)
    show wpAny _ _ (if ((-1 : Int) == 0) = true then _ else _) _ _ s
    rw [if_neg (by decide)]
    refine wpAny_bind (slicePart_none (wpAny_bind (slicePart_none (wpAny_bind (wpAny_pure ?_)))))
    have ea : Builtin.Slice.sliceAdjust none none (-1) (items.size : Int) = ((items.size : Int) - 1, -1) := rfl
    have ep : Builtin.Slice.slicePlaces ((items.size : Int) - 1) (-1) (-1) = items.size := by
      unfold Builtin.Slice.slicePlaces
      rw [if_neg (by decide), if_pos (by omega)]
      have e1 : ((items.size : Int) - 1 - -1 - 1) / -(-1 : Int) + 1 = (items.size : Int) := by
        have : -(-1 : Int) = 1 := rfl
        rw [this, Int.ediv_one]
        omega
      rw [e1]
      omega
    show wpAny _ _ (match Builtin.Slice.sliceAdjust none none (-1) (items.size : Int) with | (lo, hi) => pure (lo, (-1 : Int), Builtin.Slice.slicePlaces lo hi (-1))) _ _ s
    rw [ea]
    show wpAny _ _ (pure ((items.size : Int) - 1, (-1 : Int), Builtin.Slice.slicePlaces ((items.size : Int) - 1) (-1) (-1))) _ _ s
    rw [ep]
    exact wpAny_pure hR
  refine wpAny_bind (hap ?_)
  have hno : ¬ ((((items.size : Int) - 1) == 0 && (-1 : Int) == 1 && items.size == items.size) = true) := by
    intro q
    rw [Bool.and_eq_true, Bool.and_eq_true] at q
    exact absurd (eq_of_beq q.1.2) (by decide)
  show wpAny _ _ (if (((items.size : Int) - 1) == 0 && (-1 : Int) == 1 && items.size == items.size) = true then _ else _) _ _ s
  have epick : ((List.range items.size).filterMap fun (k : Nat) => items[((items.size : Int) - 1 + (k : Int) * -1).toNat]?).toArray = items.toList.reverse.toArray := by
    congr 1
    apply List.ext_getElem?
    intro i
    have hall : ∀ k ∈ List.range items.size, items[((items.size : Int) - 1 + (k : Int) * -1).toNat]? = some (items.toList.reverse.getD k .none) := by
      intro k hk
      have hk := List.mem_range.mp hk
      have e1 : ((items.size : Int) - 1 + (k : Int) * -1).toNat = items.size - 1 - k := by omega
      have hk' : k < items.toList.reverse.length := by simpa using hk
      rw [e1, List.getD_eq_getElem?_getD, List.getElem?_eq_getElem hk', List.getElem_reverse]
      simp only [Option.getD_some, Array.length_toList, Array.getElem_toList]
      exact Array.getElem?_eq_getElem (by omega)
    have e2 : ((List.range items.size).filterMap fun (k : Nat) => items[((items.size : Int) - 1 + (k : Int) * -1).toNat]?) = (List.range items.size).map fun k => items.toList.reverse.getD k .none := by
      exact fm_some _ _ _ hall
    rw [e2, List.getElem?_map]
    by_cases hi : i < items.size
    · rw [List.getElem?_range hi]
      have hi' : i < items.toList.reverse.length := by simpa using hi
      simp only [Option.map_some]
      rw [List.getD_eq_getElem?_getD, List.getElem?_eq_getElem hi']
      rfl
    · rw [List.getElem?_eq_none (by simpa using hi), List.getElem?_eq_none (by simpa using hi)]
      rfl
  rw [if_neg hno, epick]
  first
    | exact wpAny_bind (m := Builtin.Tuple.tupleExact _) (wpAny_newObj_type (wpAny_pure ⟨_, rfl, wpAny_pure h⟩) htake)
    | exact wpAny_bind (m := Builtin.Tuple.tupleExact _) (wpAny_newObj_type (wpAny_bind (wpAny_pure (wpAny_pure ⟨_, rfl, wpAny_pure h⟩))) htake)
    | exact wpAny_bind (wpAny_bind (m := Builtin.Tuple.tupleExact _) (wpAny_newObj_type (wpAny_pure (wpAny_pure ⟨_, rfl, wpAny_pure h⟩)) htake))
    | exact wpAny_bind (wpAny_bind (m := Builtin.Tuple.tupleExact _) (wpAny_newObj_type (wpAny_pure ⟨_, rfl, wpAny_pure h⟩) htake))
end
/-- t[::-1], t a tuple that is not empty -/
def tRevT (K : PySem.W.Frag) (te : TE) : TE := fun σ H Q => te σ H fun x H1 => ∃ a xs, x = .ref a ∧ SqT K H1 a xs ∧ 1 ≤ xs.length ∧ ∀ p, H1 p = none → Q (.ref p) (upd H1 p (.tup xs.reverse))
section
variable {X : Cx}
theorem pe_revT {e : Expr} {te : TE} {k : Nat} {p1 p2 p3 pos : Pos} (he : PE X e te) : PE X (.Subscript e (.Slice none none (some (.UnaryOp .USub (.Constant (.int 1) k p1) p2)) p3) pos) (tRevT X.K te) := by
  refine ⟨fun pins s σ H Q I h => ?_⟩
  refine Subscript_ (thn (he.run pins s σ H _ I h) fun v s1 ⟨x, H1, I1, r1, q1⟩ => ?_)
  obtain ⟨a, xs, ex, hx, h1, q⟩ := q1
  subst ex
  cases r1
  have hst : PO X (some (.UnaryOp .USub (.Constant (.int 1) k p1) p2)) (tPart (tUn (rU fun i => .int (-i)) (tC (.int 1)))) := po_some (pe_un un_neg pe_int)
  refine wpAny_Slice (thn (po_none.run pins s1 σ H1 (fun o H2 => o = none ∧ H2 = H1) I1 ⟨rfl, rfl⟩) fun vl s2 ⟨l, H2, I2, pl, el, e2⟩ => ?_)
  subst el e2
  refine thn (po_none.run pins s2 σ H2 (fun o H3 => o = none ∧ H3 = H2) I2 ⟨rfl, rfl⟩) fun vu s3 ⟨u, H3, I3, pu, eu, e3⟩ => ?_
  subst eu e3
  refine thn (hst.run pins s3 σ H3 (fun o H4 => o = some (-1) ∧ H4 = H3) I3 ⟨1, rfl, -1, rfl, rfl, rfl⟩) fun vs s4 ⟨o, H4, I4, ps, eo, e4⟩ => ?_
  subst eo e4
  have I5 : Inv X pins σ H4 { s4 with heap := s4.heap.push { cls := .type "slice", data := .fields #[vl, vu, vs] } } := I4.kept (t' := s4.toks) fun b ob q => Heap.get?_push_of_some _ q
  obtain ⟨its, r, ht, hz⟩ := I5.tuple hx
  have hlen := r.length
  cases pl
  cases pu
  show wpAny (model X.prog X.w) X.A (subscriptTail e (.Slice none none (some (.UnaryOp .USub (.Constant (.int 1) k p1) p2)) p3) (.ref a) (.ref s4.heap.objs.size)) (EP X pins σ Q) X.xe { s4 with heap := s4.heap.push { cls := .type "slice", data := .fields #[.none, .none, vs] } }
  refine tail_any (ops := [.ref a, .ref s4.heap.objs.size]) ht.typeIs (PyProof.Rows.slot_tuple_getitem.lookup) ?_ (by with_unfolding_all rfl)
  refine getItem_tuple_rev ht (Heap.IsSliceOf.new _ .none .none vs) ps (by rw [List.size_toArray, ← hlen]; exact h1) ?_ (by rw [List.size_toArray]; omega)
  refine ⟨.ref _, _, I5.laid (t' := s4.toks) (o := .tup xs.reverse) (fun b ob q => Heap.get?_push_of_some _ q) (Nat.le_refl _) ?_, rfl, q _ (I5.hok.fresh (Nat.le_refl _))⟩
  exact ⟨by rw [List.length_reverse]; exact hz, _, r.reverse, IsTup.new _ _⟩
/-- a power of great numbers, small enough together -/
def CPowB (i j : Int) : Prop := 0 ≤ j ∧ (Builtin.Int.intBits i : Int) * j ≤ 2 ^ 27
theorem op_powB : OpR X (binaryOp .Pow) (rI CPowB fun i j => .int (i ^ j.toNat)) := opI fun _ _ _ _ _ _ _ hc q => pow_int hc.1 hc.2 q
/-- sorted(t), t a tuple of ints -/
def rSortedTI (K : PySem.W.Frag) : List V → Hp → VK → Prop := fun vs H Q => ∃ (a : Addr) (ns : List Int), vs = [V.ref a] ∧ SqT K H a (ns.map V.int) ∧
  ∀ (ns' : List Int) (p : Addr), ns'.Perm ns → ns'.Pairwise (· ≤ ·) → H p = none → Q (.ref p) (upd H p (.lst (ns'.map V.int)))
theorem cr_sortedTI : CallR X (.builtin "sorted") (rSortedTI X.K) := by
  intro pins s σ H vs us Q I r h
  obtain ⟨a, ns, rfl, hs, q⟩ := h
  obtain ⟨its, rv, hl, hz⟩ := I.tuple hs
  rw [Vals.ref1 r]
  have hi := rv.ints
  refine sorted_ordT SrtO.swo_int hl (by rw [← rv.length]; exact hz) (fun h2 h₁ a' _ _ => SrtO.ints_sortable hi h2) fun out h1 h2 => ?_
  obtain ⟨k1, k2, k3⟩ := SrtO.ints_out hi h1 h2
  obtain ⟨ep, he'⟩ := PyProof.Rows.sortedAll_at s.heap its out.toArray
  have hlen : ((out.map SrtO.iv).map V.int).length ≤ sizeLine := by
    rw [List.length_map, k2.length_eq]
    rw [List.length_map] at hz
    exact hz
  exact ⟨.ref _, upd H (s.heap.objs.size + 1) (.lst ((out.map SrtO.iv).map V.int)), I.laid (t' := s.toks) (fun _ _ => PyProof.Rows.sortedAll_old) (Nat.le_succ _) ⟨hlen, out, ep, vals_of_ints k1, he'⟩, rfl, q _ _ k2 k3 (I.hok.fresh (Nat.le_succ _))⟩
/-- sorted(t), t a tuple of fewer than 64 tuples of d ints in [0, B) -/
def rSortUT (K : PySem.W.Frag) (d : Nat) (B : Int) : List V → Hp → VK → Prop := fun vs H Q => ∃ (a : Addr) (xs : List V), vs = [V.ref a] ∧ SqT K H a xs ∧ xs.length < 64 ∧ (∀ x ∈ xs, ∃ ns, TupI K H x ns ∧ ns.length = d ∧ TS.Bd B ns) ∧
  ∀ (ys : List V) (p : Addr), ys.Perm xs → ys.Pairwise (fun x y => ∀ n m, TupI K H x n → TupI K H y m → TS.code B n ≤ TS.code B m) → H p = none → Q (.ref p) (upd H p (.lst ys))
theorem cr_sortTT {d : Nat} {B : Int} (hd : 1 ≤ d) : CallR X (.builtin "sorted") (rSortUT X.K d B) := by
  intro pins s σ H vs us Q I r h
  obtain ⟨a, xs, rfl, hs, h64, hx, q⟩ := h
  obtain ⟨its, rv, hl, hz⟩ := I.tuple hs
  rw [Vals.ref1 r]
  obtain ⟨e1, e2⟩ := bkV_refs rv fun x m => by
    obtain ⟨ns, ⟨t, e, _⟩, _⟩ := hx x m
    exact ⟨t, e⟩
  refine sorted_tupsT (d := d) (B := B) hl (by rw [← rv.length]; exact h64) hd (fun v hv => ?_) fun out h1 h2 => ?_
  · obtain ⟨t, rfl⟩ := e2 v hv
    have hm : V.ref t ∈ xs := by
      rw [e1]
      exact List.mem_map.mpr ⟨_, hv, rfl⟩
    obtain ⟨ns, ⟨t', e, ht⟩, hn, hb⟩ := hx _ hm
    cases e
    exact ⟨ns, tupI_raw I ht, hn, hb⟩
  · obtain ⟨ep, he'⟩ := PyProof.Rows.sortedAll_at s.heap its out
    have h3 : ∀ u ∈ out.toList, ∃ a, u = Value.ref a := fun u hu => e2 u (h1.mem_iff.mp hu)
    have hp : (out.toList.map bkV).Perm xs := by
      rw [e1]
      exact h1.map bkV
    have hlen : (out.toList.map bkV).length ≤ sizeLine := by
      rw [hp.length_eq]
      exact hz
    refine ⟨.ref _, upd H (s.heap.objs.size + 1) (.lst (out.toList.map bkV)), I.laid (t' := s.toks) (fun _ _ => PyProof.Rows.sortedAll_old) (Nat.le_succ _) ⟨hlen, out.toList, ep, bkV_vals h3, he'⟩, rfl, q _ _ hp ?_ (I.hok.fresh (Nat.le_succ _))⟩
    rw [List.pairwise_map]
    refine List.Pairwise.imp (fun {u v} huv n m hn hm => ?_) h2
    obtain ⟨t, et, ht⟩ := hn
    obtain ⟨t', et', ht'⟩ := hm
    have eu := bkV_ref et
    have ev := bkV_ref et'
    have i1 : TS.intsOf s.heap u = n := by
      rw [eu]
      exact (tupI_raw I ht).ints
    have i2 : TS.intsOf s.heap v = m := by
      rw [ev]
      exact (tupI_raw I ht').ints
    rw [← i1, ← i2]
    exact huv
end
end K65
/-! rules of our own: set comprehensions of one and of two clauses, whatever the set's members are -/
namespace K65
open PySem PySem.Spec PyProof.Rows L2

/-- how a set of some kind is told: its object, the empty one, what an item must be, what it becomes -/
structure SetRep (X : Cx) (τ : Type) (SO : Addr → τ → HO) (t0 : τ) (Pre : V → τ → Hp → Prop) (Post : V → τ → τ → Hp → Prop) : Prop where
  new : ∀ (H : Hp) (h : Heap), ObjOk X.prog X.w H (h.push { cls := .type "set", dict := none, data := .set #[] 0 (.fresh 0 0 (!X.w.params.followText "set-order")) }) h.objs.size (SO h.objs.size t0)
  add : ∀ (Y : Cx), Y.prog = X.prog → Y.w = X.w → Y.K = X.K → Y.A = X.A → ∀ (pins : List (Addr × Obj)) (σ : L2.St) (H : Hp) (s : Shared) (E : Value → Shared → Prop) (D : Addr) (t : τ) (y : V) (v : Value) (Q : Value → Shared → Prop),
    Inv Y pins σ H s → H D = some (SO D t) → RelV y v → Pre y t H → (∀ t' s' u, Post y t t' H → Inv Y pins σ (upd H D (SO D t')) s' → Q u s') → wpAny (model Y.prog Y.w) Y.A (call (.builtin "set.add") [.ref D, v]) Q E s
theorem scTurn2_out (elt t0 i0 t1 i1 : Expr) (ifs0 ifs1 : List Expr) (scope : Scope) (pos : Pos) (it acc : Value) (env : Env) :
    compTurn (.SetComp elt [⟨t0, i0, ifs0, 0⟩, ⟨t1, i1, ifs1, 0⟩] scope pos) 0 it acc env = (do
      standAt i0.pos
      match ← pyNext it with
      | none => pure (.done .next)
      | some v =>
        letOwnedTupleGo t0 it v
        assign t0 env v
        let mut ok := true
        for c in ifs0 do
          if ok then ok ← isTrue c env (eval c env)
        if ok then
          let x ← eval i1 env
          standAt i1.pos
          let x ← foldedSetIterable i1 env x
          let _ ← runOwn (.compStart (.SetComp elt [⟨t0, i0, ifs0, 0⟩, ⟨t1, i1, ifs1, 0⟩] scope pos) 1 (← holding [x] (pyIter x)) acc env) env
        again (.compLoop (.SetComp elt [⟨t0, i0, ifs0, 0⟩, ⟨t1, i1, ifs1, 0⟩] scope pos) 0 it acc env)) := by rfl
theorem scTurn2_in (elt t0 i0 t1 i1 : Expr) (ifs0 ifs1 : List Expr) (scope : Scope) (pos : Pos) (it acc : Value) (env : Env) :
    compTurn (.SetComp elt [⟨t0, i0, ifs0, 0⟩, ⟨t1, i1, ifs1, 0⟩] scope pos) 1 it acc env = (do
      standAt i1.pos
      match ← pyNext it with
      | none => pure (.done .next)
      | some v =>
        letOwnedTupleGo t1 it v
        assign t1 env v
        let mut ok := true
        for c in ifs1 do
          if ok then ok ← isTrue c env (eval c env)
        if ok then
          (do let v ← eval elt env; standAt elt.pos; let _ ← call (.builtin "set.add") [acc, v])
        again (.compLoop (.SetComp elt [⟨t0, i0, ifs0, 0⟩, ⟨t1, i1, ifs1, 0⟩] scope pos) 1 it acc env)) := by rfl

section
variable {prog : Program} {w : World} {A : Around} {R : Result → Shared → Prop} {s : Shared} {elt t0 i0 t1 i1 : Expr} {ifs0 ifs1 : List Expr} {scope : Scope} {pos : Pos} {it acc : Value} {env : Env}
/-- the loop of the first clause -/
theorem scLoop2_out (hs : ∀ x, foldedSetIterable i1 env x = pure x) (I : Nat → Shared → Prop)
    (turn : ∀ n s, I n s → wpAny (model prog w) A (pyNext it) (fun r s₁ => match r with
      | none => R (.ok .next) s₁
      | some v => wpAny (model prog w) A (letOwnedTupleGo t0 it v) (fun _ s₁' => wpAny (model prog w) A (assign t0 env v) (fun _ s₂ =>
          wpAny (model prog w) A (forIn ifs0 true fun c r => if r = true then do let ok ← isTrue c env (eval c env); pure (ForInStep.yield ok) else pure (ForInStep.yield r)) (fun ok s₃ =>
            if ok = true then wpAny (model prog w) A (eval i1 env) (fun x s₄ => wpAny (model prog w) A (pyIter x) (fun it1 s₅ =>
              codeAny (model prog w) A (.compStart (.SetComp elt [⟨t0, i0, ifs0, 0⟩, ⟨t1, i1, ifs1, 0⟩] scope pos) 1 it1 acc env) (fun r s' => match r with
                | .ok _ => ∃ m, m < n ∧ I m s'
                | .error _ => False) s₅) (notedBy (model prog w) A env fun e s' => R (.error e) s') s₄) (notedBy (model prog w) A env fun e s' => R (.error e) s') s₃
            else ∃ m, m < n ∧ I m s₃) (notedBy (model prog w) A env fun e s' => R (.error e) s') s₂) (notedBy (model prog w) A env fun e s' => R (.error e) s') s₁') (notedBy (model prog w) A env fun e s' => R (.error e) s') s₁) (notedBy (model prog w) A env fun e s' => R (.error e) s') s)
    (n : Nat) (h : I n s) :
    codeAny (model prog w) A (.compLoop (.SetComp elt [⟨t0, i0, ifs0, 0⟩, ⟨t1, i1, ifs1, 0⟩] scope pos) 0 it acc env) R s := by
  refine codeAny_loop rfl I (fun n s hI => ?_) n h
  show wpAny _ A ((compTurn (.SetComp elt [⟨t0, i0, ifs0, 0⟩, ⟨t1, i1, ifs1, 0⟩] scope pos) 0 it acc env).onRaise (fun x => do noteFrame x env; theTreesLotGoes x)) _ _ s
  refine wpAny_noted ?_
  rw [scTurn2_out]
  refine wpAny_bind (wpAny_standAt (wpAny_bind (wpAny_mono (turn n s hI) (fun r s₁ h₁ => ?_) fun _ _ h' => h')))
  cases r with
  | none => exact wpAny_pure h₁
  | some v =>
    refine wpAny_bind (wpAny_mono h₁ (fun _ s₁' h₁' => ?_) fun _ _ h' => h')
    refine wpAny_bind (wpAny_mono h₁' (fun _ s₂ h₂ => wpAny_bind (wpAny_mono h₂ (fun ok s₃ h₃ => ?_) fun _ _ h' => h')) fun _ _ h' => h')
    cases ok with
    | false => exact wpAny_pure ⟨rfl, h₃⟩
    | true =>
      refine wpAny_bind (wpAny_mono h₃ (fun x s₄ h₄ => ?_) fun _ _ h' => h')
      refine wpAny_bind (wpAny_standAt (wpAny_bind (wpAny_of_eq (hs x) (wpAny_bind (wpAny_holding (wpAny_mono h₄ (fun it1 s₅ h₅ => ?_) fun _ _ h' => h'))))))
      refine wpAny_bind (wpAny_runOwn ?_)
      rw [Around.mark_none]
      refine codeAny_mono h₅ fun r s' hr => ?_
      cases r with
      | ok f =>
        first
          | exact wpAny_pure ⟨rfl, hr⟩
          | exact wpAny_bind (wpAny_pure (wpAny_pure ⟨rfl, hr⟩))
      | error e => exact hr.elim
/-- the loop of the second -/
theorem scLoop2_in (I : Nat → Shared → Prop)
    (turn : ∀ n s, I n s → wpAny (model prog w) A (pyNext it) (fun r s₁ => match r with
      | none => R (.ok .next) s₁
      | some v => wpAny (model prog w) A (letOwnedTupleGo t1 it v) (fun _ s₁' => wpAny (model prog w) A (assign t1 env v) (fun _ s₂ =>
          wpAny (model prog w) A (forIn ifs1 true fun c r => if r = true then do let ok ← isTrue c env (eval c env); pure (ForInStep.yield ok) else pure (ForInStep.yield r)) (fun ok s₃ =>
            if ok = true then wpAny (model prog w) A (eval elt env) (fun x s₄ =>
              wpAny (model prog w) A (call (.builtin "set.add") [acc, x]) (fun _ s₅ => ∃ m, m < n ∧ I m s₅) (notedBy (model prog w) A env fun e s' => R (.error e) s') s₄) (notedBy (model prog w) A env fun e s' => R (.error e) s') s₃
            else ∃ m, m < n ∧ I m s₃) (notedBy (model prog w) A env fun e s' => R (.error e) s') s₂) (notedBy (model prog w) A env fun e s' => R (.error e) s') s₁') (notedBy (model prog w) A env fun e s' => R (.error e) s') s₁) (notedBy (model prog w) A env fun e s' => R (.error e) s') s)
    (n : Nat) (h : I n s) :
    codeAny (model prog w) A (.compLoop (.SetComp elt [⟨t0, i0, ifs0, 0⟩, ⟨t1, i1, ifs1, 0⟩] scope pos) 1 it acc env) R s := by
  refine codeAny_loop rfl I (fun n s hI => ?_) n h
  show wpAny _ A ((compTurn (.SetComp elt [⟨t0, i0, ifs0, 0⟩, ⟨t1, i1, ifs1, 0⟩] scope pos) 1 it acc env).onRaise (fun x => do noteFrame x env; theTreesLotGoes x)) _ _ s
  refine wpAny_noted ?_
  rw [scTurn2_in]
  refine wpAny_bind (wpAny_standAt (wpAny_bind (wpAny_mono (turn n s hI) (fun r s₁ h₁ => ?_) fun _ _ h' => h')))
  cases r with
  | none => exact wpAny_pure h₁
  | some v =>
    refine wpAny_bind (wpAny_mono h₁ (fun _ s₁' h₁' => ?_) fun _ _ h' => h')
    refine wpAny_bind (wpAny_mono h₁' (fun _ s₂ h₂ => wpAny_bind (wpAny_mono h₂ (fun ok s₃ h₃ => ?_) fun _ _ h' => h')) fun _ _ h' => h')
    cases ok with
    | false => exact wpAny_pure ⟨rfl, h₃⟩
    | true =>
      exact wpAny_bind (wpAny_bind (wpAny_mono h₃ (fun x s₄ h₄ => wpAny_bind (wpAny_standAt (wpAny_bind (wpAny_mono h₄ (fun _ s₅ h₅ => wpAny_pure (wpAny_pure ⟨rfl, h₅⟩)) fun _ _ h' => h')))) fun _ _ h' => h'))
/-- the second clause's start -/
theorem scStart1_ok (h0 : codeAny (model prog w) A (.compLoop (.SetComp elt [⟨t0, i0, ifs0, 0⟩, ⟨t1, i1, ifs1, 0⟩] scope pos) 1 it acc env) R s)
    (h : wpAny (model prog w) A (pyIter it) (fun it' s' => codeAny (model prog w) A (.compLoop (.SetComp elt [⟨t0, i0, ifs0, 0⟩, ⟨t1, i1, ifs1, 0⟩] scope pos) 1 it' acc env) R s')
      (notedBy (model prog w) A env fun x s' => R (.error x) s') s) :
    codeAny (model prog w) A (.compStart (.SetComp elt [⟨t0, i0, ifs0, 0⟩, ⟨t1, i1, ifs1, 0⟩] scope pos) 1 it acc env) R s := by
  refine codeAny_of_tree ?_
  show wpAny _ _ ((compStart (.SetComp elt [⟨t0, i0, ifs0, 0⟩, ⟨t1, i1, ifs1, 0⟩] scope pos) 1 it acc env).onRaise (fun x => do noteFrame x env; standAt theWindowsPlace)) _ _ s
  refine wpAny_notedAt ?_
  unfold compStart
  show wpAny _ _ (ask >>= _) _ _ s
  refine wpAny_bind (wpAny_askSetting (wpAny_ite ?_))
  split
  · first
      | exact wpAny_bind (wpAny_pure (wpAny_pure (And.intro rfl h0)))
      | exact wpAny_pure (And.intro rfl h0)
  · first
      | exact wpAny_bind (wpAny_rule (wpAny_bind (wpAny_standAt (wpAny_bind (wpAny_mono h (fun it' s' h' => wpAny_pure (And.intro rfl h')) fun _ _ x => x)))))
      | (refine wpAny_bind (wpAny_rule ?_); show wpAny _ _ (standAt i1.pos >>= _) _ _ s; exact wpAny_bind (wpAny_standAt (wpAny_bind (wpAny_mono h (fun it' s' h' => wpAny_pure (And.intro rfl h')) fun _ _ x => x))))
end


section
variable {τ : Type} (SO : Addr → τ → HO) (t0 : τ) (Pre : V → τ → Hp → Prop) (Post : V → τ → τ → Hp → Prop)
/-- {elt for tg in iter if ..}: D the new set -/
def tScG (wi : TI) (g : TG) (tt : TT) (te : TE) (vs : List Nat) : TE := fun σ H Q => wi σ H fun J H1 => ∀ D, H1 D = none → ∃ W : Nat → Nat → Hp → Prop, (∃ m, W 0 m (upd H1 D (SO D t0))) ∧ ∀ i m H, W i m H →
  (J.stop i H ∧ Q (.ref D) H) ∨ (J.go i H ∧ ∃ Nx : Hp → Prop, (∀ H', Nx H' → ∃ m', m' < m ∧ W (i + 1) m' H') ∧ ∀ x H', J.yld i H x H' → g x (wipe σ vs) H' fun σ2 H2 => wipe σ2 vs = wipe σ vs ∧ tt σ2 H2 fun b H3 =>
    if b = true then te σ2 H3 fun y H4 => ∃ t, H4 D = some (SO D t) ∧ Pre y t H4 ∧ ∀ t', Post y t t' H4 → Nx (upd H4 D (SO D t')) else Nx H3)
/-- {elt for tg in iter if .. for tg1 in iter1 if ..} -/
def tSc2G (wi : TI) (g : TG) (tt : TT) (wi1 : TI) (g1 : TG) (tt1 : TT) (te : TE) (vs vs1 : List Nat) : TE := fun σ H Q => wi σ H fun J H1 => ∀ D, H1 D = none → ∃ W : Nat → Nat → Hp → Prop, (∃ m, W 0 m (upd H1 D (SO D t0))) ∧ ∀ i m H, W i m H →
  (J.stop i H ∧ Q (.ref D) H) ∨ (J.go i H ∧ ∃ Nx : Hp → Prop, (∀ H', Nx H' → ∃ m', m' < m ∧ W (i + 1) m' H') ∧ ∀ x H', J.yld i H x H' → g x (wipe σ vs) H' fun σ2 H2 => wipe σ2 vs = wipe σ vs ∧ tt σ2 H2 fun b H3 =>
    if b = true then wi1 σ2 H3 fun J1 H4 => ∃ W1 : Nat → Nat → Hp → Prop, (∃ m, W1 0 m H4) ∧ ∀ j k H, W1 j k H →
      (J1.stop j H ∧ Nx H) ∨ (J1.go j H ∧ ∃ Nx1 : Hp → Prop, (∀ H', Nx1 H' → ∃ k', k' < k ∧ W1 (j + 1) k' H') ∧ ∀ x H', J1.yld j H x H' → g1 x (wipe σ2 vs1) H' fun σ3 H5 => wipe σ3 vs1 = wipe σ2 vs1 ∧ tt1 σ3 H5 fun b H6 =>
        if b = true then te σ3 H6 fun y H7 => ∃ t, H7 D = some (SO D t) ∧ Pre y t H7 ∧ ∀ t', Post y t t' H7 → Nx1 (upd H7 D (SO D t')) else Nx1 H6)
    else Nx H3)
end
section
variable {X : Cx} {τ : Type} {SO : Addr → τ → HO} {t0 : τ} {Pre : V → τ → Hp → Prop} {Post : V → τ → τ → Hp → Prop}
theorem scG_core {pins : List (Addr × Obj)} {s : Shared} {σ : L2.St} {H : Hp} {Q : VK} {elt tg iter : Expr} {ifs : List Expr} {scope : Scope} {own : List (Str × Nat)} {pos pos' : Pos} {wi : TI} {g : TG} {tt : TT} {te : TE} {use : Option (Value → Sem Unit)} {Qf : Value → Shared → Prop}
    (hc : X.calm = true) (hN : X.N.Nodup) (I : Inv X pins σ H s) (hi : PI X tg iter wi) (ok : BlkOk X.N X.env.scope scope own)
    (hg : ∀ (s : Shared) (H : Hp) (C : Addr) (cl : List (Str × Addr)) (fp : List Addr), PG (X.blk s H scope (compEnvC scope cl C X.env) fp) tg g) (ht : ∀ (s : Shared) (H : Hp) (C : Addr) (cl : List (Str × Addr)) (fp : List Addr), PTs (X.blk s H scope (compEnvC scope cl C X.env) fp) ifs tt)
    (he : ∀ (s : Shared) (H : Hp) (C : Addr) (cl : List (Str × Addr)) (fp : List Addr), PE (X.blk s H scope (compEnvC scope cl C X.env) fp) elt te) (hs : ∀ x, foldedSetIterable iter X.env x = pure x)
    (R : SetRep X τ SO t0 Pre Post) (h : tScG SO t0 Pre Post wi g tt te (own.map (·.2)) σ H Q)
    (hRR : ∀ D C s' m H', Inv X pins σ H' s' → Q (.ref D) H' → s'.heap.Ns C m → FpOk X pins H' C → compPost (model X.prog X.w) X.A X.xe use Qf (.ref D) C (.ok .next) s') :
    wpAny (model X.prog X.w) X.A (comprehension (.SetComp elt [⟨tg, iter, ifs, 0⟩] scope pos) scope X.env pos' (newSet (.type "set")) false (eval iter X.env) use) Qf X.xe s := by
  have hfree : ∀ y ∈ scope.names, y.2 = .free → ∃ c, X.env.cells.lookup y.1 = some c := fun y hy e => by
    rcases ok.free y hy e with k | k
    · exact I.ok.has _ (.inl k)
    · exact I.ok.has _ (.inr k)
  refine wpAny_comprehension_free (use := use) rfl hs (closure_ok hfree) ok.kind (fun y hy e => by rw [ok.uniq y hy, e])
    (thn (hi.run pins s σ H _ I h) fun xv s1 hx => thn hx fun itv s2 h2 => ?_)
  obtain ⟨it, fp, tn, J, H2, e, I2, T, st2, f2, q⟩ := h2
  subst e
  refine PpSet.newSet_ok (newEnv_comp ?_)
  generalize hD : s2.heap.objs.size = D
  have hDn : H2 D = none := I2.hok.fresh (Nat.le_of_eq hD)
  obtain ⟨W, ⟨m0, w0⟩, turn⟩ := q D hDn
  -- the new list
  generalize hs3 : ({ s2 with heap := s2.heap.push { cls := .type "set", dict := none, data := .set #[] 0 (.fresh 0 0 (!X.w.params.followText "set-order")) } } : Shared) = s3
  have I3 : Inv X pins σ (upd H2 D (SO D t0)) s3 := by
    rw [← hs3]
    refine I2.laid (t' := s2.toks) (fun b o e => Heap.get?_push_of_some _ e) (Nat.le_of_eq hD) ?_
    rw [← hD]
    exact R.new _ _
  have h3 : s3.heap = s2.heap.push { cls := .type "set", dict := none, data := .set #[] 0 (.fresh 0 0 (!X.w.params.followText "set-order")) } := by rw [← hs3]
  have sz : ∀ b ∈ fp, b < s2.heap.objs.size := fun b hb => by
    obtain ⟨o, e, _⟩ := T.obj _ _ st2 b hb
    exact Heap.lt_size e
  have f3 : ∀ b ∈ fp, FpOk X pins (upd H2 D (SO D t0)) b ∧ b < s3.heap.objs.size := fun b hb => by
    have hlt := sz b hb
    refine ⟨⟨?_, (f2 b hb).2⟩, by rw [h3, Heap.size_push]; exact Nat.lt_succ_of_lt hlt⟩
    rw [upd_ne (by rw [← hD]; exact Nat.ne_of_lt hlt)]
    exact (f2 b hb).1
  have st3 : tn 0 s3.heap := T.keep _ _ _ st2 fun b _ o e => by rw [h3]; exact Heap.get?_push_of_some _ e
  have I4 := block_start I3 ok hN f3
  have pg := hg s3 (upd H2 D (SO D t0)) s3.heap.objs.size (cellsFrom (s3.heap.objs.size + 1) scope.names (cloFrom X.env.cells scope.names [])) fp
  have pt := ht s3 (upd H2 D (SO D t0)) s3.heap.objs.size (cellsFrom (s3.heap.objs.size + 1) scope.names (cloFrom X.env.cells scope.names [])) fp
  have pe := he s3 (upd H2 D (SO D t0)) s3.heap.objs.size (cellsFrom (s3.heap.objs.size + 1) scope.names (cloFrom X.env.cells scope.names [])) fp
  show codeAny _ _ (.compStart (.SetComp elt [⟨tg, iter, ifs, 0⟩] scope pos) 0 (.ref it) (.ref D) (compEnvC scope (cellsFrom (s3.heap.objs.size + 1) scope.names (cloFrom X.env.cells scope.names [])) s3.heap.objs.size X.env)) (compPost (model X.prog X.w) X.A X.xe use Qf (.ref D) s3.heap.objs.size) { s3 with heap := pushCells (s3.heap.push { cls := .type "dict", data := .dict #[] }) scope.names }
  have nfp : ∀ b ∈ fp, (upd H2 D (SO D t0)) b = none := fun b hb => (f3 b hb).1.1
  generalize hce : compEnvC scope (cellsFrom (s3.heap.objs.size + 1) scope.names (cloFrom X.env.cells scope.names [])) s3.heap.objs.size X.env = ce at I4 pg pt pe ⊢
  have cL : ce.locals = s3.heap.objs.size := by subst hce; rfl
  generalize hH3 : upd H2 D (SO D t0) = H3 at I3 I4 pg pt pe w0 nfp f3
  generalize hs4 : ({ s3 with heap := pushCells (s3.heap.push { cls := .type "dict", data := .dict #[] }) scope.names } : Shared) = s4 at I4 ⊢
  have st4 : tn 0 s4.heap := T.keep _ _ _ st3 fun b _ o e => by rw [← hs4]; exact pushCells_keeps _ _ _ _ (Heap.get?_push_of_some _ e)
  have stat : ∀ {σ' : L2.St} {H' : Hp} {s' : Shared}, Inv (X.blk s3 H3 scope ce fp) [] σ' H' s' → (∀ b ∈ fp, H' b = none) → ∀ b ∈ fp, FpOk (X.blk s3 H3 scope ce fp) [] H' b := fun {σ' H' s'} I' hn b hb =>
    ⟨hn b hb, (I'.ok.exf b hb).1, I'.ok.exfs b hb, .inl hb, fun x c e => (I'.ok.exf b hb).2 x c e, fun p hp => absurd (show p ∈ ([] : List (Addr × Obj)) ++ [] from hp) (by simp)⟩
  have loop : codeAny (model X.prog X.w) X.A (.compLoop (.SetComp elt [⟨tg, iter, ifs, 0⟩] scope pos) 0 (.ref it) (.ref D) ce) (compPost (model X.prog X.w) X.A X.xe use Qf (.ref D) s3.heap.objs.size) s4 := by
    refine PpSet.compLoopS_any (fun n s' => ∃ i H', Inv (X.blk s3 H3 scope ce fp) [] (wipe σ (own.map (·.2))) H' s' ∧ tn i s'.heap ∧ (∀ b ∈ fp, H' b = none) ∧ W i n H') ?_ m0 ⟨0, H3, I4, st4, nfp, w0⟩
    rintro n s5 ⟨i, H5, I5, st5, n5, w5⟩
    rcases turn i n H5 w5 with ⟨stop, qq⟩ | ⟨go, Nx, hNx, step⟩
    · have td := T.done (X.blk s3 H3 scope ce fp) rfl rfl rfl hc i [] s5 _ H5 (fun _ _ => False) I5 (stat I5 n5) st5 stop
      refine thnF td fun r s6 ⟨hr, I6⟩ => ?_
      subst hr
      -- back in the def's context
      have I7 : Inv X pins σ H5 s6 := I3.call' (ch := fp) I6.os I6.base I6.hok I6.bare fun b hb => ⟨(f3 b hb).1.2.2.2.1, (f3 b hb).1.2.1, (f3 b hb).1.2.2.2.2.1, (f3 b hb).1.2.2.2.2.2⟩
      have nC : H5 s3.heap.objs.size = none := by
        have z : H5 ce.locals = none := I6.free
        rw [cL] at z
        exact z
      obtain ⟨m, hn, _⟩ := I6.loc
      have hn : s6.heap.Ns ce.locals m := hn
      rw [cL] at hn
      exact hRR D s3.heap.objs.size s6 m H5 I7 qq hn (I3.fpOk (Nat.le_refl _) nC)
    · have ti := T.item (X.blk s3 H3 scope ce fp) rfl rfl rfl hc i [] s5 _ H5 (fun _ _ => False) I5 (stat I5 n5) st5 go
      refine thnF ti fun r s6 ⟨u, hr, h6⟩ => ?_
      subst hr
      refine thnF h6 fun _ s7 ⟨x, H7, I7, r7, y7, st7, n7⟩ => ?_
      have I7' := I7.pinned (stat I7 n7) (T.obj _ _ st7)
      refine thnF (pg.run _ s7 _ H7 x u _ I7' r7 (step x H7 y7)) fun _ s8 ⟨σ8, H8, I8, hw8, q8⟩ => ?_
      refine thnF (pt.run _ s8 σ8 H8 _ I8 q8) fun b s9 ⟨H9, I9, q9⟩ => ?_
      -- the turn's end
      have fin : ∀ {s' : Shared} {H' : Hp}, Inv (X.blk s3 H3 scope ce fp) ([] ++ pinsAt fp s7.heap) σ8 H' s' → Nx H' → ∃ m, m < n ∧ ∃ i H', Inv (X.blk s3 H3 scope ce fp) [] (wipe σ (own.map (·.2))) H' s' ∧ tn i s'.heap ∧ (∀ b ∈ fp, H' b = none) ∧ W i m H' := fun {s' H'} I' nx => by
        obtain ⟨m', hm, w'⟩ := hNx H' nx
        have pin' : ∀ b ∈ fp, ∀ o, s7.heap.get? b = some o → s'.heap.get? b = some o ∧ H' b = none := fun b hb o e =>
          let z := I'.pin (b, o) (List.mem_append_right _ (List.mem_append_right _ (mem_pinsAt hb e)))
          ⟨z.1, z.2.1⟩
        have hl : (wipe σ (own.map (·.2))).length = σ8.length := by rw [← hw8, wipe_length]
        refine ⟨m', hm, i + 1, H', (I'.unpinned (pins := [])).weak hl (fun j v e => ?_), T.keep _ _ _ st7 fun b hb o e => (pin' b hb o e).1, fun b hb => ?_, w'⟩
        · rw [← hw8] at e
          exact (wipe_some e).1
        · obtain ⟨o, e, _⟩ := T.obj _ _ st7 b hb
          exact (pin' b hb o e).2
      cases b with
      | false =>
        simp only [Bool.false_eq_true, if_false] at q9 ⊢
        exact fin I9 q9
      | true =>
        simp only [if_true] at q9 ⊢
        refine thnF (pe.run _ s9 σ8 H9 _ I9 q9) fun z s10 ⟨yv, H10, I10, r10, ts, hD10, pre10, nx⟩ => ?_
        exact R.add (X.blk s3 H3 scope ce fp) rfl rfl rfl rfl _ _ _ _ _ D ts yv z _ I10 hD10 r10 pre10 fun t' s11 u ps I11 => fin I11 (nx t' ps)
  exact PpSet.codeAny_compStart_set loop (T.self X.A 0 _ _ _ st4 loop)
theorem sc2G_core {pins : List (Addr × Obj)} {s : Shared} {σ : L2.St} {H : Hp} {Q : VK} {elt tg iter tg1 iter1 : Expr} {ifs ifs1 : List Expr} {scope : Scope} {own : List (Str × Nat)} {vs1 : List Nat} {pos pos' : Pos} {wi wi1 : TI} {g g1 : TG} {tt tt1 : TT} {te : TE} {use : Option (Value → Sem Unit)} {Qf : Value → Shared → Prop}
    (hc : X.calm = true) (hN : X.N.Nodup) (I : Inv X pins σ H s) (hi : PI X tg iter wi) (ok : BlkOk X.N X.env.scope scope own) (hv : ∀ i ∈ vs1, i ∈ own.map (·.2))
    (hg : ∀ (s : Shared) (H : Hp) (C : Addr) (cl : List (Str × Addr)) (fp : List Addr), PG (X.blk s H scope (compEnvC scope cl C X.env) fp) tg g) (ht : ∀ (s : Shared) (H : Hp) (C : Addr) (cl : List (Str × Addr)) (fp : List Addr), PTs (X.blk s H scope (compEnvC scope cl C X.env) fp) ifs tt)
    (he : ∀ (s : Shared) (H : Hp) (C : Addr) (cl : List (Str × Addr)) (fp : List Addr), PE (X.blk s H scope (compEnvC scope cl C X.env) fp) elt te) (hs : ∀ x, foldedSetIterable iter X.env x = pure x)
    (hi1 : ∀ (s : Shared) (H : Hp) (C : Addr) (cl : List (Str × Addr)) (fp : List Addr), PI (X.blk s H scope (compEnvC scope cl C X.env) fp) tg1 iter1 wi1)
    (hg1 : ∀ (s : Shared) (H : Hp) (C : Addr) (cl : List (Str × Addr)) (fp : List Addr), PG (X.blk s H scope (compEnvC scope cl C X.env) fp) tg1 g1)
    (ht1 : ∀ (s : Shared) (H : Hp) (C : Addr) (cl : List (Str × Addr)) (fp : List Addr), PTs (X.blk s H scope (compEnvC scope cl C X.env) fp) ifs1 tt1)
    (hs1 : ∀ env x, foldedSetIterable iter1 env x = pure x)
    (R : SetRep X τ SO t0 Pre Post) (h : tSc2G SO t0 Pre Post wi g tt wi1 g1 tt1 te (own.map (·.2)) vs1 σ H Q)
    (hRR : ∀ D C s' m H', Inv X pins σ H' s' → Q (.ref D) H' → s'.heap.Ns C m → FpOk X pins H' C → compPost (model X.prog X.w) X.A X.xe use Qf (.ref D) C (.ok .next) s') :
    wpAny (model X.prog X.w) X.A (comprehension (.SetComp elt [⟨tg, iter, ifs, 0⟩, ⟨tg1, iter1, ifs1, 0⟩] scope pos) scope X.env pos' (newSet (.type "set")) false (eval iter X.env) use) Qf X.xe s := by
  have hfree : ∀ y ∈ scope.names, y.2 = .free → ∃ c, X.env.cells.lookup y.1 = some c := fun y hy e => by
    rcases ok.free y hy e with k | k
    · exact I.ok.has _ (.inl k)
    · exact I.ok.has _ (.inr k)
  refine wpAny_comprehension_free (use := use) rfl hs (closure_ok hfree) ok.kind (fun y hy e => by rw [ok.uniq y hy, e])
    (thn (hi.run pins s σ H _ I h) fun xv s1 hx => thn hx fun itv s2 h2 => ?_)
  obtain ⟨it, fp, tn, J, H2, e, I2, T, st2, f2, q⟩ := h2
  subst e
  refine PpSet.newSet_ok (newEnv_comp ?_)
  generalize hD : s2.heap.objs.size = D
  have hDn : H2 D = none := I2.hok.fresh (Nat.le_of_eq hD)
  obtain ⟨W, ⟨m0, w0⟩, turn⟩ := q D hDn
  -- the new list
  generalize hs3 : ({ s2 with heap := s2.heap.push { cls := .type "set", dict := none, data := .set #[] 0 (.fresh 0 0 (!X.w.params.followText "set-order")) } } : Shared) = s3
  have I3 : Inv X pins σ (upd H2 D (SO D t0)) s3 := by
    rw [← hs3]
    refine I2.laid (t' := s2.toks) (fun b o e => Heap.get?_push_of_some _ e) (Nat.le_of_eq hD) ?_
    rw [← hD]
    exact R.new _ _
  have h3 : s3.heap = s2.heap.push { cls := .type "set", dict := none, data := .set #[] 0 (.fresh 0 0 (!X.w.params.followText "set-order")) } := by rw [← hs3]
  have sz : ∀ b ∈ fp, b < s2.heap.objs.size := fun b hb => by
    obtain ⟨o, e, _⟩ := T.obj _ _ st2 b hb
    exact Heap.lt_size e
  have f3 : ∀ b ∈ fp, FpOk X pins (upd H2 D (SO D t0)) b ∧ b < s3.heap.objs.size := fun b hb => by
    have hlt := sz b hb
    refine ⟨⟨?_, (f2 b hb).2⟩, by rw [h3, Heap.size_push]; exact Nat.lt_succ_of_lt hlt⟩
    rw [upd_ne (by rw [← hD]; exact Nat.ne_of_lt hlt)]
    exact (f2 b hb).1
  have st3 : tn 0 s3.heap := T.keep _ _ _ st2 fun b _ o e => by rw [h3]; exact Heap.get?_push_of_some _ e
  have I4 := block_start I3 ok hN f3
  have pg := hg s3 (upd H2 D (SO D t0)) s3.heap.objs.size (cellsFrom (s3.heap.objs.size + 1) scope.names (cloFrom X.env.cells scope.names [])) fp
  have pt := ht s3 (upd H2 D (SO D t0)) s3.heap.objs.size (cellsFrom (s3.heap.objs.size + 1) scope.names (cloFrom X.env.cells scope.names [])) fp
  have pe := he s3 (upd H2 D (SO D t0)) s3.heap.objs.size (cellsFrom (s3.heap.objs.size + 1) scope.names (cloFrom X.env.cells scope.names [])) fp
  have pi1 := hi1 s3 (upd H2 D (SO D t0)) s3.heap.objs.size (cellsFrom (s3.heap.objs.size + 1) scope.names (cloFrom X.env.cells scope.names [])) fp
  have pg1 := hg1 s3 (upd H2 D (SO D t0)) s3.heap.objs.size (cellsFrom (s3.heap.objs.size + 1) scope.names (cloFrom X.env.cells scope.names [])) fp
  have pt1 := ht1 s3 (upd H2 D (SO D t0)) s3.heap.objs.size (cellsFrom (s3.heap.objs.size + 1) scope.names (cloFrom X.env.cells scope.names [])) fp
  show codeAny _ _ (.compStart (.SetComp elt [⟨tg, iter, ifs, 0⟩, ⟨tg1, iter1, ifs1, 0⟩] scope pos) 0 (.ref it) (.ref D) (compEnvC scope (cellsFrom (s3.heap.objs.size + 1) scope.names (cloFrom X.env.cells scope.names [])) s3.heap.objs.size X.env)) (compPost (model X.prog X.w) X.A X.xe use Qf (.ref D) s3.heap.objs.size) { s3 with heap := pushCells (s3.heap.push { cls := .type "dict", data := .dict #[] }) scope.names }
  have nfp : ∀ b ∈ fp, (upd H2 D (SO D t0)) b = none := fun b hb => (f3 b hb).1.1
  generalize hce : compEnvC scope (cellsFrom (s3.heap.objs.size + 1) scope.names (cloFrom X.env.cells scope.names [])) s3.heap.objs.size X.env = ce at I4 pg pt pe pi1 pg1 pt1 ⊢
  have cL : ce.locals = s3.heap.objs.size := by subst hce; rfl
  generalize hH3 : upd H2 D (SO D t0) = H3 at I3 I4 pg pt pe pi1 pg1 pt1 w0 nfp f3
  generalize hs4 : ({ s3 with heap := pushCells (s3.heap.push { cls := .type "dict", data := .dict #[] }) scope.names } : Shared) = s4 at I4 ⊢
  have st4 : tn 0 s4.heap := T.keep _ _ _ st3 fun b _ o e => by rw [← hs4]; exact pushCells_keeps _ _ _ _ (Heap.get?_push_of_some _ e)
  have stat : ∀ {σ' : L2.St} {H' : Hp} {s' : Shared}, Inv (X.blk s3 H3 scope ce fp) [] σ' H' s' → (∀ b ∈ fp, H' b = none) → ∀ b ∈ fp, FpOk (X.blk s3 H3 scope ce fp) [] H' b := fun {σ' H' s'} I' hn b hb =>
    ⟨hn b hb, (I'.ok.exf b hb).1, I'.ok.exfs b hb, .inl hb, fun x c e => (I'.ok.exf b hb).2 x c e, fun p hp => absurd (show p ∈ ([] : List (Addr × Obj)) ++ [] from hp) (by simp)⟩
  have loop : codeAny (model X.prog X.w) X.A (.compLoop (.SetComp elt [⟨tg, iter, ifs, 0⟩, ⟨tg1, iter1, ifs1, 0⟩] scope pos) 0 (.ref it) (.ref D) ce) (compPost (model X.prog X.w) X.A X.xe use Qf (.ref D) s3.heap.objs.size) s4 := by
    refine scLoop2_out (hs1 ce) (fun n s' => ∃ i H', Inv (X.blk s3 H3 scope ce fp) [] (wipe σ (own.map (·.2))) H' s' ∧ tn i s'.heap ∧ (∀ b ∈ fp, H' b = none) ∧ W i n H') ?_ m0 ⟨0, H3, I4, st4, nfp, w0⟩
    rintro n s5 ⟨i, H5, I5, st5, n5, w5⟩
    rcases turn i n H5 w5 with ⟨stop, qq⟩ | ⟨go, Nx, hNx, step⟩
    · have td := T.done (X.blk s3 H3 scope ce fp) rfl rfl rfl hc i [] s5 _ H5 (fun _ _ => False) I5 (stat I5 n5) st5 stop
      refine thnF td fun r s6 ⟨hr, I6⟩ => ?_
      subst hr
      -- back in the def's context
      have I7 : Inv X pins σ H5 s6 := I3.call' (ch := fp) I6.os I6.base I6.hok I6.bare fun b hb => ⟨(f3 b hb).1.2.2.2.1, (f3 b hb).1.2.1, (f3 b hb).1.2.2.2.2.1, (f3 b hb).1.2.2.2.2.2⟩
      have nC : H5 s3.heap.objs.size = none := by
        have z : H5 ce.locals = none := I6.free
        rw [cL] at z
        exact z
      obtain ⟨m, hn, _⟩ := I6.loc
      have hn : s6.heap.Ns ce.locals m := hn
      rw [cL] at hn
      exact hRR D s3.heap.objs.size s6 m H5 I7 qq hn (I3.fpOk (Nat.le_refl _) nC)
    · have ti := T.item (X.blk s3 H3 scope ce fp) rfl rfl rfl hc i [] s5 _ H5 (fun _ _ => False) I5 (stat I5 n5) st5 go
      refine thnF ti fun r s6 ⟨u, hr, h6⟩ => ?_
      subst hr
      refine thnF h6 fun _ s7 ⟨x, H7, I7, r7, y7, st7, n7⟩ => ?_
      have I7' := I7.pinned (stat I7 n7) (T.obj _ _ st7)
      refine thnF (pg.run _ s7 _ H7 x u _ I7' r7 (step x H7 y7)) fun _ s8 ⟨σ8, H8, I8, hw8, q8⟩ => ?_
      refine thnF (pt.run _ s8 σ8 H8 _ I8 q8) fun b s9 ⟨H9, I9, q9⟩ => ?_
      -- the turn's end, from any slots that know what the block knew at its start
      have fin : ∀ {σ9 : L2.St} {s' : Shared} {H' : Hp}, Inv (X.blk s3 H3 scope ce fp) ([] ++ pinsAt fp s7.heap) σ9 H' s' → (wipe σ (own.map (·.2))).length = σ9.length → (∀ (j : Nat) v, (wipe σ (own.map (·.2)))[j]? = some (some v) → σ9[j]? = some (some v)) → Nx H' →
          ∃ m, m < n ∧ ∃ i H', Inv (X.blk s3 H3 scope ce fp) [] (wipe σ (own.map (·.2))) H' s' ∧ tn i s'.heap ∧ (∀ b ∈ fp, H' b = none) ∧ W i m H' := fun {σ9 s' H'} I' hl hk nx => by
        obtain ⟨m', hm, w'⟩ := hNx H' nx
        have pin' : ∀ b ∈ fp, ∀ o, s7.heap.get? b = some o → s'.heap.get? b = some o ∧ H' b = none := fun b hb o e =>
          let z := I'.pin (b, o) (List.mem_append_right _ (List.mem_append_right _ (mem_pinsAt hb e)))
          ⟨z.1, z.2.1⟩
        refine ⟨m', hm, i + 1, H', (I'.unpinned (pins := [])).weak hl hk, T.keep _ _ _ st7 fun b hb o e => (pin' b hb o e).1, fun b hb => ?_, w'⟩
        obtain ⟨o, e, _⟩ := T.obj _ _ st7 b hb
        exact (pin' b hb o e).2
      have hl8 : (wipe σ (own.map (·.2))).length = σ8.length := by rw [← hw8, wipe_length]
      have hk8 : ∀ (j : Nat) v, (wipe σ (own.map (·.2)))[j]? = some (some v) → σ8[j]? = some (some v) := fun j v e => by
        rw [← hw8] at e
        exact (wipe_some e).1
      have hk9 : ∀ (j : Nat) v, (wipe σ (own.map (·.2)))[j]? = some (some v) → (wipe σ8 vs1)[j]? = some (some v) := fun j v e => by
        rw [← hw8] at e
        obtain ⟨e1, e2⟩ := wipe_some e
        rw [wipe_out fun z => e2 (hv j z)]
        exact e1
      cases b with
      | false =>
        simp only [Bool.false_eq_true, if_false] at q9 ⊢
        exact fin I9 hl8 hk8 q9
      | true =>
        simp only [if_true] at q9 ⊢
        refine thnF (pi1.run _ s9 σ8 H9 _ I9 q9) fun xv s10 hx => thnF hx fun itv s11 h11 => ?_
        obtain ⟨it1, fp1, tn1, J1, H11, e1, I11, T1, st11, f11, W1, ⟨m1, w1⟩, turn1⟩ := h11
        subst e1
        -- the inner loop
        have stat1 : ∀ {H' : Hp}, (∀ b ∈ fp1, H' b = none) → ∀ b ∈ fp1, FpOk (X.blk s3 H3 scope ce fp) ([] ++ pinsAt fp s7.heap) H' b := fun hn b hb => ⟨hn b hb, (f11 b hb).2⟩
        have loop1 : codeAny (model X.prog X.w) X.A (.compLoop (.SetComp elt [⟨tg, iter, ifs, 0⟩, ⟨tg1, iter1, ifs1, 0⟩] scope pos) 1 (.ref it1) (.ref D) ce)
            (fun r s' => match r with
              | .ok _ => ∃ m, m < n ∧ ∃ i H', Inv (X.blk s3 H3 scope ce fp) [] (wipe σ (own.map (·.2))) H' s' ∧ tn i s'.heap ∧ (∀ b ∈ fp, H' b = none) ∧ W i m H'
              | .error _ => False) s11 := by
          refine scLoop2_in (fun k s' => ∃ j H', Inv (X.blk s3 H3 scope ce fp) ([] ++ pinsAt fp s7.heap) (wipe σ8 vs1) H' s' ∧ tn1 j s'.heap ∧ (∀ b ∈ fp1, H' b = none) ∧ W1 j k H') ?_ m1 ⟨0, H11, I11.weak (wipe_length _ _) (fun j v e => (wipe_some e).1), st11, fun b hb => (f11 b hb).1, w1⟩
          rintro k s12 ⟨j, H12, I12, st12, n12, w12⟩
          rcases turn1 j k H12 w12 with ⟨stop1, nx1⟩ | ⟨go1, Nx1, hNx1, step1⟩
          · refine thnF (T1.done (X.blk s3 H3 scope ce fp) rfl rfl rfl hc j _ s12 (wipe σ8 vs1) H12 (fun _ _ => False) I12 (stat1 n12) st12 stop1) fun r s13 ⟨hr, I13⟩ => ?_
            subst hr
            exact fin I13 (hl8.trans (wipe_length σ8 vs1).symm) hk9 nx1
          · refine thnF (T1.item (X.blk s3 H3 scope ce fp) rfl rfl rfl hc j _ s12 (wipe σ8 vs1) H12 (fun _ _ => False) I12 (stat1 n12) st12 go1) fun r s13 ⟨u1, hr, h13⟩ => ?_
            subst hr
            refine thnF h13 fun _ s14 ⟨x1, H14, I14, r14, y14, st14, n14⟩ => ?_
            have I14' := I14.pinned (stat1 n14) (T1.obj _ _ st14)
            refine thnF (pg1.run _ s14 (wipe σ8 vs1) H14 x1 u1 _ I14' r14 (step1 x1 H14 y14)) fun _ s15 ⟨σ15, H15, I15, hw15, q15⟩ => ?_
            refine thnF (pt1.run _ s15 σ15 H15 _ I15 q15) fun b1 s16 ⟨H16, I16, q16⟩ => ?_
            have fin1 : ∀ {s' : Shared} {H' : Hp}, Inv (X.blk s3 H3 scope ce fp) (([] ++ pinsAt fp s7.heap) ++ pinsAt fp1 s14.heap) σ15 H' s' → Nx1 H' → ∃ m, m < k ∧ ∃ j H', Inv (X.blk s3 H3 scope ce fp) ([] ++ pinsAt fp s7.heap) (wipe σ8 vs1) H' s' ∧ tn1 j s'.heap ∧ (∀ b ∈ fp1, H' b = none) ∧ W1 j m H' := fun {s' H'} I' nx => by
              obtain ⟨m', hm, w'⟩ := hNx1 H' nx
              have pin' : ∀ b ∈ fp1, ∀ o, s14.heap.get? b = some o → s'.heap.get? b = some o ∧ H' b = none := fun b hb o e =>
                let z := I'.pin (b, o) (List.mem_append_right _ (List.mem_append_right _ (mem_pinsAt hb e)))
                ⟨z.1, z.2.1⟩
              refine ⟨m', hm, j + 1, H', I'.unpinned.weak (by rw [← hw15, wipe_length]) (fun j v e => by rw [← hw15] at e; exact (wipe_some e).1), T1.keep _ _ _ st14 fun b hb o e => (pin' b hb o e).1, fun b hb => ?_, w'⟩
              obtain ⟨o, e, _⟩ := T1.obj _ _ st14 b hb
              exact (pin' b hb o e).2
            cases b1 with
            | false =>
              simp only [Bool.false_eq_true, if_false] at q16 ⊢
              exact fin1 I16 q16
            | true =>
              simp only [if_true] at q16 ⊢
              refine thnF (pe.run _ s16 σ15 H16 _ I16 q16) fun z s17 ⟨yv, H17, I17, r17, ts, hD17, pre17, nx⟩ => ?_
              exact R.add (X.blk s3 H3 scope ce fp) rfl rfl rfl rfl _ _ _ _ _ D ts yv z _ I17 hD17 r17 pre17 fun t' s18 u ps I18 => fin1 I18 (nx t' ps)
        exact scStart1_ok loop1 (T1.self X.A 0 _ _ _ st11 loop1)
  exact PpSet.codeAny_compStart_set loop (T.self X.A 0 _ _ _ st4 loop)

theorem pe_scG {elt tg iter : Expr} {ifs : List Expr} {scope : Scope} {own : List (Str × Nat)} {pos : Pos} {wi : TI} {g : TG} {tt : TT} {te : TE} (R : SetRep X τ SO t0 Pre Post) (hc : X.calm = true) (hN : X.N.Nodup) (hi : PI X tg iter wi) (ok : BlkOk X.N X.env.scope scope own)
    (hg : ∀ (s : Shared) (H : Hp) (C : Addr) (cl : List (Str × Addr)) (fp : List Addr), PG (X.blk s H scope (compEnvC scope cl C X.env) fp) tg g) (ht : ∀ (s : Shared) (H : Hp) (C : Addr) (cl : List (Str × Addr)) (fp : List Addr), PTs (X.blk s H scope (compEnvC scope cl C X.env) fp) ifs tt)
    (he : ∀ (s : Shared) (H : Hp) (C : Addr) (cl : List (Str × Addr)) (fp : List Addr), PE (X.blk s H scope (compEnvC scope cl C X.env) fp) elt te) (hs : ∀ x, foldedSetIterable iter X.env x = pure x := by intro _; rfl) :
    PE X (.SetComp elt [⟨tg, iter, ifs, 0⟩] scope pos) (tScG SO t0 Pre Post wi g tt te (own.map (·.2))) := by
  refine ⟨fun pins s σ H Q I h => ?_⟩
  rw [PpSet.eval_SetComp]
  refine scG_core hc hN I hi ok hg ht he hs R h fun D C s' m H' I' q hn f => ⟨m, hn, fun h2 sb => ?_⟩
  obtain ⟨f0, f1, f2, f3, f4, f5⟩ := f
  exact ⟨.ref D, H', I'.turned (t' := s'.toks) (fun b o hb e => (sb.2 b hb).trans e) f0 f1 f3 f4 f5, rfl, q⟩
theorem pe_sc2G {elt tg iter tg1 iter1 : Expr} {ifs ifs1 : List Expr} {scope : Scope} {own : List (Str × Nat)} {vs1 : List Nat} {pos : Pos} {wi wi1 : TI} {g g1 : TG} {tt tt1 : TT} {te : TE} (R : SetRep X τ SO t0 Pre Post) (hc : X.calm = true) (hN : X.N.Nodup) (hi : PI X tg iter wi) (ok : BlkOk X.N X.env.scope scope own) (hv : ∀ i ∈ vs1, i ∈ own.map (·.2))
    (hg : ∀ (s : Shared) (H : Hp) (C : Addr) (cl : List (Str × Addr)) (fp : List Addr), PG (X.blk s H scope (compEnvC scope cl C X.env) fp) tg g) (ht : ∀ (s : Shared) (H : Hp) (C : Addr) (cl : List (Str × Addr)) (fp : List Addr), PTs (X.blk s H scope (compEnvC scope cl C X.env) fp) ifs tt)
    (hi1 : ∀ (s : Shared) (H : Hp) (C : Addr) (cl : List (Str × Addr)) (fp : List Addr), PI (X.blk s H scope (compEnvC scope cl C X.env) fp) tg1 iter1 wi1)
    (hg1 : ∀ (s : Shared) (H : Hp) (C : Addr) (cl : List (Str × Addr)) (fp : List Addr), PG (X.blk s H scope (compEnvC scope cl C X.env) fp) tg1 g1) (ht1 : ∀ (s : Shared) (H : Hp) (C : Addr) (cl : List (Str × Addr)) (fp : List Addr), PTs (X.blk s H scope (compEnvC scope cl C X.env) fp) ifs1 tt1)
    (he : ∀ (s : Shared) (H : Hp) (C : Addr) (cl : List (Str × Addr)) (fp : List Addr), PE (X.blk s H scope (compEnvC scope cl C X.env) fp) elt te) (hs : ∀ x, foldedSetIterable iter X.env x = pure x := by intro _; rfl) (hs1 : ∀ env x, foldedSetIterable iter1 env x = pure x := by intro _ _; rfl) :
    PE X (.SetComp elt [⟨tg, iter, ifs, 0⟩, ⟨tg1, iter1, ifs1, 0⟩] scope pos) (tSc2G SO t0 Pre Post wi g tt wi1 g1 tt1 te (own.map (·.2)) vs1) := by
  refine ⟨fun pins s σ H Q I h => ?_⟩
  rw [PpSet.eval_SetComp]
  refine sc2G_core hc hN I hi ok hv hg ht he hs hi1 hg1 ht1 hs1 R h fun D C s' m H' I' q hn f => ⟨m, hn, fun h2 sb => ?_⟩
  obtain ⟨f0, f1, f2, f3, f4, f5⟩ := f
  exact ⟨.ref D, H', I'.turned (t' := s'.toks) (fun b o hb e => (sb.2 b hb).trans e) f0 f1 f3 f4 f5, rfl, q⟩
end

end K65
/-! the base of the walks: heaps, what stands in them, calls, comprehensions -/
namespace K65
open PySem PySem.Spec PyProof.Rows L2
open Evl (Ex)

/-! ### heaps -/
def notL : HO → Prop
  | .lst _ => False
  | _ => True
/-- all but lists stays -/
def Kp (H H' : Hp) : Prop := ∀ a o, notL o → H a = some o → H' a = some o
/-- all but the list at p stays -/
def Px (p : Addr) (H H' : Hp) : Prop := (∃ xs, H p = some (.lst xs)) ∧ (∃ xs, H' p = some (.lst xs)) ∧ ∀ a o, a ≠ p → H a = some o → H' a = some o
theorem Kp.refl (H : Hp) : Kp H H := fun _ _ _ h => h
theorem Kp.trans {H H1 H2 : Hp} (a : Kp H H1) (b : Kp H1 H2) : Kp H H2 := fun x o n h => b x o n (a x o n h)
theorem kpE {H H' : Hp} (e : Ex H H') : Kp H H' := fun a o _ h => e a o h
theorem kpP {p : Addr} {H H' : Hp} (e : Px p H H') : Kp H H' := fun a o n h => by
  obtain ⟨⟨xs, hx⟩, _, k⟩ := e
  refine k a o (fun q => ?_) h
  subst q
  rw [h] at hx
  cases hx
  exact n
theorem Px.of {p : Addr} {H H' : Hp} (h : ∃ xs, H p = some (.lst xs)) (e : Ex H H') : Px p H H' := ⟨h, by obtain ⟨xs, hx⟩ := h; exact ⟨xs, e p _ hx⟩, fun a o _ q => e a o q⟩
theorem Px.trans {p : Addr} {H H1 H2 : Hp} (a : Px p H H1) (b : Px p H1 H2) : Px p H H2 := ⟨a.1, b.2.1, fun x o n h => b.2.2 x o n (a.2.2 x o n h)⟩
theorem Px.upd {p : Addr} {H : Hp} {xs ys : List V} (h : H p = some (.lst xs)) : Px p H (upd H p (.lst ys)) := ⟨⟨xs, h⟩, ⟨ys, upd_same⟩, fun a o n q => by rw [upd_ne n]; exact q⟩
theorem Px.refl {p : Addr} {H : Hp} (h : ∃ xs, H p = some (.lst xs)) : Px p H H := ⟨h, h, fun _ _ _ q => q⟩
/-- what H did not know may change behind it -/
theorem exPx {p : Addr} {H H1 H2 : Hp} (e : Ex H H1) (n : H p = none) (x : Px p H1 H2) : Ex H H2 := fun a o h => x.2.2 a o (ne_of_none h n) (e a o h)
theorem kp_t {K : PySem.W.Frag} {H H' : Hp} {a : Addr} {xs : List V} (e : Kp H H') (h : SqT K H a xs) : SqT K H' a xs := by
  rcases h with (h | ⟨o, h⟩) | h
  · exact .inl (.inl (e a _ (by trivial) h))
  · exact .inl (.inr ⟨o, e a _ (by trivial) h⟩)
  · exact .inr h
/-- a heap in which D's list is not told -/
theorem ne_new {H : Hp} {p q : Addr} {o : HO} (h : H p = some o) (n : H q = none) : p ≠ q := ne_of_none h n

/-! ### items in order -/
def A2 {α : Type} (R : α → V → Prop) : List α → List V → Prop
  | [], [] => True
  | a :: l, v :: vs => R a v ∧ A2 R l vs
  | _, _ => False
section
variable {α : Type} {R S : α → V → Prop}
theorem A2.len : ∀ {l : List α} {vs : List V}, A2 R l vs → l.length = vs.length
  | [], [], _ => rfl
  | _ :: _, _ :: _, h => congrArg (· + 1) (A2.len h.2)
  | [], _ :: _, h => h.elim
  | _ :: _, [], h => h.elim
theorem A2.mono : ∀ {l : List α} {vs : List V}, (∀ a v, a ∈ l → R a v → S a v) → A2 R l vs → A2 S l vs
  | [], [], _, _ => trivial
  | a :: l, v :: vs, k, h => ⟨k a v (List.mem_cons_self ..) h.1, A2.mono (fun b w hb => k b w (List.mem_cons_of_mem _ hb)) h.2⟩
  | [], _ :: _, _, h => h.elim
  | _ :: _, [], _, h => h.elim
theorem A2.snoc : ∀ {l : List α} {vs : List V} {a : α} {v : V}, A2 R l vs → R a v → A2 R (l ++ [a]) (vs ++ [v])
  | [], [], _, _, _, h => ⟨h, trivial⟩
  | _ :: _, _ :: _, _, _, h, k => ⟨h.1, A2.snoc h.2 k⟩
  | [], _ :: _, _, _, h, _ => h.elim
  | _ :: _, [], _, _, h, _ => h.elim
theorem A2.app : ∀ {l l' : List α} {vs vs' : List V}, A2 R l vs → A2 R l' vs' → A2 R (l ++ l') (vs ++ vs')
  | [], _, [], _, _, h => h
  | _ :: _, _, _ :: _, _, h, k => ⟨h.1, A2.app h.2 k⟩
  | [], _, _ :: _, _, h, _ => h.elim
  | _ :: _, _, [], _, h, _ => h.elim
theorem A2.get : ∀ {l : List α} {vs : List V}, A2 R l vs → ∀ {i : Nat} {v : V}, vs[i]? = some v → ∃ a, l[i]? = some a ∧ R a v
  | [], [], _, i, v, h => by simp at h
  | a :: l, w :: vs, k, 0, v, h => by
    simp only [List.getElem?_cons_zero, Option.some.injEq] at h
    subst h
    exact ⟨a, rfl, k.1⟩
  | a :: l, w :: vs, k, i + 1, v, h => by
    rw [List.getElem?_cons_succ] at h ⊢
    exact A2.get k.2 h
  | [], _ :: _, h, _, _, _ => h.elim
  | _ :: _, [], h, _, _, _ => h.elim
theorem A2.ix : ∀ {l : List α} {vs : List V}, A2 R l vs → ∀ {i : Nat} {a : α}, l[i]? = some a → ∃ v, vs[i]? = some v ∧ R a v
  | [], [], _, i, v, h => by simp at h
  | a :: l, w :: vs, k, 0, v, h => by
    simp only [List.getElem?_cons_zero, Option.some.injEq] at h
    subst h
    exact ⟨w, rfl, k.1⟩
  | a :: l, w :: vs, k, i + 1, v, h => by
    rw [List.getElem?_cons_succ] at h ⊢
    exact A2.ix k.2 h
  | [], _ :: _, h, _, _, _ => h.elim
  | _ :: _, [], h, _, _, _ => h.elim
theorem A2.take : ∀ {l : List α} {vs : List V} (n : Nat), A2 R l vs → A2 R (l.take n) (vs.take n)
  | [], [], n, _ => by simp; trivial
  | a :: l, w :: vs, 0, k => by simp; trivial
  | a :: l, w :: vs, n + 1, k => by
    rw [List.take_succ_cons, List.take_succ_cons]
    exact ⟨k.1, A2.take n k.2⟩
  | [], _ :: _, _, h => h.elim
  | _ :: _, [], _, h => h.elim
theorem A2.drop : ∀ {l : List α} {vs : List V} (n : Nat), A2 R l vs → A2 R (l.drop n) (vs.drop n)
  | [], [], n, _ => by simp; trivial
  | a :: l, w :: vs, 0, k => by simp; exact k
  | a :: l, w :: vs, n + 1, k => by
    rw [List.drop_succ_cons, List.drop_succ_cons]
    exact A2.drop n k.2
  | [], _ :: _, _, h => h.elim
  | _ :: _, [], _, h => h.elim
theorem A2.rev : ∀ {l : List α} {vs : List V}, A2 R l vs → A2 R l.reverse vs.reverse
  | [], [], _ => trivial
  | a :: l, w :: vs, k => by
    rw [List.reverse_cons, List.reverse_cons]
    exact (A2.rev k.2).snoc k.1
  | [], _ :: _, h => h.elim
  | _ :: _, [], h => h.elim
theorem A2.map {β : Type} {f : β → α} : ∀ {l : List β} {vs : List V}, A2 (fun b v => R (f b) v) l vs → A2 R (l.map f) vs
  | [], [], _ => trivial
  | b :: l, w :: vs, k => ⟨k.1, A2.map k.2⟩
  | [], _ :: _, h => h.elim
  | _ :: _, [], h => h.elim
theorem A2.unmap {β : Type} {f : β → α} : ∀ {l : List β} {vs : List V}, A2 R (l.map f) vs → A2 (fun b v => R (f b) v) l vs
  | [], [], _ => trivial
  | b :: l, w :: vs, k => ⟨k.1, A2.unmap k.2⟩
  | [], _ :: _, h => h.elim
  | _ :: _, [], h => h.elim
theorem A2.eqs {f : α → V} : ∀ {l : List α} {vs : List V}, A2 (fun a v => v = f a) l vs → vs = l.map f
  | [], [], _ => rfl
  | a :: l, w :: vs, k => by rw [List.map_cons, ← k.1, ← A2.eqs k.2]
  | [], _ :: _, h => h.elim
  | _ :: _, [], h => h.elim
theorem A2.of_eq {f : α → V} : ∀ (l : List α), (∀ a ∈ l, R a (f a)) → A2 R l (l.map f)
  | [], _ => trivial
  | a :: l, k => ⟨k a (List.mem_cons_self ..), A2.of_eq l fun b hb => k b (List.mem_cons_of_mem _ hb)⟩
/-- told by places -/
theorem A2.by_ix : ∀ {l : List α} {vs : List V}, l.length = vs.length → (∀ (i : Nat) (a : α) (v : V), l[i]? = some a → vs[i]? = some v → R a v) → A2 R l vs
  | [], [], _, _ => trivial
  | a :: l, v :: vs, h, k => ⟨k 0 a v rfl rfl, A2.by_ix (by simpa using h) fun i b w hb hw => k (i + 1) b w (by simpa using hb) (by simpa using hw)⟩
  | [], _ :: _, h, _ => by simp at h
  | _ :: _, [], h, _ => by simp at h
/-- the bools of an all, an any -/
theorem A2.bools {P : α → Prop} : ∀ {l : List α} {vs : List V}, A2 (fun a v => ∃ b : Bool, v = .bl b ∧ (b = true ↔ P a)) l vs → ∃ bs : List Bool, vs = bs.map V.bl ∧ (bs.all id = true ↔ ∀ a ∈ l, P a) ∧ (bs.any id = true ↔ ∃ a ∈ l, P a)
  | [], [], _ => ⟨[], rfl, by simp, by simp⟩
  | a :: l, v :: vs, k => by
    obtain ⟨⟨b, rfl, hb⟩, k2⟩ := k
    obtain ⟨bs, rfl, h1, h2⟩ := A2.bools k2
    refine ⟨b :: bs, rfl, ?_, ?_⟩
    · rw [List.all_cons, Bool.and_eq_true, h1]
      simp only [id, hb, List.mem_cons, forall_eq_or_imp]
    · rw [List.any_cons, Bool.or_eq_true, h2]
      simp only [id, hb, List.mem_cons, exists_eq_or_imp]
  | [], _ :: _, h => h.elim
  | _ :: _, [], h => h.elim
end

/-! ### what stands where -/
def iv (n : Nat) : V := .int (n : Int)
section
/-- a tuple of the naturals ns -/
def Nu (H : Hp) (ns : List Nat) (v : V) : Prop := ∃ a, v = .ref a ∧ H a = some (.tup (ns.map iv))
/-- a tuple of such -/
def Nuu (H : Hp) (rs : List (List Nat)) (v : V) : Prop := ∃ a us, v = .ref a ∧ H a = some (.tup us) ∧ A2 (Nu H) rs us
theorem Nu.mono {H H' : Hp} {ns : List Nat} {v : V} (e : Kp H H') (h : Nu H ns v) : Nu H' ns v := by
  obtain ⟨a, rfl, h⟩ := h
  exact ⟨a, rfl, e a _ trivial h⟩
theorem A2Nu.mono {H H' : Hp} {rs : List (List Nat)} {us : List V} (e : Kp H H') (h : A2 (Nu H) rs us) : A2 (Nu H') rs us := h.mono fun _ _ _ q => q.mono e
theorem Nuu.mono {H H' : Hp} {rs : List (List Nat)} {v : V} (e : Kp H H') (h : Nuu H rs v) : Nuu H' rs v := by
  obtain ⟨a, us, rfl, h, q⟩ := h
  exact ⟨a, us, rfl, e a _ trivial h, A2Nu.mono e q⟩
theorem iv_all {ns : List Nat} : (ns.map iv).all flatV = true := by
  rw [List.all_eq_true]
  intro x hx
  obtain ⟨n, _, rfl⟩ := List.mem_map.mp hx
  rfl
theorem iv_ix {ns : List Nat} {i : Nat} {x : V} (h : (ns.map iv)[i]? = some x) : ∃ n, ns[i]? = some n ∧ x = iv n := by
  rw [List.getElem?_map] at h
  cases q : ns[i]? with
  | none => rw [q] at h; cases h
  | some n => rw [q] at h; exact ⟨n, rfl, (Option.some.inj h).symm⟩
theorem iv_at {ns : List Nat} {i n : Nat} (h : ns[i]? = some n) : (ns.map iv)[i]? = some (iv n) := by rw [List.getElem?_map, h]; rfl
theorem at_n {α : Type} {xs : List α} {i : Nat} {x : α} (h : xs[i]? = some x) : atI xs (i : Int) = some x := by
  unfold atI ixN
  have hl : i < xs.length := (List.getElem?_eq_some_iff.mp h).1
  rw [if_pos (by omega), if_pos (by omega)]
  show xs[(i : Int).toNat]? = some x
  rw [Int.toNat_natCast]
  exact h
theorem ixN_n {n i : Nat} (h : i < n) : ixN n (i : Int) = some i := by
  unfold ixN
  rw [if_pos (by omega), if_pos (by omega), Int.toNat_natCast]
theorem ivs_int {ns : List Nat} : ns.map iv = (ns.map (fun n : Nat => (n : Int))).map V.int := by
  rw [List.map_map]
  rfl
theorem iv_inj {ns ms : List Nat} (h : ns.map iv = ms.map iv) : ns = ms := by
  induction ns generalizing ms with
  | nil => cases ms with
    | nil => rfl
    | cons m ms => simp at h
  | cons n ns ih => cases ms with
    | nil => simp at h
    | cons m ms =>
      rw [List.map_cons, List.map_cons] at h
      obtain ⟨h1, h2⟩ := List.cons.inj h
      have h3 : (n : Int) = (m : Int) := V.int.inj h1
      rw [ih h2, show n = m by omega]
end
theorem sz_le {n : Nat} (h : n ≤ 16000000) : n ≤ sizeLine := Nat.le_trans h (by decide)
theorem sz_lt {n : Nat} (h : n < 16000000) : n < sizeLine := Nat.lt_of_lt_of_le h (by decide)

/-! ### comprehensions: the new list's items stand one by one for what passed the test -/
theorem A2_filter_yes {α : Type} {R : Nat → V → Prop} {f : Nat → Bool} {i : Nat} {ys : List V} {y : V} (hf : f i = true) (h : A2 R ((List.range i).filter f) ys) (k : R i y) : A2 R ((List.range (i + 1)).filter f) (ys ++ [y]) := by
  rw [List.range_succ, List.filter_append, List.filter_cons, if_pos hf]
  exact h.snoc k
theorem filter_no {f : Nat → Bool} {i : Nat} (hf : f i = false) : (List.range (i + 1)).filter f = (List.range i).filter f := by
  rw [List.range_succ, List.filter_append, List.filter_cons, if_neg (by rw [hf]; decide)]
  exact List.append_nil _
/-- the general one: R may speak of the new list's place D -/
theorem lc_gen {J : It} {n : Nat} {G : Hp → Prop} {Y : Nat → Hp → V → Hp → Prop} (w : Walk J n G Y) {g : TG} {tt : TT} {te : TE} {vs : List Nat} {σ : L2.St} {H1 : Hp} {D : Addr} {Qd : Hp → Prop} (hD : H1 D = none) (f : Nat → Bool) (R : Nat → V → Hp → Prop)
    (hn : n < 16000000) (hG : ∀ H, Ex H1 H → G H) (hR : ∀ i y H H', Px D H H' → R i y H → R i y H')
    (hs : ∀ i x H H' (Kt : V → Hp → Prop) (Kf : Hp → Prop), i < n → Ex H1 H → (∃ acc, H D = some (.lst acc)) → Y i H x H' → (∀ y H4, Ex H H4 → f i = true → R i y H4 → Kt y H4) → (∀ H3, Ex H H3 → f i = false → Kf H3) →
      g x (wipe σ vs) H' fun σ2 H2 => wipe σ2 vs = wipe σ vs ∧ tt σ2 H2 fun b H3 => if b = true then te σ2 H3 Kt else Kf H3)
    (hd : ∀ ys H, Ex H1 H → H D = some (.lst ys) → A2 (fun i y => R i y H) ((List.range n).filter f) ys → Qd H) :
    ∃ W : Nat → Nat → Hp → Prop, (∃ m, W 0 m (upd H1 D (.lst []))) ∧ ∀ i m H, W i m H →
      (J.stop i H ∧ Qd H) ∨ (J.go i H ∧ ∃ Nx : Hp → Prop, (∀ H', Nx H' → ∃ m', m' < m ∧ W (i + 1) m' H') ∧ ∀ x H', J.yld i H x H' → g x (wipe σ vs) H' fun σ2 H2 => wipe σ2 vs = wipe σ vs ∧ tt σ2 H2 fun b H3 =>
        if b = true then te σ2 H3 fun y H4 => ∃ acc, H4 D = some (.lst acc) ∧ acc.length < sizeLine ∧ Nx (upd H4 D (.lst (acc ++ [y]))) else Nx H3) := by
  refine lc_it w (fun i H => i ≤ n ∧ Ex H1 H ∧ ∃ ys, H D = some (.lst ys) ∧ A2 (fun i y => R i y H) ((List.range i).filter f) ys) ⟨Nat.zero_le _, Ex.new hD, [], upd_same, trivial⟩ (fun i H _ p => hG H p.2.1) (fun i x H H' hi p y => ?_) (fun H p => ?_)
  · obtain ⟨_, e, ys, hy, a⟩ := p
    refine hs i x H H' _ _ hi e ⟨_, hy⟩ y (fun z H4 e4 hf r => ?_) (fun H3 e3 hf => ?_)
    · have h4 := e4 D _ hy
      have l1 := a.len
      have l2 : ((List.range i).filter f).length ≤ i := by
        have := List.length_filter_le f (List.range i)
        rwa [List.length_range] at this
      refine ⟨ys, h4, sz_lt (by omega), hi, Ex.mut (e.trans e4) hD, ys ++ [z], upd_same, ?_⟩
      have px : Px D H (upd H4 D (.lst (ys ++ [z]))) := (Px.of ⟨_, hy⟩ e4).trans (Px.upd h4)
      exact A2_filter_yes (α := Nat) hf (a.mono fun j v _ q => hR j v _ _ px q) (hR i z _ _ (Px.upd h4) r)
    · refine ⟨hi, e.trans e3, ys, e3 D _ hy, ?_⟩
      rw [filter_no hf]
      exact a.mono fun j v _ q => hR j v _ _ (Px.of ⟨_, hy⟩ e3) q
  · obtain ⟨_, e, ys, hy, a⟩ := p
    exact hd ys H e hy a
/-- no test -/
theorem lc_all {J : It} {n : Nat} {G : Hp → Prop} {Y : Nat → Hp → V → Hp → Prop} (w : Walk J n G Y) {g : TG} {te : TE} {vs : List Nat} {σ : L2.St} {H1 : Hp} {D : Addr} {Qd : Hp → Prop} (hD : H1 D = none) (R : Nat → V → Hp → Prop)
    (hn : n < 16000000) (hG : ∀ H, Ex H1 H → G H) (hR : ∀ i y H H', Px D H H' → R i y H → R i y H')
    (hs : ∀ i x H H' (Kt : V → Hp → Prop), i < n → Ex H1 H → (∃ acc, H D = some (.lst acc)) → Y i H x H' → (∀ y H4, Ex H H4 → R i y H4 → Kt y H4) →
      g x (wipe σ vs) H' fun σ2 H2 => wipe σ2 vs = wipe σ vs ∧ te σ2 H2 Kt)
    (hd : ∀ ys H, Ex H1 H → H D = some (.lst ys) → A2 (fun i y => R i y H) (List.range n) ys → Qd H) :
    ∃ W : Nat → Nat → Hp → Prop, (∃ m, W 0 m (upd H1 D (.lst []))) ∧ ∀ i m H, W i m H →
      (J.stop i H ∧ Qd H) ∨ (J.go i H ∧ ∃ Nx : Hp → Prop, (∀ H', Nx H' → ∃ m', m' < m ∧ W (i + 1) m' H') ∧ ∀ x H', J.yld i H x H' → g x (wipe σ vs) H' fun σ2 H2 => wipe σ2 vs = wipe σ vs ∧ tYes σ2 H2 fun b H3 =>
        if b = true then te σ2 H3 fun y H4 => ∃ acc, H4 D = some (.lst acc) ∧ acc.length < sizeLine ∧ Nx (upd H4 D (.lst (acc ++ [y]))) else Nx H3) := by
  refine lc_it w (fun i H => i ≤ n ∧ Ex H1 H ∧ ∃ ys, H D = some (.lst ys) ∧ A2 (fun i y => R i y H) (List.range i) ys) ⟨Nat.zero_le _, Ex.new hD, [], upd_same, trivial⟩ (fun i H _ p => hG H p.2.1) (fun i x H H' hi p y => ?_) (fun H p => ?_)
  · obtain ⟨_, e, ys, hy, a⟩ := p
    refine hs i x H H' _ hi e ⟨_, hy⟩ y (fun z H4 e4 r => ?_)
    have h4 := e4 D _ hy
    have l1 := a.len
    rw [List.length_range] at l1
    refine ⟨ys, h4, sz_lt (by omega), hi, Ex.mut (e.trans e4) hD, ys ++ [z], upd_same, ?_⟩
    have px : Px D H (upd H4 D (.lst (ys ++ [z]))) := (Px.of ⟨_, hy⟩ e4).trans (Px.upd h4)
    rw [List.range_succ]
    exact (a.mono fun j v _ q => hR j v _ _ px q).snoc (hR i z _ _ (Px.upd h4) r)
  · obtain ⟨_, e, ys, hy, a⟩ := p
    exact hd ys H e hy a
/-- R of what is kept by any change of lists -/
theorem lc_kp {J : It} {n : Nat} {G : Hp → Prop} {Y : Nat → Hp → V → Hp → Prop} (w : Walk J n G Y) {g : TG} {te : TE} {vs : List Nat} {σ : L2.St} {H1 : Hp} {D : Addr} {Qd : Hp → Prop} (hD : H1 D = none) (R : Nat → V → Hp → Prop)
    (hn : n < 16000000) (hG : ∀ H, Ex H1 H → G H) (hR : ∀ i y H H', Kp H H' → R i y H → R i y H')
    (hs : ∀ i x H H' (Kt : V → Hp → Prop), i < n → Ex H1 H → Y i H x H' → (∀ y H4, Ex H H4 → R i y H4 → Kt y H4) → g x (wipe σ vs) H' fun σ2 H2 => wipe σ2 vs = wipe σ vs ∧ te σ2 H2 Kt)
    (hd : ∀ ys H, Ex H1 H → H D = some (.lst ys) → A2 (fun i y => R i y H) (List.range n) ys → Qd H) :
    ∃ W : Nat → Nat → Hp → Prop, (∃ m, W 0 m (upd H1 D (.lst []))) ∧ ∀ i m H, W i m H →
      (J.stop i H ∧ Qd H) ∨ (J.go i H ∧ ∃ Nx : Hp → Prop, (∀ H', Nx H' → ∃ m', m' < m ∧ W (i + 1) m' H') ∧ ∀ x H', J.yld i H x H' → g x (wipe σ vs) H' fun σ2 H2 => wipe σ2 vs = wipe σ vs ∧ tYes σ2 H2 fun b H3 =>
        if b = true then te σ2 H3 fun y H4 => ∃ acc, H4 D = some (.lst acc) ∧ acc.length < sizeLine ∧ Nx (upd H4 D (.lst (acc ++ [y]))) else Nx H3) :=
  lc_all w hD R hn hG (fun i y H H' px => hR i y H H' (kpP px)) (fun i x H H' Kt hi e _ y k => hs i x H H' Kt hi e y k) hd
/-- zip of two tuples -/
theorem walk_zipT {K : PySem.W.Frag} {a b : Addr} {xs ys : List V} {n : Nat} (hn : n = min xs.length ys.length) : Walk (RZ.ItzT K a b) n (fun H => SqT K H a xs ∧ SqT K H b ys) (YPair (fun i => xs[i]?) (fun i => ys[i]?)) := by
  subst hn
  refine ⟨fun i _ hi q => ?_, fun _ q => ⟨xs, ys, q.1, q.2, by omega⟩, fun i H v H' _ q y => ?_⟩
  · have h1 : i < xs.length := by omega
    have h2 : i < ys.length := by omega
    exact ⟨xs, ys, xs[i], ys[i], q.1, q.2, by simp [h1], by simp [h2]⟩
  · obtain ⟨T, x, z, h1, h2, h3, h4, h5⟩ := y
    exact ⟨T, x, z, h1, h2, h3, h4 xs q.1, h5 ys q.2⟩

/-! ### defs and calls -/
/-- the def's text stands at x -/
def Df (K : PySem.W.Frag) (mg : Str → Option Value) (x : Str) (st : Stmt) : Prop := ∃ f fd, Fun K x x st f fd ∧ mg x = some (.ref f)
/-- the def at x keeps sp, by at most level k -/
def Ca (P : Program) (w : World) (K : PySem.W.Frag) (mg : Str → Option Value) (base : Heap) (k : Nat) (x : Str) (ps : List Str) (sp : Sp) : Prop :=
  ∃ f fd, FnOk P w K mg base CX0 k f fd ps sp ∧ mg x = some (.ref f) ∧ PySem.W.keepIn K (.ref f) = true ∧ Binds K fd ps []
section
variable {P : Program} {w : World} {K : PySem.W.Frag} {mg : Str → Option Value} {base : Heap}
theorem ca_mk {x : Str} {st : Stmt} {N ps : List Str} {k : Nat} {sp : Sp} (D : Df K mg x st) (S : FnScope N ps (defScope st)) (len : ∀ vs H Q E, sp vs H Q E → vs.length = ps.length)
    (hb : ∀ (kV doc pm : Value) (an : Option Addr) (cdv ct : Value) (us : List Value), us.length = ps.length → bindArgs (PySem.W.fnOf x x (defArgs st) (defBody st) (defScope st) .none kV doc pm an cdv ct) ⟨us, []⟩ = pure (ps.zip us))
    (hbody : ∀ (f : Addr) (cdv : Value) (A : Around) (outer : List Env) (s : Shared) (H : Hp) (vs : List V) (Q : VK) (E : XK), Room k (A.deeper (envOfC x (defScope st) s.heap.objs.size f cdv)) → sp vs H Q E →
      ∃ t, PSs (cxOf CX0 P w K mg base N x (defScope st) f cdv A outer s H E).nox (defBody st) t ∧ t { nx := fun _ H' => Q .non H', rt := Q } (start N vs) H) : Ca P w K mg base (k + 1) x ps sp := by
  obtain ⟨f, fd, F, hm⟩ := D
  exact ⟨f, fd, F.ok S len (fun cdv A outer s H vs Q E hr h => hbody f cdv A outer s H vs Q E hr h), hm, F.kp, F.binds hb⟩
end
def tCa (sp : Sp) (t : TA) : TE := fun σ H Q => t σ H fun vs H1 => sp vs H1 Q E0
theorem pe_ca {X : Cx} {k j : Nat} {x : Str} {ps : List Str} {sp : Sp} {e : Expr} {es : List Expr} {t : TA} {p pos : Pos} (C : Ca X.prog X.w X.K X.mg X.base k x ps sp) (hr : Room j X.A) (ha : PA X (e :: es) t) (hk : k ≤ j := by first | decide | omega) (hg : Gl X x := by rfl)
    (hdb : (x == ("__debug__" : Str)) = false := by decide) (he : starEach (e :: es) X.env = (false, eval e X.env) :: starEach es X.env := by rfl) (hpl : (backTo pos (starEach es X.env)).any (·.1) = false := by rfl) :
    PE X (.Call (.Name x p) (e :: es) [] pos) (tCa sp t) := by
  obtain ⟨f, fd, F, hm, hkp, hb⟩ := C
  refine ⟨fun pins s σ H Q I h => (pe_call (E := E0) F (hr.mono hk) hg hm hkp hb .nil pass0 ha hdb he hpl).run pins s σ H Q I ?_⟩
  show t σ H fun vs H1 => sp (vs ++ []) H1 Q E0
  have e1 : (fun vs H1 => sp (vs ++ []) H1 Q E0) = (fun vs H1 => sp vs H1 Q E0) := by
    funext vs H1
    rw [List.append_nil]
  rw [e1]
  exact h
end K65
/-! rules of our own: sets of ints and of tuples of ints, their len -/
namespace K65
open PySem PySem.Spec PyProof.Rows L2
/-! ### ints -/
def soI (w : World) : Addr → (Int → Bool) × Nat → HO := fun a t => SetO w a t.1 t.2
def t0I : (Int → Bool) × Nat := (fun _ => false, 0)
def preI : V → (Int → Bool) × Nat → Hp → Prop := fun y t _ => ∃ c, y = .int c ∧ t.2 + 1 < scanBound
def postI : V → (Int → Bool) × Nat → (Int → Bool) × Nat → Hp → Prop := fun y t t' _ => ∃ c, y = .int c ∧ t' = (fun j => t.1 j || decide (j = c), if t.1 c = true then t.2 else t.2 + 1)
theorem repI (X : Cx) : SetRep X ((Int → Bool) × Nat) (soI X.w) t0I preI postI where
  new := fun H h => setO_new (setR_fresh X.w)
  add := fun Y e1 e2 e3 e4 pins σ H s E D t y v Q I hD r pre h => by
    obtain ⟨c, rfl, room⟩ := pre
    obtain ⟨tk, rfl⟩ := r
    obtain ⟨S, n⟩ := t
    have hD' : H D = some (SetO Y.w D S n) := by
      rw [e2]
      exact hD
    have R := setO_get I hD'
    refine setR_add R room fun h' sb new => ?_
    have he : ∃ u, h'.get? D = some u := by
      have ⟨o, _, _, _, ho, _⟩ := new
      exact ⟨o, ho⟩
    refine h (_, _) _ _ ⟨c, rfl, rfl⟩ (I.write (e := D) (t' := s.toks + 1) (by rw [hD]; trivial) (.inl rfl) (fun b u hb hu => (sb.2 b hb).trans hu) he ?_)
    have q := setO_new (P := Y.prog) (H := upd H D (soI X.w D (fun j => S j || decide (j = c), if S c = true then n else n + 1))) new
    rw [e2] at q
    rw [e2]
    exact q
/-! ### tuples of ints -/
def soT (P : Program) (w : World) : Addr → List (Addr × List Int) → HO := fun a L => SetTO P w a L
def preT (K : PySem.W.Frag) : V → List (Addr × List Int) → Hp → Prop := fun y L H => ∃ (x : Addr) (k : List Int), y = .ref x ∧ SqT K H x (k.map V.int) ∧ (∀ p ∈ L, SqT K H p.1 (p.2.map V.int)) ∧ L.length + 1 < 64
def postT (K : PySem.W.Frag) : V → List (Addr × List Int) → List (Addr × List Int) → Hp → Prop := fun y L L' H => ∃ x : Addr, y = .ref x ∧ ∀ k : List Int, SqT K H x (k.map V.int) → (k ∈ L.map (·.2) → L' = L) ∧ (k ∉ L.map (·.2) → L'.Perm ((x, k) :: L))
theorem repT (X : Cx) (hu : X.A.units + 2 < cLine) : SetRep X (List (Addr × List Int)) (soT X.prog X.w) [] (preT X.K) (postT X.K) where
  new := fun H h => setTO_new (setTR_fresh (Heap.get?_push_size _ rfl)).t0
  add := fun Y e1 e2 e3 e4 pins σ H s E D L y v Q I hD r pre h => by
    obtain ⟨x, k, rfl, hx, hL, few⟩ := pre
    cases r
    have hD' : H D = some (SetTO Y.prog Y.w D L) := by
      rw [e1, e2]
      exact hD
    have hx' : SqT Y.K H x (k.map V.int) := by
      rw [e3]
      exact hx
    have R0 : SetT0 Y.prog Y.w s.heap D L := (I.hok D _ hD').1
    obtain ⟨es, ep, t, R⟩ := R0.full fun p hp => I.isT (by rw [e3]; exact hL p hp)
    have hxT := I.isT hx'
    obtain ⟨o, ho, hex, hd⟩ := R.ob
    have hT : s.TypeIs (.ref D) "set" := ⟨o, ho, hex.1⟩
    have hu1 : Y.A.in1.units < cLine := by
      rw [e4]
      show X.A.units + 1 < cLine
      omega
    refine wpAny_call_entry F.slot_set_add hT F.entry_set_add ?_ (F.args_set_add_2 _ _)
    unfold Builtin.«set.add» Builtin.Frozenset.oneOther
    simp only [List.isEmpty_nil, bind_assoc]
    unfold Builtin.Frozenset.addrOf setAdd
    refine wpAny_bind (wpAny_pure ?_)
    try dsimp only
    refine wpAny_bind (wpAny_pure ?_)
    try dsimp only
    refine wpAny_bind ?_
    refine wpAny_holding ?_
    refine wpAny_bind (wpAny_pyHash_tuple hu1 hxT ?_)
    refine add_at (s := { s with toks := s.toks + (k.length + 1) }) R hxT hu1 few fun b h' L' es' ep' t' hsb hS2 c1 c2 => ?_
    show wpAny _ _ (ret Value.none) _ _ _
    have he : ∃ u, h'.get? D = some u := by
      obtain ⟨o, ho, _⟩ := hS2.ob
      exact ⟨o, ho⟩
    refine wpAny_pure ⟨_, rfl, h L' _ _ ⟨x, rfl, fun k2 hk2 => by
      have e5 : k2.map V.int = k.map V.int := I.tuple_inj (by rw [e3]; exact hk2) hx'
      have e6 : k2 = k := by
        have := congrArg (List.map fun v : V => match v with | .int i => i | _ => 0) e5
        simpa [List.map_map, Function.comp_def] using this
      subst e6
      exact ⟨c1, c2⟩⟩ (I.write (e := D) (t' := s.toks + (k.length + 1)) (by rw [hD]; trivial) (.inl rfl) (fun c u hb hu => (hsb.2 c hb).trans hu) he ?_)⟩
    have q := setTO_new (H := upd H D (soT X.prog X.w D L')) hS2.t0
    rw [e1, e2] at q
    rw [e1, e2]
    exact q
/-! ### len -/
section
variable {X : Cx}
def rLenSI (w : World) : List V → Hp → VK → Prop := fun xs H Q => ∃ a t, xs = [.ref a] ∧ H a = some (soI w a t) ∧ t.2 < 2 ^ 62 ∧ Q (.int (t.2 : Nat)) H
theorem call_len_sI : CallR X (.builtin "len") (rLenSI X.w) := by
  intro pins s σ H xs us Q I r h
  obtain ⟨a, ⟨S, n⟩, rfl, ha, hn, q⟩ := h
  rw [Vals.ref1 r]
  obtain ⟨o, es, ep, t, ho, hx, hd, _, _, _, _, hf, hsz, _⟩ := setO_get I ha
  have hn' : n < 2 ^ 62 := hn
  exact call_len_set ho hx hd hf (by rw [hsz]; omega) ⟨.int (n : Nat), H, I.tok _, ⟨_, by rw [hsz]⟩, q⟩
def rLenST (P : Program) (w : World) : List V → Hp → VK → Prop := fun xs H Q => ∃ a L, xs = [.ref a] ∧ H a = some (soT P w a L) ∧ Q (.int (L.length : Nat)) H
theorem call_len_sT : CallR X (.builtin "len") (rLenST X.prog X.w) := by
  intro pins s σ H xs us Q I r h
  obtain ⟨a, L, rfl, ha, q⟩ := h
  rw [Vals.ref1 r]
  have R0 : SetT0 X.prog X.w s.heap a L := (I.hok a _ ha).1
  obtain ⟨es, ep, t, ⟨o, ho, hex, hd⟩, hr, tb, nd, pl, ld, room, few⟩ := R0.ex
  have hsz : es.size = L.length := by
    rw [← Array.length_toList, hr]
    exact List.length_map _
  have hf : t.fits es.size = true := by
    have h1 := tb.sz
    rw [List.length_map] at h1
    unfold SetTable.fits SetTable.fill
    rw [tb.dm, Bool.and_eq_true, beq_iff_eq, decide_eq_true_eq]
    show t.place.size = es.size ∧ t.place.size + 0 ≤ t.mask
    omega
  exact call_len_set ho hex hd hf (by rw [hsz]; omega) ⟨.int (L.length : Nat), H, I.tok _, ⟨_, by rw [hsz]⟩, q⟩
end
end K65
/-! zip of two tuples whose pairs are kept: for x in zip(t, u), x a name -/
namespace K65
open PySem PySem.Spec PyProof.Rows L2 RZ
abbrev IsZp (h : Heap) (z TI TO : Addr) (m : Value) (f : Bool) : Prop :=
  h.get? z = some { cls := .type "zip", dict := none, data := .fields #[m, .bool f, .bool false, .ref TI, .ref TO], slots := #[] }
def Mq (m : Value) : Prop := m = .none ∨ ∃ T : Addr, m = rawInt T
section
variable {prog : Program} {w : World} {A : Around} {E : Value → Shared → Prop} {s : Shared} {z TI TO i1 i2 l1 l2 : Addr} {m : Value} {f : Bool}
theorem alive_is {a : Addr} {Q : Option Obj → Shared → Prop} (h : Q (s.heap.get? a) s) : wpAny (model prog w) A (loadIfAlive a) Q E s := fun _ _ _ => h
theorem zp_free {Q : Bool → Shared → Prop} (hz : IsZp s.heap z TI TO m f) (hm : Mq m) (h1 : Q true s) (h2 : ∀ h', IsZp h' z TI TO m true → Heap.SameBut z s.heap h' → Q false { s with heap := h' }) :
    wpAny (model prog w) A (Builtin.SmallTypes.ownedTupleIsFree (.ref z)) Q E s := by
  unfold Builtin.SmallTypes.ownedTupleIsFree
  refine wpAny_bind (wpAny_field hz rfl (x := m) rfl ?_)
  rcases hm with rfl | ⟨T, rfl⟩
  · exact wpAny_pure h1
  · show wpAny _ _ (loadIfAlive ((T : Int).toNat) >>= _) _ _ _
    rw [Int.toNat_natCast]
    refine wpAny_bind (alive_is ?_)
    cases hg : s.heap.get? T with
    | none =>
      simp only [Option.isNone_none, if_true]
      exact wpAny_pure h1
    | some o =>
      simp only [Option.isNone_some, Bool.false_eq_true, if_false]
      refine wpAny_bind (wpAny_field hz rfl (x := .bool f) rfl ?_)
      cases f with
      | true =>
        rw [if_neg (show ¬ ((Value.bool true != Value.bool true) = true) from Bool.false_ne_true)]
        exact wpAny_pure (h2 s.heap hz (Heap.SameBut.refl _ _))
      | false =>
        rw [if_pos (show (Value.bool false != Value.bool true) = true from rfl)]
        exact wpAny_bind (wpAny_setField_rec hz (by simp) fun g1 hg1 sg1 => wpAny_pure (h2 g1 hg1 sg1))
theorem zp_item {k1 k2 : Nat} {xs ys : Array Value} {x y a b : Value} {Q : Value → Shared → Prop} (D : ZipApart z TI TO i1 i2 l1 l2)
    (hz : IsZp s.heap z TI TO m f) (hm : Mq m) (hTI : IsPair s.heap TI (.ref i1) (.ref i2)) (hTO : IsPair s.heap TO a b)
    (h1 : s.heap.IsTupleIter i1 l1 k1) (h2 : s.heap.IsTupleIter i2 l2 k2) (hl1 : s.heap.IsTuple l1 xs) (hl2 : s.heap.IsTuple l2 ys) (hx : xs[k1]? = some x) (hy : ys[k2]? = some y)
    (hQ : ∀ h' m' f' a' b', IsZp h' z TI TO m' f' → Mq m' → IsPair h' TO a' b' → h'.IsTupleIter i1 l1 (k1 + 1) → h'.IsTupleIter i2 l2 (k2 + 1) → IsPair h' s.heap.objs.size x y → h'.objs.size = s.heap.objs.size + 1 →
      (∀ c o, c ≠ z → c ≠ TO → c ≠ i1 → c ≠ i2 → s.heap.get? c = some o → h'.get? c = some o) → Q (.ref s.heap.objs.size) { s with heap := h' }) :
    wpAny (model prog w) A (Builtin.«zip.__next__» ⟨[.ref z], []⟩) (fun fin s' => ∃ v, fin = .done (.ret v) ∧ Q v s') E s := by
  show wpAny _ _ (field (.ref z) 2 >>= _) _ _ _
  refine wpAny_bind (wpAny_field hz rfl (x := .bool false) rfl ?_)
  show wpAny _ _ (field (.ref z) 3 >>= _) _ _ _
  refine wpAny_bind (wpAny_field hz rfl (x := .ref TI) rfl ?_)
  refine wpAny_bind (wpAny_seqItems hTI rfl ?_)
  show wpAny _ _ (Builtin.SmallTypes.ownedTupleIsFree (.ref z) >>= _) _ _ _
  refine wpAny_bind (zp_free hz hm ?_ fun g1 gz1 gs1 => ?_)
  · simp only [if_true]
    refine wpAny_bind (wpAny_rule ?_)
    refine wpAny_bind (wpAny_field hz rfl (x := .ref TO) rfl ?_)
    refine wpAny_bind (wpAny_setField_rec hz (by simp) fun g1 gz1 gs1 => ?_)
    replace gz1 : IsZp g1 z TI TO .ellipsis f := gz1
    refine wpAny_bind ?_
    simp only [List.zipIdx_cons, List.zipIdx_nil, List.forIn_cons, List.forIn_nil]
    refine wpAny_bind (wpAny_bind (wpAny_onRaise ?_))
    show wpAny _ _ (Builtin.SmallTypes.nextOf (.ref i1) >>= _) _ _ _
    refine wpAny_bind (nextOf_tuple_item (h1.extBut gs1.extBut D.i1z) (hl1.extBut gs1.extBut D.l1z) hx fun g2 gi2 gs2 => wpAny_pure ?_)
    have go2 : IsPair g2 TO a b := gs2.extBut _ _ D.TOi1 (gs1.extBut _ _ D.TOz hTO)
    refine wpAny_bind (wpAny_seqItems go2 rfl ?_)
    refine wpAny_bind (wpAny_updateSeq_pair go2 fun g3 go3 gs3 => ?_)
    replace go3 : IsPair g3 TO x b := go3
    refine wpAny_bind (wpAny_letGo (wpAny_pure ?_))
    refine wpAny_bind (wpAny_bind (wpAny_onRaise ?_))
    show wpAny _ _ (Builtin.SmallTypes.nextOf (.ref i2) >>= _) _ _ _
    refine wpAny_bind (nextOf_tuple_item (((h2.extBut gs1.extBut D.i2z).extBut gs2.extBut D.i12.symm).extBut gs3.extBut D.TOi2.symm)
      (((hl2.extBut gs1.extBut D.l2z).extBut gs2.extBut D.l2i1).extBut gs3.extBut D.l2TO) hy fun g4 gi4 gs4 => wpAny_pure ?_)
    have go4 : IsPair g4 TO x b := gs4.extBut _ _ D.TOi2 go3
    refine wpAny_bind (wpAny_seqItems go4 rfl ?_)
    refine wpAny_bind (wpAny_updateSeq_pair go4 fun g5 go5 gs5 => ?_)
    replace go5 : IsPair g5 TO x y := go5
    refine wpAny_bind (wpAny_letGo (wpAny_pure (wpAny_pure ?_)))
    refine wpAny_bind (wpAny_seqItems go5 rfl ?_)
    refine wpAny_bind (wpAny_newTuple ?_)
    have gsz : g5.objs.size = s.heap.objs.size := by rw [gs5.1, gs4.1, gs3.1, gs2.1, gs1.1]
    have gz5 : IsZp g5 z TI TO .ellipsis f := gs5.extBut _ _ D.TOz.symm (gs4.extBut _ _ D.i2z.symm (gs3.extBut _ _ D.TOz.symm (gs2.extBut _ _ D.i1z.symm gz1)))
    have gk5 : ∀ c o, c ≠ z → c ≠ TO → c ≠ i1 → c ≠ i2 → s.heap.get? c = some o → g5.get? c = some o := fun c o c1 c2 c3 c4 e =>
      gs5.extBut _ _ c2 (gs4.extBut _ _ c4 (gs3.extBut _ _ c2 (gs2.extBut _ _ c3 (gs1.extBut _ _ c1 e))))
    have gi5 : g5.IsTupleIter i1 l1 (k1 + 1) := ((gi2.extBut gs3.extBut D.TOi1.symm).extBut gs4.extBut D.i12).extBut gs5.extBut D.TOi1.symm
    have gj5 : g5.IsTupleIter i2 l2 (k2 + 1) := gi4.extBut gs5.extBut D.TOi2.symm
    have zlt : z < g5.objs.size := Heap.lt_size gz5
    show wpAny _ _ (Builtin.SmallTypes.ownedTupleHandOut (.ref z) (.ref g5.objs.size) >>= _) _ _ _
    refine wpAny_bind ?_
    unfold Builtin.SmallTypes.ownedTupleHandOut
    have gz6 : IsZp (g5.push { cls := .type "tuple", data := .seq #[x, y] }) z TI TO .ellipsis f := Heap.get?_push_of_some _ gz5
    refine wpAny_bind (wpAny_setField_rec gz6 (by simp) fun g7 gz7 gs7 => ?_)
    replace gz7 : IsZp g7 z TI TO (rawInt g5.objs.size) f := gz7
    refine wpAny_setField_rec gz7 (by simp) fun g8 gz8 gs8 => ?_
    replace gz8 : IsZp g8 z TI TO (rawInt g5.objs.size) false := gz8
    have up : ∀ c o, c ≠ z → g5.get? c = some o → g8.get? c = some o := fun c o c1 e => gs8.extBut _ _ c1 (gs7.extBut _ _ c1 (Heap.get?_push_of_some _ e))
    have gT8 : IsPair g8 g5.objs.size x y := gs8.extBut _ _ (Nat.ne_of_gt zlt) (gs7.extBut _ _ (Nat.ne_of_gt zlt) (Heap.get?_push_size _ rfl))
    have gn8 : g8.objs.size = g5.objs.size + 1 := by rw [gs8.1, gs7.1, Heap.size_push]
    rw [gsz] at gz8 gT8 gn8
    refine wpAny_pure ⟨_, rfl, ?_⟩
    show Q (.ref g5.objs.size) _
    rw [gsz]
    exact hQ g8 _ _ _ _ gz8 (.inr ⟨_, rfl⟩) (up _ _ D.TOz go5) (gi5.at fun o e => up _ o D.i1z e) (gj5.at fun o e => up _ o D.i2z e) gT8 gn8 fun c o c1 c2 c3 c4 e => up c o c1 (gk5 c o c1 c2 c3 c4 e)
  · simp only [Bool.false_eq_true, if_false]
    refine wpAny_bind ?_
    rw [← Array.forIn_toList]
    simp only [List.forIn_cons, List.forIn_nil]
    refine wpAny_bind (wpAny_bind (wpAny_holding ?_))
    show wpAny _ _ (Builtin.SmallTypes.nextOf (.ref i1) >>= _) _ _ _
    refine wpAny_bind (nextOf_tuple_item (s := { s with heap := g1 }) (h1.extBut gs1.extBut D.i1z) (hl1.extBut gs1.extBut D.l1z) hx fun g2 gi2 gs2 => wpAny_pure ?_)
    refine wpAny_pure ?_
    refine wpAny_bind (wpAny_bind (wpAny_holding ?_))
    show wpAny _ _ (Builtin.SmallTypes.nextOf (.ref i2) >>= _) _ _ _
    refine wpAny_bind (nextOf_tuple_item (s := { s with heap := g2 }) ((h2.extBut gs1.extBut D.i2z).extBut gs2.extBut D.i12.symm) ((hl2.extBut gs1.extBut D.l2z).extBut gs2.extBut D.l2i1) hy fun g3 gi3 gs3 => wpAny_pure ?_)
    refine wpAny_pure (wpAny_pure ?_)
    show wpAny _ _ (newTuple [x, y] >>= _) _ _ _
    refine wpAny_bind (wpAny_newTuple ?_)
    have gsz : g3.objs.size = s.heap.objs.size := by rw [gs3.1, gs2.1, gs1.1]
    have gz3 : IsZp g3 z TI TO m true := gs3.extBut _ _ D.i2z.symm (gs2.extBut _ _ D.i1z.symm gz1)
    have gk : ∀ c o, c ≠ z → c ≠ i1 → c ≠ i2 → s.heap.get? c = some o → g3.get? c = some o := fun c o c1 c2 c3 e => gs3.extBut _ _ c3 (gs2.extBut _ _ c2 (gs1.extBut _ _ c1 e))
    have gi3' : g3.IsTupleIter i1 l1 (k1 + 1) := gi2.extBut gs3.extBut D.i12
    refine wpAny_pure ⟨_, rfl, ?_⟩
    show Q (.ref g3.objs.size) _
    have gp : IsPair (g3.push { cls := .type "tuple", data := .seq #[x, y] }) g3.objs.size x y := Heap.get?_push_size _ rfl
    have gn : (g3.push { cls := .type "tuple", data := .seq #[x, y] }).objs.size = g3.objs.size + 1 := Heap.size_push ..
    rw [gsz] at gp gn ⊢
    exact hQ _ m true a b (Heap.get?_push_of_some _ gz3) hm (Heap.get?_push_of_some _ (gk _ _ D.TOz D.TOi1 D.TOi2 hTO)) (gi3'.at fun o e => Heap.get?_push_of_some _ e) (gi3.at fun o e => Heap.get?_push_of_some _ e) gp gn
      fun c o c1 _ c2 c3 e => Heap.get?_push_of_some _ (gk c o c1 c2 c3 e)
theorem zp_end {k1 k2 : Nat} {xs ys : Array Value} {a b : Value} {Q : Fin → Shared → Prop} (hh : A.handled = none) (D : ZipApart z TI TO i1 i2 l1 l2)
    (hz : IsZp s.heap z TI TO m f) (hm : Mq m) (hTI : IsPair s.heap TI (.ref i1) (.ref i2)) (hTO : IsPair s.heap TO a b)
    (h1 : s.heap.IsTupleIter i1 l1 k1) (h2 : s.heap.IsTupleIter i2 l2 k2) (hl1 : s.heap.IsTuple l1 xs) (hl2 : s.heap.IsTuple l2 ys) (hend : xs[k1]? = none ∨ ys[k2]? = none)
    (hE : ∀ h' e, (∀ c o, c ≠ z → c ≠ TO → c ≠ i1 → c ≠ i2 → s.heap.get? c = some o → h'.get? c = some o) → (∃ o, h'.get? e = some o ∧ o.cls = .type "StopIteration") → E (.ref e) { s with heap := h' }) :
    wpAny (model prog w) A (Builtin.«zip.__next__» ⟨[.ref z], []⟩) Q E s := by
  show wpAny _ _ (field (.ref z) 2 >>= _) _ _ _
  refine wpAny_bind (wpAny_field hz rfl (x := .bool false) rfl ?_)
  show wpAny _ _ (field (.ref z) 3 >>= _) _ _ _
  refine wpAny_bind (wpAny_field hz rfl (x := .ref TI) rfl ?_)
  refine wpAny_bind (wpAny_seqItems hTI rfl ?_)
  show wpAny _ _ (Builtin.SmallTypes.ownedTupleIsFree (.ref z) >>= _) _ _ _
  refine wpAny_bind (zp_free hz hm ?_ fun g1 gz1 gs1 => ?_)
  · simp only [if_true]
    refine wpAny_bind (wpAny_rule ?_)
    refine wpAny_bind (wpAny_field hz rfl (x := .ref TO) rfl ?_)
    refine wpAny_bind (wpAny_setField_rec hz (by simp) fun g1 gz1 gs1 => ?_)
    replace gz1 : IsZp g1 z TI TO .ellipsis f := gz1
    refine wpAny_bind ?_
    simp only [List.zipIdx_cons, List.zipIdx_nil, List.forIn_cons, List.forIn_nil]
    refine wpAny_bind (wpAny_bind (wpAny_onRaise ?_))
    show wpAny _ _ (Builtin.SmallTypes.nextOf (.ref i1) >>= _) _ _ _
    cases hx : xs[k1]? with
    | none =>
      refine wpAny_bind (nextOf_tuple_end hh (h1.extBut gs1.extBut D.i1z) (hl1.extBut gs1.extBut D.l1z) hx fun g2 e gs2 he => ?_)
      obtain ⟨oe, hoe, hce⟩ := he
      have gz2 : IsZp g2 z TI TO .ellipsis f := gs2 _ _ D.i1z.symm gz1
      have hez : e ≠ z := fun q => by subst q; rw [gz2] at hoe; cases hoe; simp at hce
      exact wpAny_setField_rec gz2 (by simp) fun g3 _ gs3 => hE g3 e (fun c o c1 _ c3 _ q => gs3.extBut _ _ c1 (gs2 _ _ c3 (gs1.extBut _ _ c1 q))) ⟨oe, gs3.extBut _ _ hez hoe, hce⟩
    | some x =>
      have hy : ys[k2]? = none := by rcases hend with q | q; rw [hx] at q; cases q; exact q
      refine wpAny_bind (nextOf_tuple_item (h1.extBut gs1.extBut D.i1z) (hl1.extBut gs1.extBut D.l1z) hx fun g2 gi2 gs2 => wpAny_pure ?_)
      have go2 : IsPair g2 TO a b := gs2.extBut _ _ D.TOi1 (gs1.extBut _ _ D.TOz hTO)
      refine wpAny_bind (wpAny_seqItems go2 rfl ?_)
      refine wpAny_bind (wpAny_updateSeq_pair go2 fun g3 go3 gs3 => ?_)
      refine wpAny_bind (wpAny_letGo (wpAny_pure ?_))
      refine wpAny_bind (wpAny_bind (wpAny_onRaise ?_))
      show wpAny _ _ (Builtin.SmallTypes.nextOf (.ref i2) >>= _) _ _ _
      refine wpAny_bind (nextOf_tuple_end hh (((h2.extBut gs1.extBut D.i2z).extBut gs2.extBut D.i12.symm).extBut gs3.extBut D.TOi2.symm)
        (((hl2.extBut gs1.extBut D.l2z).extBut gs2.extBut D.l2i1).extBut gs3.extBut D.l2TO) hy fun g4 e gs4 he => ?_)
      obtain ⟨oe, hoe, hce⟩ := he
      have gz4 : IsZp g4 z TI TO .ellipsis f := gs4 _ _ D.i2z.symm (gs3.extBut _ _ D.TOz.symm (gs2.extBut _ _ D.i1z.symm gz1))
      have hez : e ≠ z := fun q => by subst q; rw [gz4] at hoe; cases hoe; simp at hce
      exact wpAny_setField_rec gz4 (by simp) fun g5 _ gs5 => hE g5 e (fun c o c1 c2 c3 c4 q => gs5.extBut _ _ c1 (gs4 _ _ c4 (gs3.extBut _ _ c2 (gs2.extBut _ _ c3 (gs1.extBut _ _ c1 q))))) ⟨oe, gs5.extBut _ _ hez hoe, hce⟩
  · simp only [Bool.false_eq_true, if_false]
    refine wpAny_bind ?_
    rw [← Array.forIn_toList]
    simp only [List.forIn_cons, List.forIn_nil]
    refine wpAny_bind (wpAny_bind (wpAny_holding ?_))
    show wpAny _ _ (Builtin.SmallTypes.nextOf (.ref i1) >>= _) _ _ _
    cases hx : xs[k1]? with
    | none =>
      refine wpAny_bind (nextOf_tuple_end (s := { s with heap := g1 }) hh (h1.extBut gs1.extBut D.i1z) (hl1.extBut gs1.extBut D.l1z) hx fun g2 e gs2 he => ?_)
      exact hE g2 e (fun c o c1 _ c3 _ q => gs2 _ _ c3 (gs1.extBut _ _ c1 q)) he
    | some x =>
      have hy : ys[k2]? = none := by rcases hend with q | q; rw [hx] at q; cases q; exact q
      refine wpAny_bind (nextOf_tuple_item (s := { s with heap := g1 }) (h1.extBut gs1.extBut D.i1z) (hl1.extBut gs1.extBut D.l1z) hx fun g2 gi2 gs2 => wpAny_pure ?_)
      refine wpAny_pure ?_
      refine wpAny_bind (wpAny_bind (wpAny_holding ?_))
      show wpAny _ _ (Builtin.SmallTypes.nextOf (.ref i2) >>= _) _ _ _
      refine wpAny_bind (nextOf_tuple_end (s := { s with heap := g2 }) hh ((h2.extBut gs1.extBut D.i2z).extBut gs2.extBut D.i12.symm) ((hl2.extBut gs1.extBut D.l2z).extBut gs2.extBut D.l2i1) hy fun g3 e gs3 he => ?_)
      exact hE g3 e (fun c o c1 _ c2 c3 q => gs3 _ _ c3 (gs2.extBut _ _ c2 (gs1.extBut _ _ c1 q))) he
theorem zp_next {k1 k2 : Nat} {xs ys : Array Value} {x y a b : Value} {Q : Option Value → Shared → Prop} (D : ZipApart z TI TO i1 i2 l1 l2)
    (hz : IsZp s.heap z TI TO m f) (hm : Mq m) (hTI : IsPair s.heap TI (.ref i1) (.ref i2)) (hTO : IsPair s.heap TO a b)
    (h1 : s.heap.IsTupleIter i1 l1 k1) (h2 : s.heap.IsTupleIter i2 l2 k2) (hl1 : s.heap.IsTuple l1 xs) (hl2 : s.heap.IsTuple l2 ys) (hx : xs[k1]? = some x) (hy : ys[k2]? = some y)
    (hQ : ∀ h' m' f' a' b', IsZp h' z TI TO m' f' → Mq m' → IsPair h' TO a' b' → h'.IsTupleIter i1 l1 (k1 + 1) → h'.IsTupleIter i2 l2 (k2 + 1) → IsPair h' s.heap.objs.size x y → h'.objs.size = s.heap.objs.size + 1 →
      (∀ c o, c ≠ z → c ≠ TO → c ≠ i1 → c ≠ i2 → s.heap.get? c = some o → h'.get? c = some o) → Q (some (.ref s.heap.objs.size)) { s with heap := h' }) :
    wpAny (model prog w) A (pyNext (.ref z)) Q E s := by
  have hT : s.TypeIs (.ref z) "zip" := ⟨_, hz, rfl⟩
  unfold pyNext
  exact wpAny_bind (wpAny_attempt (wpAny_callSpecial?_slot (name := Str.ofString "__next__") hT F.slot_zip_next
    (wpAny_call_entry F.slot_zip_next hT F.entry_zip_next
      (zp_item D hz hm hTI hTO h1 h2 hl1 hl2 hx hy fun h' m' f' a' b' q1 q2 q3 q4 q5 q6 q7 q8 => wpAny_pure (hQ h' m' f' a' b' q1 q2 q3 q4 q5 q6 q7 q8)) (F.args_zip_next_1 _))))
theorem zp_stop {k1 k2 : Nat} {xs ys : Array Value} {a b : Value} {Q : Option Value → Shared → Prop} (hh : A.handled = none) (D : ZipApart z TI TO i1 i2 l1 l2)
    (hz : IsZp s.heap z TI TO m f) (hm : Mq m) (hTI : IsPair s.heap TI (.ref i1) (.ref i2)) (hTO : IsPair s.heap TO a b)
    (h1 : s.heap.IsTupleIter i1 l1 k1) (h2 : s.heap.IsTupleIter i2 l2 k2) (hl1 : s.heap.IsTuple l1 xs) (hl2 : s.heap.IsTuple l2 ys) (hend : xs[k1]? = none ∨ ys[k2]? = none)
    (hQ : ∀ h', (∀ c o, c ≠ z → c ≠ TO → c ≠ i1 → c ≠ i2 → s.heap.get? c = some o → h'.get? c = some o) → Q none { s with heap := h' }) : wpAny (model prog w) A (pyNext (.ref z)) Q E s := by
  have hT : s.TypeIs (.ref z) "zip" := ⟨_, hz, rfl⟩
  unfold pyNext
  refine wpAny_bind (wpAny_attempt (wpAny_callSpecial?_slot (name := Str.ofString "__next__") hT F.slot_zip_next
    (wpAny_call_entry F.slot_zip_next hT F.entry_zip_next (zp_end hh D hz hm hTI hTO h1 h2 hl1 hl2 hend fun h' e hk he => ?_) (F.args_zip_next_1 _))))
  obtain ⟨o, ho, hc⟩ := he
  refine wpAny_bind (wpAny_isInstance (T := "StopIteration") (b := true) ⟨o, ho, hc⟩ isSubtype_stop ?_)
  exact wpAny_pure (hQ _ hk)
end
theorem turn_zipN {P : Program} {w : World} {K : PySem.W.Frag} {x : Str} {xp : Pos} {a b z TI TO i1 i2 : Addr} (D : ZipApart z TI TO i1 i2 a b) :
    Turn P w K (.Name x xp) (ItzT K a b) [z, TI, TO, i1, i2] z (fun i h => (∃ m f, IsZp h z TI TO m f ∧ Mq m) ∧ IsPair h TI (.ref i1) (.ref i2) ∧ (∃ x y, IsPair h TO x y) ∧ h.IsTupleIter i1 a i ∧ h.IsTupleIter i2 b i) where
  mem := by simp
  obj := fun i h st c hc => by
    obtain ⟨⟨m, f, hz, _⟩, hTI, ⟨x, y, hTO⟩, ⟨o1, e1, _, d1⟩, ⟨o2, e2, _, d2⟩⟩ := st
    have e' : c = z ∨ c = TI ∨ c = TO ∨ c = i1 ∨ c = i2 := by simpa using hc
    rcases e' with q | q | q | q | q
    · rw [q]; exact ⟨_, hz, fun v q => nomatch q⟩
    · rw [q]; exact ⟨_, hTI, fun v q => nomatch q⟩
    · rw [q]; exact ⟨_, hTO, fun v q => nomatch q⟩
    · rw [q]; exact ⟨o1, e1, fun v q => by rw [d1] at q; cases q⟩
    · rw [q]; exact ⟨o2, e2, fun v q => by rw [d2] at q; cases q⟩
  keep := fun i h h' st k => by
    obtain ⟨⟨m, f, hz, hm⟩, hTI, ⟨x, y, hTO⟩, h1, h2⟩ := st
    exact ⟨⟨m, f, k z (by simp) _ hz, hm⟩, k TI (by simp) _ hTI, ⟨x, y, k TO (by simp) _ hTO⟩, h1.at fun o q => k i1 (by simp) o q, h2.at fun o q => k i2 (by simp) o q⟩
  item := by
    intro X hP hw hK hc i pins s σ H E I hf st hg
    subst hP hw hK
    obtain ⟨⟨m, f, hz, hm⟩, hTI, ⟨x0, y0, hTO⟩, h1, h2⟩ := st
    obtain ⟨xs, ys, x, y, hqx, hqy, hx, hy⟩ := hg
    obtain ⟨its, rv, p, _⟩ := I.tuple hqx
    obtain ⟨its2, rv2, p2, _⟩ := I.tuple hqy
    obtain ⟨u, hu, ru⟩ := rv.get hx
    obtain ⟨u2, hu2, ru2⟩ := rv2.get hy
    refine zp_next D hz hm hTI hTO h1 h2 p p2 (x := u) (y := u2) (by simpa using hu) (by simpa using hu2) fun h' m' f' a' b' z' hm' TO' h1' h2' hT hsz hk => ?_
    refine ⟨_, rfl, wpAny_pure ?_⟩
    have new : ObjOk X.prog X.w (upd H s.heap.objs.size (.tup [x, y])) h' s.heap.objs.size (.tup [x, y]) :=
      ⟨by show 2 ≤ sizeLine; decide, [u, u2], .cons ru (.cons ru2 .nil), ⟨_, hT, rfl, _, rfl⟩⟩
    have I1 : Inv X pins σ (upd H s.heap.objs.size (.tup [x, y])) { s with heap := h' } :=
      I.turnedNew (t' := s.toks) (ch := [z, TI, TO, i1, i2]) (fun c o hb q => hk c o (fun q' => hb (by simp [q'])) (fun q' => hb (by simp [q'])) (fun q' => hb (by simp [q'])) (fun q' => hb (by simp [q'])) q) hf (Nat.le_refl _) new
    refine ⟨.ref s.heap.objs.size, _, I1, rfl, ⟨_, x, y, rfl, I.hok.fresh (Nat.le_refl _), rfl, fun l hl => by rw [I.tuple_inj hl hqx]; exact hx, fun l hl => by rw [I.tuple_inj hl hqy]; exact hy⟩, ⟨⟨m', f', z', hm'⟩, hk _ _ D.TIz D.TITO D.TIi1 D.TIi2 hTI, ⟨a', b', TO'⟩, h1', h2'⟩, fun c hcm => ?_⟩
    have hlt : c < s.heap.objs.size := by
      have e' : c = z ∨ c = TI ∨ c = TO ∨ c = i1 ∨ c = i2 := by simpa using hcm
      rcases e' with q | q | q | q | q
      · rw [q]; exact Heap.lt_size hz
      · rw [q]; exact Heap.lt_size hTI
      · rw [q]; exact Heap.lt_size hTO
      · rw [q]; obtain ⟨_, e1, _⟩ := h1; exact Heap.lt_size e1
      · rw [q]; obtain ⟨_, e2, _⟩ := h2; exact Heap.lt_size e2
    rw [upd_ne (Nat.ne_of_lt hlt)]
    exact (hf c hcm).1
  done := by
    intro X hP hw hK hc i pins s σ H E I hf st hg
    subst hP hw hK
    obtain ⟨⟨m, f, hz, hm⟩, hTI, ⟨x0, y0, hTO⟩, h1, h2⟩ := st
    obtain ⟨xs, ys, hqx, hqy, hend⟩ := hg
    obtain ⟨its, rv, p, _⟩ := I.tuple hqx
    obtain ⟨its2, rv2, p2, _⟩ := I.tuple hqy
    have l1 := rv.length
    have l2 := rv2.length
    have he : its.toArray[i]? = none ∨ its2.toArray[i]? = none := by
      rcases hend with q | q
      · exact .inl (by simp; omega)
      · exact .inr (by simp; omega)
    exact zp_stop (I.ok.hd hc) D hz hm hTI hTO h1 h2 p p2 he fun h' hk => ⟨rfl, I.turnedL (t' := s.toks) (ch := [z, TI, TO, i1, i2]) (fun c o hb q =>
      hk c o (fun q' => hb (by simp [q'])) (fun q' => hb (by simp [q'])) (fun q' => hb (by simp [q'])) (fun q' => hb (by simp [q'])) q) hf⟩
  self := fun A i s Q E st h => by
    obtain ⟨⟨m, f, hz, hm⟩, _⟩ := st
    have hT : s.TypeIs (.ref z) "zip" := ⟨_, hz, rfl⟩
    refine wpAny_pyIter_slot hT F.slot_zip_iter (wpAny_call_entry F.slot_zip_iter hT F.entry_zip_iter ?_ (F.args_zip_iter_1 _))
    show wpAny _ _ (ret (.ref z)) _ _ s
    exact wpAny_pure ⟨_, rfl, "zip", _, hT, F.slot_zip_next.lookup, h⟩
def iZipN (K : PySem.W.Frag) (ta : TA) : L2.TI := fun σ H R => ta σ H fun vs H1 => ∃ a b xs ys, vs = [.ref a, .ref b] ∧ SqT K H1 a xs ∧ SqT K H1 b ys ∧ R (ItzT K a b) H1
theorem pi_zipN {X : Cx} {e e2 : Expr} {ta : TA} {x : Str} {p pos xp : Pos} (hg : Gl X "zip") (hm : X.mg "zip" = none) (ha : PA X [e, e2] ta)
    (hs : starEach [e, e2] X.env = (false, eval e X.env) :: starEach [e2] X.env := by rfl) (hpl : (backTo pos (starEach [e2] X.env)).any (·.1) = false := by rfl) :
    PI X (.Name x xp) (.Call (.Name "zip" p) [e, e2] [] pos) (iZipN X.K ta) := by
  refine ⟨fun pins s σ H R I h => ?_⟩
  refine Call_ (ld_blt I hg hm PyProof.Rows.boot_zip (PyProof.Rows.callWith_type1 (thn (ha.run pos pins s σ H _ I h) fun us s1 ⟨vs, H1, I1, r1, q1⟩ => ?_) hs hpl))
  obtain ⟨a, b, xs, ys, ex, hqx, hqy, q⟩ := q1
  subst ex
  obtain ⟨u1, u2, rfl, ru1, ru2⟩ := r1.two
  cases (show u1 = Value.ref a from ru1)
  cases (show u2 = Value.ref b from ru2)
  have fresh5 : ∀ c, c ∈ [s1.heap.objs.size + 4, s1.heap.objs.size + 2, s1.heap.objs.size + 3, s1.heap.objs.size, s1.heap.objs.size + 1] → FpOk X pins H1 c := fun c hcm => by
    have hle : s1.heap.objs.size ≤ c := by
      have e' : c = s1.heap.objs.size + 4 ∨ c = s1.heap.objs.size + 2 ∨ c = s1.heap.objs.size + 3 ∨ c = s1.heap.objs.size ∨ c = s1.heap.objs.size + 1 := by simpa using hcm
      rcases e' with z | z | z | z | z <;> (rw [z]; first | exact Nat.le_add_right _ _ | exact Nat.le_refl _)
    exact I1.fpOk hle (I1.hok.fresh hle)
  obtain ⟨its, rv, p1, _⟩ := I1.tuple hqx
  obtain ⟨its2, rv2, p2, _⟩ := I1.tuple hqy
  obtain ⟨o1, ho1, _⟩ := id p1
  obtain ⟨o2, ho2, _⟩ := id p2
  refine call_zipT (show s1.heap.IsTuple a its.toArray from p1) (show s1.heap.IsTuple b its2.toArray from p2) fun h' hz hTI hTO h1 h2 hsz hk => wpAny_pyIter_zip hz ?_
  have I2 : Inv X pins σ H1 { s1 with heap := h' } := I1.kept (t' := s1.toks) hk
  exact ⟨s1.heap.objs.size + 4, [s1.heap.objs.size + 4, s1.heap.objs.size + 2, s1.heap.objs.size + 3, s1.heap.objs.size, s1.heap.objs.size + 1], _, _, H1, rfl, I2, turn_zipN (PySem.W.ktu_apart s1.heap.objs.size a b (Heap.lt_size ho1) (Heap.lt_size ho2)), ⟨⟨_, _, hz, .inl rfl⟩, hTI, ⟨_, _, hTO⟩, h1, h2⟩, fresh5, q⟩
theorem pi_zipNK {X : Cx} (K : PySem.W.Frag) {e e2 : Expr} {ta : TA} {x : Str} {p pos xp : Pos} (hg : Gl X "zip") (hm : X.mg "zip" = none) (ha : PA X [e, e2] ta) (h : X.K = K := by rfl)
    (hs : starEach [e, e2] X.env = (false, eval e X.env) :: starEach [e2] X.env := by rfl) (hpl : (backTo pos (starEach [e2] X.env)).any (·.1) = false := by rfl) :
    PI X (.Name x xp) (.Call (.Name "zip" p) [e, e2] [] pos) (iZipN K ta) := by subst h; exact pi_zipN hg hm ha hs hpl
end K65
/-! name = {.. for .. for ..} on one line -/
namespace K65
open PySem PySem.Spec PyProof.Rows L2
section
variable {X : Cx} {τ : Type} {SO : Addr → τ → HO} {t0 : τ} {Pre : V → τ → Hp → Prop} {Post : V → τ → τ → Hp → Prop}
theorem sw_trueS {elt : Expr} {gs : List Comprehension} {scope : Scope} {pos py : Pos} {y : Str} {l : Nat} {env : Env} (hk : env.scope.kind = .function) (hy : env.scope.names.lookup y = some .local) (hl : (py.line == pos.line) = true)
    (ha : (scope.names.any fun (n, k) => n == y && (k == .local || k == .cell)) = false) : swapsWith (.SetComp elt gs scope pos) (some (.Name y py)) l env = pure true := by
  have ky : env.kindOf y = some .local := hy
  have hb : env.blockKind = .function := by unfold Env.blockKind; rw [hk]; rfl
  unfold swapsWith
  simp only [hb, ky, ha, Expr.pos, hl]
  rfl
theorem ps_setSc2G {i : Nat} {y : Str} {py : Pos} {elt tg iter tg1 iter1 : Expr} {ifs ifs1 : List Expr} {scope : Scope} {own : List (Str × Nat)} {vs1 : List Nat} {pos spos : Pos} {wi wi1 : TI} {g g1 : TG} {tt tt1 : TT} {te : TE} (R : SetRep X τ SO t0 Pre Post) (hc : X.calm = true) (hN : X.N.Nodup)
    (hy : X.N[i]? = some y) (hyl : X.env.scope.names.lookup y = some .local) (hsw : swapsWith (.SetComp elt [⟨tg, iter, ifs, 0⟩, ⟨tg1, iter1, ifs1, 0⟩] scope pos) (some (.Name y py)) spos.line X.env = pure true)
    (hi : PI X tg iter wi) (ok : BlkOk X.N X.env.scope scope own) (hv : ∀ i ∈ vs1, i ∈ own.map (·.2))
    (hg : ∀ (s : Shared) (H : Hp) (C : Addr) (cl : List (Str × Addr)) (fp : List Addr), PG (X.blk s H scope (compEnvC scope cl C X.env) fp) tg g) (ht : ∀ (s : Shared) (H : Hp) (C : Addr) (cl : List (Str × Addr)) (fp : List Addr), PTs (X.blk s H scope (compEnvC scope cl C X.env) fp) ifs tt)
    (hi1 : ∀ (s : Shared) (H : Hp) (C : Addr) (cl : List (Str × Addr)) (fp : List Addr), PI (X.blk s H scope (compEnvC scope cl C X.env) fp) tg1 iter1 wi1)
    (hg1 : ∀ (s : Shared) (H : Hp) (C : Addr) (cl : List (Str × Addr)) (fp : List Addr), PG (X.blk s H scope (compEnvC scope cl C X.env) fp) tg1 g1) (ht1 : ∀ (s : Shared) (H : Hp) (C : Addr) (cl : List (Str × Addr)) (fp : List Addr), PTs (X.blk s H scope (compEnvC scope cl C X.env) fp) ifs1 tt1)
    (he : ∀ (s : Shared) (H : Hp) (C : Addr) (cl : List (Str × Addr)) (fp : List Addr), PE (X.blk s H scope (compEnvC scope cl C X.env) fp) elt te) (hs : ∀ x, foldedSetIterable iter X.env x = pure x := by intro _; rfl) (hs1 : ∀ env x, foldedSetIterable iter1 env x = pure x := by intro _ _; rfl) :
    PS X (.Assign [.Name y py] (.SetComp elt [⟨tg, iter, ifs, 0⟩, ⟨tg1, iter1, ifs1, 0⟩] scope pos) spos) (tAsg (tSc2G SO t0 Pre Post wi g tt wi1 g1 tt1 te (own.map (·.2)) vs1) (gName i)) := by
  refine ⟨fun pins s σ H D I h => ?_⟩
  rw [exec_Assign_Name_used _ _ _ _ hsw]
  refine wpAny_bind (wpAny_standAt (wpAny_bind ?_))
  show wpAny _ X.A (do let _ ← comprehension (.SetComp elt [⟨tg, iter, ifs, 0⟩, ⟨tg1, iter1, ifs1, 0⟩] scope pos) scope X.env (firstIterPos [⟨tg, iter, ifs, 0⟩, ⟨tg1, iter1, ifs1, 0⟩] pos) (newSet (.type "set")) false (eval iter X.env) (some (assign (.Name y py) X.env))) _ _ s
  have h : tSc2G SO t0 Pre Post wi g tt wi1 g1 tt1 te (own.map (·.2)) vs1 σ H (fun x H1 => gName i x σ H1 D.nx) := h
  refine wpAny_bind (thn (sc2G_core (Qf := fun _ s' => SP X pins D .next s') hc hN I hi ok hv hg ht he hs hi1 hg1 ht1 hs1 R h fun L C s' m H' I' q hn f => ?_) fun _ s' hq => wpAny_pure (wpAny_pure hq))
  show wpAny _ _ (assign (.Name y py) X.env (.ref L)) _ _ _
  refine wpAny_assign_Name (store_ok2 (v := V.ref L) I' hN hy (.inl hyl) rfl (fun s2 I2 ⟨a, sb, ha⟩ => ?_) (.inr hyl))
  obtain ⟨f0, f1, f2, f3, f4, f5⟩ := f
  have haC : C ≠ a := by
    rcases ha with z | z
    · rw [z]; exact f1
    · exact fun e => f4 y a z e.symm
  refine ⟨m, hn.sameBut sb haC, fun h3 sb3 => ?_⟩
  exact ⟨_, H', I2.turned (t' := s2.toks) (fun b o hb e => (sb3.2 b hb).trans e) f0 f1 f3 f4 f5, q⟩
end
end K65
/-! dicts whose keys are tuples: dict(list of pairs), d.update(another) -/
namespace K65
open PySem PySem.Spec PyProof.Rows L2
def mergeT (acc more : List (List Key × V)) : List (List Key × V) := more.foldl (fun a kv => putK a kv.1 kv.2) acc
theorem KT_merge {H : Hp} : ∀ {more : List (List Key × V)} {ys : List (List Key × Addr × Value)} {acc : List (List Key × V)} {xs : List (List Key × Addr × Value)}, KT H more ys → KT H acc xs → KT H (mergeT acc more) (storedAllH xs ys)
  | [], _, _, _, .nil, h => h
  | kv :: more, (k, b, u) :: ys, acc, xs, .cons h t, hx => by
    obtain ⟨e, hb, r⟩ := h
    simp only at e hb r
    show KT H (mergeT (putK acc kv.1 kv.2) more) (storedAllH (storedH xs k b u) ys)
    refine KT_merge t ?_
    rw [← e]
    exact hx.put kv.1 hb r
theorem length_putK {κ : Type} [DecidableEq κ] (acc : List (κ × V)) (k : κ) (v : V) : (putK acc k v).length ≤ acc.length + 1 := by
  unfold putK
  split
  · rw [List.length_map]; omega
  · rw [List.length_append]; exact Nat.le_refl _
theorem length_mergeT : ∀ (more acc : List (List Key × V)), (mergeT acc more).length ≤ acc.length + more.length
  | [], _ => Nat.le_refl _
  | kv :: more, acc => by
    have h1 := length_mergeT more (putK acc kv.1 kv.2)
    have h2 := length_putK acc kv.1 kv.2
    show (mergeT (putK acc kv.1 kv.2) more).length ≤ _
    rw [List.length_cons]
    omega
theorem mergeT_nodup : ∀ (kvs acc : List (List Key × V)), (kvs.map (·.1)).Nodup → (∀ k ∈ kvs.map (·.1), k ∉ acc.map (·.1)) → mergeT acc kvs = acc ++ kvs
  | [], acc, _, _ => by simp [mergeT]
  | kv :: r, acc, h, hd => by
    rw [List.map_cons, List.nodup_cons] at h
    have hk : putK acc kv.1 kv.2 = acc ++ [kv] := by
      unfold putK
      rw [if_neg]
      intro z
      obtain ⟨x, hx, e⟩ := List.any_eq_true.mp z
      exact hd kv.1 (by simp) (List.mem_map.mpr ⟨x, hx, of_decide_eq_true e⟩)
    have ih := mergeT_nodup r (acc ++ [kv]) h.2 (fun k hk2 z => by
      rw [List.map_append, List.mem_append] at z
      rcases z with z | z
      · exact hd k (by rw [List.map_cons]; exact List.mem_cons_of_mem _ hk2) z
      · have : k = kv.1 := by simpa using z
        subst this
        exact h.1 hk2)
    show mergeT (putK acc kv.1 kv.2) r = _
    rw [hk, ih, List.append_assoc]
    rfl
/-- no two keys hash alike -/
def Alone (P : Program) (w : World) (kvs : List (List Key × V)) : Prop := (kvs.map fun kv => (tupleKind (mixKind P w)).hash kv.1).Nodup
theorem KT_keys {H : Hp} {β : Type} (f : List Key → β) : ∀ {kvs : List (List Key × V)} {xs : List (List Key × Addr × Value)}, KT H kvs xs → xs.map (fun x => f x.1) = kvs.map (fun kv => f kv.1)
  | [], _, .nil => rfl
  | _ :: _, _ :: _, .cons h t => by rw [List.map_cons, List.map_cons, KT_keys f t, h.1]
def rUpd (P : Program) (w : World) : V → List V → Hp → VK → Prop := fun x vs H Q => ∃ d o acc more, x = .ref d ∧ vs = [.ref o] ∧ d ≠ o ∧ H d = some (.dT acc) ∧ H o = some (.dT more) ∧ (acc ≠ [] ∨ Alone P w more) ∧ acc.length + more.length ≤ sizeLine ∧ Q .non (upd H d (.dT (mergeT acc more)))
theorem mt_update {X : Cx} (hu : X.A.units + 2 < cLine) : MtR X "dict.update" (rUpd X.prog X.w) := by
  intro pins s σ H x vs v us Q I rx rv h
  obtain ⟨d, o, acc, more, rfl, rfl, hdo, hd, ho, hap, hsz, q⟩ := h
  obtain ⟨u, rfl, ru⟩ := rv.one
  cases (show v = Value.ref d from rx)
  cases (show u = Value.ref o from ru)
  obtain ⟨hl1, hs1, xs, r1, D1⟩ := dt_of I.hok hd
  obtain ⟨hl2, hs2, ys, r2, D2⟩ := dt_of I.hok ho
  have n1 := r1.length
  have n2 := r2.length
  refine call_update_dictH (knd := tupleKind (mixKind X.prog X.w)) (by show X.A.units + 1 < cLine; omega) hdo hs2 D1 D2 ?_ (by omega) fun h' hd' ho' hs => ?_
  · rcases hap with z | z
    · refine .inl fun e => z ?_
      rw [e] at n1
      exact List.eq_nil_of_length_eq_zero n1
    · obtain ⟨_, _, _, _, _, _, _, his, _⟩ := id D2
      refine .inr ⟨fun x hx => tupleKind_stays.tuple (his x hx), ?_⟩
      rw [KT_keys (fun k => (tupleKind (mixKind X.prog X.w)).hash k) r2]
      exact z
  · have he : ∃ u, h'.get? d = some u := by
      obtain ⟨ob, _, _, hob, _⟩ := hd'
      exact ⟨ob, hob⟩
    refine ⟨.non, upd H d (.dT (mergeT acc more)), I.write (e := d) (t' := s.toks) (by rw [hd]; trivial) (.inl rfl) (fun c u hb hu => (hs.2 c hb).trans hu) he ?_, rfl, q⟩
    obtain ⟨ob, es, ep, h1, h2, h3, h4, h5, h6⟩ := hd'
    refine ⟨Nat.le_trans (length_mergeT more acc) hsz, hs1, storedAllH xs ys, KT.keeps (KT_merge r2 r1) (fun b ys' hb => ?_), ob, es, ep, h1, h2, h3, h4, h6⟩
    rw [upd_ne (fun e => by rw [e, hd] at hb; cases hb)]
    exact hb
theorem type_dict_update : typeOf (.builtin "dict.update") = pure (.type "method_descriptor") := by show builtinType _ = _; rw [builtinType_eq_fast]; kernel_rfl
theorem pairsT_of {X : Cx} {pins : List (Addr × Obj)} {σ : L2.St} {H : Hp} {s : Shared} (I : Inv X pins σ H s) : ∀ {ps : List Addr} {kvs : List (List Key × V)}, Paired (fun p kv => ∃ b, SqT X.K H p [.ref b, kv.2] ∧ H b = some (.tup (kv.1.map kV))) ps kvs →
    ∃ qs : List (List Key × Addr × Value), KT H kvs qs ∧ qs.length = ps.length ∧ ∀ (j : Nat) (q : List Key × Addr × Value), qs[j]? = some q → ∃ p : Addr, ps[j]? = some p ∧ IsTup s.heap p #[.ref q.2.1, q.2.2]
  | _, _, .nil => ⟨[], .nil, rfl, fun j q e => by simp at e⟩
  | _, _, .cons (a := p) (b := kv) h t => by
    obtain ⟨qs, r, hl, hp⟩ := pairsT_of I t
    obtain ⟨b, h1, h2⟩ := h
    obtain ⟨its, rv, ht, _⟩ := I.tuple h1
    obtain ⟨u, y, ei, ru, ry⟩ := vals2 rv
    subst ei
    cases (show u = Value.ref b from ru)
    refine ⟨(kv.1, b, y) :: qs, .cons ⟨rfl, h2, ry⟩ r, by rw [List.length_cons, List.length_cons, hl], fun j q e => ?_⟩
    cases j with
    | zero =>
      have e' : (kv.1, b, y) = q := Option.some.inj e
      subst e'
      exact ⟨p, rfl, ht⟩
    | succ j => exact hp j q e
def rDictT (K : PySem.W.Frag) : List V → Hp → VK → Prop := fun xs H Q => ∃ (a : Addr) (ps : List Addr) (kvs : List (List Key × V)), xs = [.ref a] ∧ SqL K H a (ps.map V.ref) ∧ Paired (fun p kv => ∃ b, SqT K H p [.ref b, kv.2] ∧ H b = some (.tup (kv.1.map kV))) ps kvs ∧
    ∀ p, H p = none → Q (.ref p) (upd H p (.dT (mergeT [] kvs)))
theorem call_dictPT {X : Cx} (hu : X.A.units + 4 < cLine) (hcalm : X.calm = true) : CallR X (.type "dict") (rDictT X.K) := by
  intro pins s σ H xs us Q I r q
  obtain ⟨a, ps, kvs, ex, hq, hp, q⟩ := q
  subst ex
  obtain ⟨u, eu, rx⟩ := vals1 r
  subst eu
  cases rx
  obtain ⟨its, rv, pl, hz⟩ := I.list hq
  have ei := refs_at rv
  subst ei
  rw [List.length_map] at hz
  obtain ⟨qs, rel, hl, hpr⟩ := pairsT_of I hp
  have hkl := rel.length
  have hkey : ∀ x ∈ qs, (tupleKind (mixKind X.prog X.w)).is s.heap x.1 x.2.1 := by
    have all : ∀ {l : List (List Key × V)} {m : List (List Key × Addr × Value)}, KT H l m → ∀ x ∈ m, (tupleKind (mixKind X.prog X.w)).is s.heap x.1 x.2.1 := by
      intro l m t
      induction t with
      | nil => intro x hx; exact nomatch hx
      | @cons p y l m h t ih =>
        intro x hx
        rcases List.mem_cons.mp hx with e | hx
        · subst e
          exact key_of I.hok (by rw [← h.1]; exact h.2.1)
        · exact ih x hx
    exact all rel
  let prs : List (Value × Value) := qs.map fun q => (Value.ref q.2.1, q.2.2)
  have hprl : prs.length = ps.length := by rw [List.length_map, hl]
  have hget : ∀ (j : Nat) k v, prs[j]? = some (k, v) → ∃ y : List Key × Addr × Value, qs[j]? = some y ∧ k = .ref y.2.1 ∧ v = y.2.2 := fun j k v e => by
    rw [List.getElem?_map] at e
    cases hq : qs[j]? with
    | none => rw [hq] at e; cases e
    | some y =>
      rw [hq] at e
      cases e
      exact ⟨y, rfl, rfl, rfl⟩
  refine call_dict_pairsH (knd := tupleKind (mixKind X.prog X.w)) (ps := qs) (PairArg.list a (ps.map Value.ref).toArray (fun j => ps.getD j 0) prs) (I.ok.hd hcalm) (by show X.A.units + 1 + 1 < cLine; omega) ⟨pl, ?_, fun j k v e => ?_⟩ ⟨by rw [hprl, hl], fun i key v e => ?_⟩ (fun h' hk x hx => ?_) (by rw [hprl]; omega) fun h' tk hd' k => ?_
  · simp [hprl]
  · obtain ⟨y, hy, rfl, rfl⟩ := hget j k v e
    obtain ⟨p, h1, h2⟩ := hpr j y hy
    refine ⟨by simp [h1], .inl ?_⟩
    show s.heap.IsTuple (ps.getD j 0) _
    rw [List.getD_eq_getElem?_getD, h1]
    exact h2
  · obtain ⟨y, hy, rfl, rfl⟩ := hget i key v e
    exact ⟨y.1, y.2.1, hy, rfl⟩
  · exact tupleKind_stays.stays (fun b o vs n e _ => hk b o (Nat.ne_of_lt (Heap.lt_size e)) (by simp) e) (hkey x hx)
  · have hm : (s.heap.objs.size == sysModules) = false := beq_eq_false_iff_ne.mpr (Nat.ne_of_gt I.big)
    have hlen : (mergeT [] kvs).length ≤ sizeLine := by
      refine Nat.le_trans (length_mergeT kvs []) ?_
      rw [List.length_nil, Nat.zero_add, hkl, hl]
      exact hz
    have hfr : H s.heap.objs.size = none := I.hok.fresh (Nat.le_refl _)
    obtain ⟨ob, es, ep, h1, h2, h3, h4, h5, h6⟩ := hd'
    refine ⟨.ref s.heap.objs.size, upd H s.heap.objs.size (.dT (mergeT [] kvs)), I.laid (t' := tk) (fun b o e => k b o (by simp) e) (Nat.le_refl _) (show ObjOk X.prog X.w _ _ _ (.dT (mergeT [] kvs)) from ⟨hlen, hm, storedAllH [] qs, KT.keeps (KT_merge rel .nil) (fun b ys' hb => ?_), ob, es, ep, h1, h2, h3, h4, h6⟩), rfl, q _ hfr⟩
    rw [upd_ne (ne_of_none hb hfr)]
    exact hb
theorem call_dictPTK {X : Cx} (K : PySem.W.Frag) (hu : X.A.units + 4 < cLine) (hc : X.calm = true := by rfl) (h : X.K = K := by rfl) : CallR X (.type "dict") (rDictT K) := by subst h; exact call_dictPT hu hc
/-- small pairs hash each its own way -/
def kp2 (a b : Nat) : List Key := [Sum.inl (a : Int), Sum.inl (b : Int)]
def hp2 (a b : Nat) : Int := reduceHash (Builtin.Tuple.tupleHashOf [hashInt (a : Int), hashInt (b : Int)])
theorem hp2_is (P : Program) (w : World) (a b : Nat) : (tupleKind (mixKind P w)).hash (kp2 a b) = hp2 a b := rfl
theorem hp2_all : ((List.range 49).map fun i => hp2 (i / 7) (i % 7)).Nodup := by decide +kernel
theorem hp2_inj {a b c d : Nat} (ha : a < 7) (hb : b < 7) (hc : c < 7) (hd : d < 7) (h : hp2 a b = hp2 c d) : a = c ∧ b = d := by
  have n := hp2_all
  have g : ∀ x y, x < 7 → y < 7 → ((List.range 49).map fun i => hp2 (i / 7) (i % 7))[7 * x + y]? = some (hp2 x y) := fun x y hx hy => by
    rw [List.getElem?_map, List.getElem?_range (by omega)]
    show some (hp2 ((7 * x + y) / 7) ((7 * x + y) % 7)) = _
    rw [show (7 * x + y) / 7 = x by omega, show (7 * x + y) % 7 = y by omega]
  have e : ((List.range 49).map fun i => hp2 (i / 7) (i % 7))[7 * a + b]? = ((List.range 49).map fun i => hp2 (i / 7) (i % 7))[7 * c + d]? := by rw [g a b ha hb, g c d hc hd, h]
  have := (List.getElem?_inj (by simp; omega) n).mp e
  omega
theorem alone_gen {f : List Key → Int} (hf : ∀ a b c d : Nat, a < 7 → b < 7 → c < 7 → d < 7 → f (kp2 a b) = f (kp2 c d) → kp2 a b = kp2 c d) : ∀ {kvs : List (List Key × V)}, (∀ kv ∈ kvs, ∃ a b : Nat, a < 7 ∧ b < 7 ∧ kv.1 = kp2 a b) → (kvs.map (·.1)).Nodup → (kvs.map fun kv => f kv.1).Nodup
  | [], _, _ => List.nodup_nil
  | kv :: r, h, n => by
    rw [List.map_cons, List.nodup_cons] at n ⊢
    refine ⟨fun z => ?_, alone_gen hf (fun x hx => h x (List.mem_cons_of_mem _ hx)) n.2⟩
    obtain ⟨kv2, hkv2, e⟩ := List.mem_map.mp z
    obtain ⟨a, b, ha, hb, e1⟩ := h kv (List.mem_cons_self ..)
    obtain ⟨c, d, hc, hd, e2⟩ := h kv2 (List.mem_cons_of_mem _ hkv2)
    rw [e1, e2] at e
    have := hf c d a b hc hd ha hb e
    exact n.1 (List.mem_map.mpr ⟨kv2, hkv2, by rw [e1, e2]; exact this⟩)
theorem alone_of {P : Program} {w : World} {kvs : List (List Key × V)} (h : ∀ kv ∈ kvs, ∃ a b : Nat, a < 7 ∧ b < 7 ∧ kv.1 = kp2 a b) (n : (kvs.map (·.1)).Nodup) : Alone P w kvs :=
  alone_gen (f := (tupleKind (mixKind P w)).hash) (fun a b c d ha hb hc hd e => by
    rw [hp2_is, hp2_is] at e
    have := hp2_inj ha hb hc hd e
    rw [this.1, this.2]) h n
end K65
/-! the rules with the written part named (so that they stand within comprehensions) -/
namespace K65
open PySem PySem.Spec PyProof.Rows L2
section
variable {X : Cx} (K : PySem.W.Frag)
theorem pi_tupK {tg l : Expr} {tl : TE} (hl : PE X l tl) (h : X.K = K := by rfl) : PI X tg l (iTup K tl) := by subst h; exact pi_tup hl
theorem pi_listK {tg l : Expr} {tl : TE} (hl : PE X l tl) (h : X.K = K := by rfl) : PI X tg l (iList K tl) := by subst h; exact pi_list hl
theorem ix_tupK (h : X.K = K := by rfl) : IxR X (rIxT K) := by subst h; exact ix_tup
theorem ix_listK (h : X.K = K := by rfl) : IxR X (rIxL K) := by subst h; exact ix_list
theorem sl_tupK (h : X.K = K := by rfl) : SlR X (rSlT K) := by subst h; exact sl_tup
theorem sl_listK (h : X.K = K := by rfl) : SlR X (rSlL K) := by subst h; exact sl_list
def rLenQ (K : PySem.W.Frag) : List V → Hp → VK → Prop := fun xs H Q => ∃ p ys, xs = [.ref p] ∧ (SqL K H p ys ∨ SqT K H p ys) ∧ Q (.int ys.length) H
theorem call_len_seqK (h : X.K = K := by rfl) : CallR X (.builtin "len") (rLenQ K) := by subst h; exact call_len_seq
def rTupQ (K : PySem.W.Frag) : List V → Hp → VK → Prop := fun xs H Q => ∃ p ys, xs = [.ref p] ∧ ((SqL K H p ys ∧ ∀ l, H l = none → Q (.ref l) (upd H l (.tup ys))) ∨ (SqT K H p ys ∧ Q (.ref p) H))
theorem call_tuple_ofK (h : X.K = K := by rfl) : CallR X (.type "tuple") (rTupQ K) := by subst h; exact call_tuple_of
def rLstQ (K : PySem.W.Frag) : List V → Hp → VK → Prop := fun xs H Q => ∃ p ys, xs = [.ref p] ∧ (SqL K H p ys ∨ SqT K H p ys) ∧ ∀ l, H l = none → Q (.ref l) (upd H l (.lst ys))
theorem call_list_ofK (h : X.K = K := by rfl) : CallR X (.type "list") (rLstQ K) := by subst h; exact call_list_of
theorem cr_allK (hc : X.calm = true := by rfl) (h : X.K = K := by rfl) : CallR X (.builtin "all") (rAll K) := by subst h; exact cr_all hc
theorem cr_anyK (hc : X.calm = true := by rfl) (h : X.K = K := by rfl) : CallR X (.builtin "any") (rAny K) := by subst h; exact cr_any hc
theorem cr_sumK (hc : X.calm = true := by rfl) (h : X.K = K := by rfl) : CallR X (.builtin "sum") (rSum K) := by subst h; exact cr_sum hc
theorem cr_sortedIK (h : X.K = K := by rfl) : CallR X (.builtin "sorted") (rSortedI K) := by subst h; exact cr_sortedI
theorem cr_sortedTIK (h : X.K = K := by rfl) : CallR X (.builtin "sorted") (rSortedTI K) := by subst h; exact cr_sortedTI
theorem cr_sortTTK {d : Nat} {B : Int} (hd : 1 ≤ d) (h : X.K = K := by rfl) : CallR X (.builtin "sorted") (rSortUT K d B) := by subst h; exact cr_sortTT hd
theorem call_isiK (h : X.K = K := by rfl) : CallR X (.builtin "isinstance") (rIsi K) := by subst h; exact call_isi
theorem op_eqDK (hu : X.A.units + 64 < cLine) (h : X.K = K := by rfl) : OpR X (compareOp .Eq) (rEqD K) := by subst h; exact op_eqD hu
theorem op_neDK (hu : X.A.units + 64 < cLine) (h : X.K = K := by rfl) : OpR X (compareOp .NotEq) (rNeD K) := by subst h; exact op_neD hu
theorem op_inDK (hu : X.A.units + 65 < cLine) (h : X.K = K := by rfl) : OpR X (compareOp .In) (rInD K) := by subst h; exact op_inD hu
theorem op_notInDK (hu : X.A.units + 65 < cLine) (h : X.K = K := by rfl) : OpR X (compareOp .NotIn) (rNotInD K) := by subst h; exact op_notInD hu
theorem op_in_seqK (h : X.K = K := by rfl) : OpR X (compareOp .In) (rIn K false) := by subst h; exact op_in_seq
theorem op_notIn_seqK (h : X.K = K := by rfl) : OpR X (compareOp .NotIn) (rIn K true) := by subst h; exact op_notIn_seq
theorem op_catAK (h : X.K = K := by rfl) : OpR X (binaryOp .Add) (rCatA K) := by subst h; exact op_catA
theorem mt_indexK (h : X.K = K := by rfl) : MtR X "list.index" (rIndex K) := by subst h; exact mt_index
theorem pg_tupK {es : List Expr} {k : Nat} {t : TGs} {n : Nat} {pos : Pos} (hc : X.calm = true) (hp : PGs X es t) (h : X.K = K := by rfl)
    (hn : (assignEach es X.env).length = n := by rfl) (hst : (assignEach es X.env).findIdx? (·.1) = none := by rfl) : PG X (.Tuple es k pos) (gTup K n t) := by subst h; exact pg_tup hc hp hn hst
theorem pa_starK {e : Expr} {es : List Expr} {te : TE} {t : TA} {p : Pos} (he : PE X e te) (hr : PA X es t) (h : X.K = K := by rfl) (hs : starEach (.Starred e p :: es) X.env = (true, eval e X.env) :: starEach es X.env := by rfl) : PA X (.Starred e p :: es) (StX.tStar K te t) := by subst h; exact StX.pa_star he hr hs
theorem pe_revLK {e : Expr} {te : TE} {k : Nat} {p1 p2 p3 pos : Pos} (he : PE X e te) (h : X.K = K := by rfl) : PE X (.Subscript e (.Slice none none (some (.UnaryOp .USub (.Constant (.int 1) k p1) p2)) p3) pos) (tRevL K te) := by subst h; exact pe_revL he
theorem pe_revTK {e : Expr} {te : TE} {k : Nat} {p1 p2 p3 pos : Pos} (he : PE X e te) (h : X.K = K := by rfl) : PE X (.Subscript e (.Slice none none (some (.UnaryOp .USub (.Constant (.int 1) k p1) p2)) p3) pos) (tRevT K te) := by subst h; exact pe_revT he
theorem pi_zipAK {e e2 : Expr} {ta : TA} {p pos tpos : Pos} {elts : List Expr} {kk : Nat} (hg : Gl X "zip") (hm : X.mg "zip" = none) (ha : PA X [e, e2] ta) (h : X.K = K := by rfl)
    (hs : starEach [e, e2] X.env = (false, eval e X.env) :: starEach [e2] X.env := by rfl) (hpl : (backTo pos (starEach [e2] X.env)).any (·.1) = false := by rfl) :
    PI X (.Tuple elts kk tpos) (.Call (.Name "zip" p) [e, e2] [] pos) (RZ.iZipA K ta) := by subst h; exact RZ.pi_zipA hg hm ha hs hpl
theorem pi_enumK {e : Expr} {ta : TA} {p pos tpos : Pos} {elts : List Expr} {kk : Nat} (hg : Gl X "enumerate") (hm : X.mg "enumerate" = none) (ha : PA X [e] ta) (h : X.K = K := by rfl) (hs : starEach [e] X.env = [(false, eval e X.env)] := by rfl) :
    PI X (.Tuple elts kk tpos) (.Call (.Name "enumerate" p) [e] [] pos) (iEnum K ta) := by subst h; exact pi_enum hg hm ha hs
theorem pi_enumTK {e : Expr} {ta : TA} {p pos tpos : Pos} {elts : List Expr} {kk : Nat} (hg : Gl X "enumerate") (hm : X.mg "enumerate" = none) (ha : PA X [e] ta) (h : X.K = K := by rfl) (hs : starEach [e] X.env = [(false, eval e X.env)] := by rfl) :
    PI X (.Tuple elts kk tpos) (.Call (.Name "enumerate" p) [e] [] pos) (iEnumT K ta) := by subst h; exact pi_enumT hg hm ha hs
def rDictQ (K : PySem.W.Frag) : List V → Hp → VK → Prop := fun xs H Q => ∃ (a : Addr) (ps : List Addr) (kvs : List (Key × V)), xs = [.ref a] ∧ SqL K H a (ps.map V.ref) ∧ Paired (fun p kv => SqT K H p [kV kv.1, kv.2]) ps kvs ∧
    ∀ p, H p = none → Q (.ref p) (upd H p (.dK (mergeK [] kvs)))
theorem call_dictPK (hc : X.calm = true := by rfl) (h : X.K = K := by rfl) : CallR X (.type "dict") (rDictQ K) := by subst h; exact call_dictP hc
end
theorem room65 {A : Around} {k : Nat} (hr : Room k A) : A.units + 65 < cLine := by
  have := hr.un
  omega
theorem room2 {A : Around} {k : Nat} (hr : Room k A) : A.units + 2 < cLine := by
  have := hr.un
  omega
/-! ### readings in short -/
section
variable {K : PySem.W.Frag} {H : Hp} {a : Addr} {Q : VK}
theorem ixT_v {xs : List V} {i : Nat} {v : V} (h : H a = some (.tup xs)) (hi : xs[i]? = some v) (q : Q v H) : rIxT K (.ref a) (.int (i : Int)) H Q := ⟨a, xs, _, v, rfl, rfl, Evl.st_of h, at_n hi, q⟩
theorem ixL_v {xs : List V} {i : Nat} {v : V} (h : H a = some (.lst xs)) (hi : xs[i]? = some v) (q : Q v H) : rIxL K (.ref a) (.int (i : Int)) H Q := ⟨a, xs, _, v, rfl, rfl, Evl.sq_of h, at_n hi, q⟩
theorem ixT_n {ns : List Nat} {i n : Nat} (h : H a = some (.tup (ns.map iv))) (hi : ns[i]? = some n) (q : Q (iv n) H) : rIxT K (.ref a) (.int (i : Int)) H Q := ixT_v h (iv_at hi) q
theorem ixL_n {ns : List Nat} {i n : Nat} (h : H a = some (.lst (ns.map iv))) (hi : ns[i]? = some n) (q : Q (iv n) H) : rIxL K (.ref a) (.int (i : Int)) H Q := ixL_v h (iv_at hi) q
theorem cut_take {xs : List V} {i : Nat} (h : i ≤ xs.length) : cutV xs none (some (i : Int)) = xs.take i := by
  unfold cutV
  rw [HT.sIx_none, HT.sIx_nat, List.drop_zero, Nat.sub_zero, Nat.min_eq_left h]
theorem cut_drop {xs : List V} {i : Nat} (h : i ≤ xs.length) : cutV xs (some (i : Int)) none = xs.drop i := by
  unfold cutV
  rw [HT.sIx_none, HT.sIx_nat, Nat.min_eq_left h]
  exact List.take_of_length_le (by rw [List.length_drop]; exact Nat.le_refl _)
theorem cut_init {xs : List V} : cutV xs none (some (-1)) = xs.take (xs.length - 1) := by
  unfold cutV
  rw [HT.sIx_none, List.drop_zero, Nat.sub_zero]
  congr 1
  have h : HT.sIx xs.length xs.length (some (-1)) = ((-1 : Int) + (xs.length : Int)).toNat := rfl
  rw [h]
  omega
theorem walk_rn {j : Int} {n : Nat} (h : j.toNat = n) : Walk (Itr 0 j.toNat) n (fun _ => True) (YFn iv) := by
  subst h
  refine walk_range.mono (fun _ h => h) fun i H x H' _ _ y => ⟨y.1, ?_⟩
  rw [y.2]
  show V.int (0 + (i : Int)) = V.int (i : Int)
  rw [Int.zero_add]
end
end K65
set_option autoImplicit false
namespace K65
section
variable {α : Type} [DecidableEq α]
/-- pigeonhole: what lies in a list and has no repetition is no longer than it; if as long, it is the same but for the order -/
theorem sub_len : ∀ {l m : List α}, l.Nodup → (∀ x ∈ l, x ∈ m) → l.length ≤ m.length
  | [], _, _, _ => Nat.zero_le _
  | a :: l, m, hn, hs => by
    obtain ⟨h1, h2⟩ := List.nodup_cons.mp hn
    have ha : a ∈ m := hs a List.mem_cons_self
    have p := List.perm_cons_erase ha
    have q := sub_len (l := l) (m := m.erase a) h2 fun x hx =>
      (List.mem_erase_of_ne (fun (e : x = a) => h1 (by rw [← e]; exact hx))).mpr (hs x (List.mem_cons_of_mem _ hx))
    rw [p.length_eq, List.length_cons, List.length_cons]
    exact Nat.succ_le_succ q
theorem sub_perm : ∀ {l m : List α}, l.Nodup → (∀ x ∈ l, x ∈ m) → m.length ≤ l.length → l.Perm m
  | [], m, _, _, hl => by
    have : m = [] := List.eq_nil_of_length_eq_zero (Nat.le_zero.mp hl)
    rw [this]
  | a :: l, m, hn, hs, hl => by
    obtain ⟨h1, h2⟩ := List.nodup_cons.mp hn
    have ha : a ∈ m := hs a List.mem_cons_self
    have p := List.perm_cons_erase ha
    have q := sub_perm (l := l) (m := m.erase a) h2 (fun x hx =>
      (List.mem_erase_of_ne (fun (e : x = a) => h1 (by rw [← e]; exact hx))).mpr (hs x (List.mem_cons_of_mem _ hx))) (by
        rw [p.length_eq, List.length_cons, List.length_cons] at hl
        exact Nat.le_of_succ_le_succ hl)
    exact (List.Perm.cons a q).trans p.symm
end

/-- a renaming of the order n -/
def PermN (n : Nat) (t : List Nat) : Prop := t.length = n ∧ t.Nodup ∧ ∀ x ∈ t, x < n
instance (n : Nat) (t : List Nat) : Decidable (PermN n t) := by unfold PermN; infer_instance

theorem PermN.perm {n : Nat} {t : List Nat} (h : PermN n t) : t.Perm (List.range n) :=
  sub_perm h.2.1 (fun x hx => List.mem_range.mpr (h.2.2 x hx)) (by rw [List.length_range, h.1]; exact Nat.le_refl _)
theorem permN_of_perm {n : Nat} {t : List Nat} (h : t.Perm (List.range n)) : PermN n t :=
  ⟨by rw [h.length_eq, List.length_range], h.nodup_iff.mpr List.nodup_range, fun x hx => List.mem_range.mp (h.mem_iff.mp hx)⟩
theorem permN_iff {n : Nat} {t : List Nat} : PermN n t ↔ t.Perm (List.range n) := ⟨PermN.perm, permN_of_perm⟩
theorem PermN.mem {n : Nat} {t : List Nat} (h : PermN n t) {x : Nat} (hx : x < n) : x ∈ t := h.perm.mem_iff.mpr (List.mem_range.mpr hx)
theorem permN_range (n : Nat) : PermN n (List.range n) := permN_of_perm (List.Perm.refl _)
/-- all signs below n, none twice: it has n entries exactly if it has each -/
theorem permN_of_len {n : Nat} {t : List Nat} (h1 : t.length = n) (h2 : t.Nodup) (h3 : ∀ x ∈ t, x < n) : PermN n t := ⟨h1, h2, h3⟩
/-- an ascending arrangement of a renaming is the range, and of nothing else -/
theorem sorted_range {n : Nat} {t s : List Nat} (p : s.Perm t) (h : s.Pairwise (· ≤ ·)) : s = List.range n ↔ PermN n t := by
  constructor
  · intro e
    subst e
    exact permN_of_perm p.symm
  · intro q
    have pr : s.Perm (List.range n) := p.trans q.perm
    have hr : (List.range n).Pairwise (· ≤ ·) := List.pairwise_lt_range.imp fun h => Nat.le_of_lt h
    exact pr.eq_of_pairwise (fun a b _ _ h1 h2 => Nat.le_antisymm h1 h2) h hr

/-! ### bit masks -/
theorem add_or : ∀ a b : Nat, a &&& b = 0 → a + b = a ||| b := by
  intro a
  induction a using Nat.strongRecOn with
  | ind a ih =>
    intro b h
    by_cases h0 : a = 0
    · subst h0; simp
    · have h2 : a / 2 &&& b / 2 = 0 := by rw [← Nat.and_div_two, h]
      have i := ih (a / 2) (by omega) (b / 2) h2
      have e1 : (a ||| b) / 2 = a / 2 ||| b / 2 := Nat.or_div_two
      have e2 := @Nat.or_mod_two_eq_one a b
      have e3 := @Nat.and_mod_two_eq_one a b
      rw [h] at e3
      rw [← i] at e1
      omega
def mask : List Nat → Nat
  | [] => 0
  | c :: cs => 2 ^ c + mask cs
theorem mask_append (l : List Nat) (c : Nat) : mask (l ++ [c]) = mask l + 2 ^ c := by
  induction l with
  | nil => simp [mask]
  | cons a l ih => simp only [List.cons_append, mask, ih]; omega
theorem and_pow (m c : Nat) : m &&& 2 ^ c = if m.testBit c then 2 ^ c else 0 := by
  apply Nat.eq_of_testBit_eq
  intro i
  rw [Nat.testBit_and, Nat.testBit_two_pow]
  by_cases e : c = i
  · subst e
    cases h : m.testBit c
    · simp
    · simp [Nat.testBit_two_pow]
  · cases h : m.testBit c
    · simp [e]
    · simp [e, Nat.testBit_two_pow]
theorem mask_bit : ∀ {l : List Nat}, l.Nodup → ∀ i, (mask l).testBit i = decide (i ∈ l)
  | [], _, i => by simp [mask]
  | c :: l, h, i => by
    obtain ⟨h1, h2⟩ := List.nodup_cons.mp h
    have ih := mask_bit h2
    have hz : 2 ^ c &&& mask l = 0 := by
      rw [Nat.and_comm, and_pow, ih c, decide_eq_false h1]; rfl
    rw [mask, add_or _ _ hz, Nat.testBit_or, ih i, Nat.testBit_two_pow]
    by_cases e : c = i
    · subst e; simp
    · have e' : ¬ i = c := fun z => e z.symm
      simp [e, e']
theorem mask_and {l : List Nat} (h : l.Nodup) (c : Nat) : (mask l &&& 2 ^ c = 0) ↔ c ∉ l := by
  rw [and_pow, mask_bit h c]
  by_cases e : c ∈ l
  · simp only [e, decide_true, if_true, not_true_eq_false, iff_false]
    have := Nat.two_pow_pos c
    omega
  · simp [e]

/-! ### signs along columns, transversals -/
/-- the signs along a choice of columns -/
def sg (rs : List (List Nat)) (t : List Nat) : List Nat := List.zipWith (fun r c => r.getD c 0) rs t
/-- one more row: the begun transversal p with a column below i -/
def ext1 (row : List Nat) (p : List Nat × List Nat) (i : Nat) : List (List Nat × List Nat) :=
  ((List.range i).filter fun c => !(decide (c ∈ p.1)) && !(decide (row.getD c 0 ∈ p.2))).map fun c => (p.1 ++ [c], p.2 ++ [row.getD c 0])
def longerM (row : List Nat) (f : List (List Nat × List Nat)) : List (List Nat × List Nat) := f.flatMap fun p => ext1 row p row.length
def crossP (rs : List (List Nat)) : List (List Nat × List Nat) := rs.foldl (fun f r => longerM r f) [([], [])]
def crossM (rs : List (List Nat)) : List (List Nat) := (crossP rs).map (·.1)

theorem ext1_succ (row : List Nat) (p : List Nat × List Nat) (i : Nat) :
    ext1 row p (i + 1) = ext1 row p i ++ if i ∉ p.1 ∧ row.getD i 0 ∉ p.2 then [(p.1 ++ [i], p.2 ++ [row.getD i 0])] else [] := by
  unfold ext1
  rw [List.range_succ, List.filter_append, List.map_append]
  congr 1
  by_cases h1 : i ∈ p.1
  · simp [h1]
  · by_cases h2 : row.getD i 0 ∈ p.2
    · simp [h1, h2, -List.getD_eq_getElem?_getD]
    · simp [h1, h2, -List.getD_eq_getElem?_getD]
theorem mem_ext1 {row : List Nat} {p q : List Nat × List Nat} {i : Nat} : q ∈ ext1 row p i ↔ ∃ c, c < i ∧ c ∉ p.1 ∧ row.getD c 0 ∉ p.2 ∧ q = (p.1 ++ [c], p.2 ++ [row.getD c 0]) := by
  unfold ext1
  simp only [List.mem_map, List.mem_filter, List.mem_range, Bool.and_eq_true, Bool.not_eq_true', decide_eq_false_iff_not]
  constructor
  · rintro ⟨c, ⟨h1, h2, h3⟩, e⟩
    exact ⟨c, h1, h2, h3, e.symm⟩
  · rintro ⟨c, h1, h2, h3, e⟩
    exact ⟨c, ⟨h1, h2, h3⟩, e.symm⟩
theorem nodup_snoc {l : List Nat} {c : Nat} : (l ++ [c]).Nodup ↔ l.Nodup ∧ c ∉ l := by
  rw [List.nodup_append]
  constructor
  · rintro ⟨h1, _, h2⟩
    exact ⟨h1, fun h => h2 c h c (by simp) rfl⟩
  · rintro ⟨h1, h2⟩
    refine ⟨h1, by simp, fun a ha b hb e => ?_⟩
    have : b = c := by simpa using hb
    subst this; subst e; exact h2 ha

/-- what is begun: no column, no sign twice -/
def Good (f : List (List Nat × List Nat)) : Prop := ∀ p ∈ f, p.1.Nodup ∧ p.2.Nodup
theorem Good.longer {row : List Nat} {f : List (List Nat × List Nat)} (h : Good f) : Good (longerM row f) := fun q hq => by
  unfold longerM at hq
  obtain ⟨p, hp, hq⟩ := List.mem_flatMap.mp hq
  obtain ⟨c, _, h2, h3, rfl⟩ := mem_ext1.mp hq
  exact ⟨nodup_snoc.mpr ⟨(h p hp).1, h2⟩, nodup_snoc.mpr ⟨(h p hp).2, h3⟩⟩
theorem good_nil : Good [([], [])] := fun p hp => by
  have : p = ([], []) := by simpa using hp
  subst this; exact ⟨List.nodup_nil, List.nodup_nil⟩
theorem mem_fold {n : Nat} : ∀ {rs : List (List Nat)} {f : List (List Nat × List Nat)}, (∀ r ∈ rs, r.length = n) → Good f → ∀ {p : List Nat × List Nat},
    (p ∈ rs.foldl (fun f r => longerM r f) f ↔ ∃ q ∈ f, ∃ cs : List Nat, cs.length = rs.length ∧ (∀ x ∈ cs, x < n) ∧ p = (q.1 ++ cs, q.2 ++ sg rs cs) ∧ (q.1 ++ cs).Nodup ∧ (q.2 ++ sg rs cs).Nodup)
  | [], f, _, hg, p => by
    simp only [List.foldl_nil]
    constructor
    · intro h
      exact ⟨p, h, [], rfl, by simp, by simp [sg], by simpa using (hg p h).1, by simpa [sg] using (hg p h).2⟩
    · rintro ⟨q, hq, cs, hl, _, e, _, _⟩
      have : cs = [] := List.eq_nil_of_length_eq_zero hl
      subst this
      have : p = q := by rw [e]; simp [sg]
      rw [this]; exact hq
  | r :: rs, f, hl, hg, p => by
    have hr : r.length = n := hl r List.mem_cons_self
    rw [List.foldl_cons, mem_fold (fun r' h => hl r' (List.mem_cons_of_mem _ h)) hg.longer]
    constructor
    · rintro ⟨q, hq, cs, e1, e2, e3, e4, e5⟩
      obtain ⟨q0, hq0, hq⟩ := List.mem_flatMap.mp hq
      obtain ⟨c, h1, h2, h3, rfl⟩ := mem_ext1.mp hq
      refine ⟨q0, hq0, c :: cs, by simp [e1], fun x hx => ?_, ?_, ?_, ?_⟩
      · rcases List.mem_cons.mp hx with rfl | hx
        · rw [← hr]; exact h1
        · exact e2 x hx
      · rw [e3]; simp [sg]
      · simpa using e4
      · simpa [sg] using e5
    · rintro ⟨q0, hq0, cs, e1, e2, e3, e4, e5⟩
      match cs, e1 with
      | c :: cs, e1 =>
        have e4' : ((q0.1 ++ [c]) ++ cs).Nodup := by simpa using e4
        have e5' : ((q0.2 ++ [r.getD c 0]) ++ sg rs cs).Nodup := by simpa [sg] using e5
        have n1 := nodup_snoc.mp (List.nodup_append.mp e4').1
        have n2 := nodup_snoc.mp (List.nodup_append.mp e5').1
        refine ⟨(q0.1 ++ [c], q0.2 ++ [r.getD c 0]), List.mem_flatMap.mpr ⟨q0, hq0, mem_ext1.mpr ⟨c, by rw [hr]; exact e2 c List.mem_cons_self, n1.2, n2.2, rfl⟩⟩, cs, by simpa using e1, fun x hx => e2 x (List.mem_cons_of_mem _ hx), ?_, e4', e5'⟩
        rw [e3]; simp [sg]

/-- a transversal of some rows -/
def IsCross (n : Nat) (rs : List (List Nat)) (t : List Nat) : Prop := PermN n t ∧ (sg rs t).Nodup
instance (n : Nat) (rs : List (List Nat)) (t : List Nat) : Decidable (IsCross n rs t) := by unfold IsCross; infer_instance
theorem mem_crossM {n : Nat} {rs : List (List Nat)} (h0 : rs.length = n) (h : ∀ r ∈ rs, r.length = n) {t : List Nat} : t ∈ crossM rs ↔ IsCross n rs t := by
  unfold crossM crossP IsCross PermN
  rw [List.mem_map]
  constructor
  · rintro ⟨p, hp, rfl⟩
    obtain ⟨q, hq, cs, e1, e2, e3, e4, e5⟩ := (mem_fold h good_nil).mp hp
    have : q = ([], []) := by simpa using hq
    subst this
    rw [e3]
    simp only [List.nil_append] at e4 e5 ⊢
    exact ⟨⟨e1.trans h0, e4, e2⟩, e5⟩
  · rintro ⟨⟨e1, e2, e3⟩, e4⟩
    exact ⟨(t, sg rs t), (mem_fold h good_nil).mpr ⟨([], []), by simp, t, by rw [e1, h0], e3, by simp, by simpa using e2, by simpa using e4⟩, rfl⟩
/-- of all pairs the second half is the signs of the first -/
theorem crossP_sg {n : Nat} {rs : List (List Nat)} (h : ∀ r ∈ rs, r.length = n) {p : List Nat × List Nat} (hp : p ∈ crossP rs) : p.2 = sg rs p.1 := by
  obtain ⟨q, hq, cs, e1, e2, e3, e4, e5⟩ := (mem_fold h good_nil).mp hp
  have : q = ([], []) := by simpa using hq
  subst this
  rw [e3]; simp
end K65
/-! partings: plain mathematics -/
namespace K65
def meets (t u : List Nat) : Bool := (t.zip u).any fun p => p.1 == p.2
theorem meets_iff {t u : List Nat} : meets t u = true ↔ ∃ (i x : Nat), t[i]? = some x ∧ u[i]? = some x := by
  unfold meets
  rw [List.any_eq_true]
  constructor
  · rintro ⟨⟨a, b⟩, hp, e⟩
    obtain ⟨i, hi⟩ := List.getElem?_of_mem hp
    obtain ⟨h1, h2⟩ := List.getElem?_zip_eq_some.mp hi
    have : a = b := by simpa using e
    subst this
    exact ⟨i, a, h1, h2⟩
  · rintro ⟨i, x, h1, h2⟩
    exact ⟨(x, x), List.mem_of_getElem? (List.getElem?_zip_eq_some.mpr ⟨h1, h2⟩), by simp⟩
theorem meets_comm (t u : List Nat) : meets t u = meets u t := by
  rw [Bool.eq_iff_iff, meets_iff, meets_iff]
  exact ⟨fun ⟨i, x, a, b⟩ => ⟨i, x, b, a⟩, fun ⟨i, x, a, b⟩ => ⟨i, x, b, a⟩⟩
theorem meets_no {t u : List Nat} : meets t u = false ↔ ∀ (i x y : Nat), t[i]? = some x → u[i]? = some y → x ≠ y := by
  rw [← Bool.not_eq_true, meets_iff]
  constructor
  · rintro h i x y h1 h2 rfl
    exact h ⟨i, x, h1, h2⟩
  · rintro h ⟨i, x, h1, h2⟩
    exact h i x x h1 h2 rfl
def Apart (ts : List (List Nat)) : Prop := ts.Pairwise fun t u => meets t u = false
def IsPart (n : Nat) (rs ts : List (List Nat)) : Prop := ts.length = n ∧ (∀ (i : Nat) t, ts[i]? = some t → IsCross n rs t ∧ t[0]? = some i) ∧ Apart ts
theorem apart_ix {ts : List (List Nat)} : Apart ts ↔ ∀ (i j : Nat) t u, j < i → ts[i]? = some t → ts[j]? = some u → meets t u = false := by
  unfold Apart
  rw [List.pairwise_iff_getElem]
  constructor
  · intro h i j t u hij h1 h2
    obtain ⟨hi, rfl⟩ := List.getElem?_eq_some_iff.mp h1
    obtain ⟨hj, rfl⟩ := List.getElem?_eq_some_iff.mp h2
    rw [meets_comm]
    exact h j i hj hi hij
  · intro h i j hi hj hij
    rw [meets_comm]
    exact h j i _ _ hij (List.getElem?_eq_getElem hj) (List.getElem?_eq_getElem hi)
/-- ts takes one of each pile, no two that meet -/
def Compl : List (List (List Nat)) → List (List Nat) → Prop
  | [], [] => True
  | p :: ps, t :: ts => t ∈ p ∧ Compl (ps.map fun q => q.filter fun u => !meets t u) ts
  | _, _ => False
theorem compl_iff : ∀ {ts : List (List Nat)} {ps : List (List (List Nat))}, Compl ps ts ↔ ts.length = ps.length ∧ (∀ (i : Nat) t p, ts[i]? = some t → ps[i]? = some p → t ∈ p) ∧ Apart ts
  | [], [] => by simp [Compl, Apart]
  | [], _ :: _ => by simp [Compl]
  | _ :: _, [] => by simp [Compl]
  | t :: ts, p :: ps => by
    show t ∈ p ∧ Compl (ps.map fun q => q.filter fun u => !meets t u) ts ↔ _
    rw [compl_iff]
    constructor
    · rintro ⟨h1, h2, h3, h4⟩
      rw [List.length_map] at h2
      refine ⟨by simp [h2], fun i u q hu hq => ?_, ?_⟩
      · cases i with
        | zero =>
          simp only [List.getElem?_cons_zero, Option.some.injEq] at hu hq
          subst hu; subst hq
          exact h1
        | succ i =>
          rw [List.getElem?_cons_succ] at hu hq
          have := h3 i u (q.filter fun u => !meets t u) hu (by rw [List.getElem?_map, hq]; rfl)
          exact (List.mem_filter.mp this).1
      · unfold Apart
        rw [List.pairwise_cons]
        refine ⟨fun u hu => ?_, h4⟩
        obtain ⟨i, hi⟩ := List.getElem?_of_mem hu
        have hlt : i < ps.length := by rw [← h2]; exact (List.getElem?_eq_some_iff.mp hi).1
        have := h3 i u (ps[i].filter fun u => !meets t u) hi (by rw [List.getElem?_map, List.getElem?_eq_getElem hlt]; rfl)
        simpa using (List.mem_filter.mp this).2
    · rintro ⟨h1, h2, h3⟩
      unfold Apart at h3
      rw [List.pairwise_cons] at h3
      refine ⟨h2 0 t p rfl rfl, by simpa using h1, fun i u q hu hq => ?_, h3.2⟩
      rw [List.getElem?_map] at hq
      cases hz : ps[i]? with
      | none => rw [hz] at hq; cases hq
      | some q' =>
        rw [hz] at hq
        cases hq
        refine List.mem_filter.mpr ⟨h2 (i + 1) u q' (by simpa using hu) (by simpa using hz), ?_⟩
        rw [h3.1 u (List.mem_of_getElem? hu)]
        rfl
theorem compl_cons {p : List (List Nat)} {ps : List (List (List Nat))} {ts : List (List Nat)} : Compl (p :: ps) ts ↔ ∃ t ts', ts = t :: ts' ∧ t ∈ p ∧ Compl (ps.map fun q => q.filter fun u => !meets t u) ts' := by
  cases ts with
  | nil => simp [Compl]
  | cons t ts => exact ⟨fun h => ⟨t, ts, rfl, h⟩, fun ⟨t', ts', e, h⟩ => by cases e; exact h⟩
theorem compl_empty {ps : List (List (List Nat))} {ts : List (List Nat)} (h : [] ∈ ps) : ¬ Compl ps ts := by
  rw [compl_iff]
  rintro ⟨h1, h2, _⟩
  obtain ⟨i, hi⟩ := List.getElem?_of_mem h
  have hlt : i < ts.length := by rw [h1]; exact (List.getElem?_eq_some_iff.mp hi).1
  exact absurd (h2 i ts[i] [] (List.getElem?_eq_getElem hlt) hi) (by simp)
/-- the crosses by their first column -/
def pilesM (n : Nat) (cs : List (List Nat)) : List (List (List Nat)) := (List.range n).map fun i => cs.filter fun t => t.getD 0 0 == i
theorem piles_part {n : Nat} {rs ts : List (List Nat)} (hn : 1 ≤ n) (h0 : rs.length = n) (h : ∀ r ∈ rs, r.length = n) : Compl (pilesM n (crossM rs)) ts ↔ IsPart n rs ts := by
  rw [compl_iff]
  unfold IsPart
  rw [show (pilesM n (crossM rs)).length = n by simp [pilesM]]
  constructor
  · rintro ⟨h1, h2, h3⟩
    refine ⟨h1, fun i t ht => ?_, h3⟩
    have hi : i < n := by rw [← h1]; exact (List.getElem?_eq_some_iff.mp ht).1
    have := h2 i t _ ht (by unfold pilesM; rw [List.getElem?_map, List.getElem?_range hi]; rfl)
    obtain ⟨h4, h5⟩ := List.mem_filter.mp this
    have hc := (mem_crossM h0 h).mp h4
    refine ⟨hc, ?_⟩
    have hl : 0 < t.length := by rw [hc.1.1]; exact hn
    rw [List.getD_eq_getElem?_getD, List.getElem?_eq_getElem hl] at h5
    rw [List.getElem?_eq_getElem hl]
    simpa using h5
  · rintro ⟨h1, h2, h3⟩
    refine ⟨h1, fun i t p ht hp => ?_, h3⟩
    have hi : i < n := by rw [← h1]; exact (List.getElem?_eq_some_iff.mp ht).1
    unfold pilesM at hp
    rw [List.getElem?_map, List.getElem?_range hi] at hp
    cases hp
    obtain ⟨hc, hz⟩ := h2 i t ht
    refine List.mem_filter.mpr ⟨(mem_crossM h0 h).mpr hc, ?_⟩
    rw [List.getD_eq_getElem?_getD, hz]
    simp
/-- the columns that the parts have at one row -/
theorem part_col {n : Nat} {rs ts : List (List Nat)} (h : IsPart n rs ts) {r : Nat} (hr : r < n) : PermN n (ts.map fun t => t.getD r 0) := by
  obtain ⟨h1, h2, h3⟩ := h
  refine ⟨by simp [h1], ?_, fun x hx => ?_⟩
  · unfold List.Nodup
    rw [List.pairwise_map]
    refine List.Pairwise.imp_of_mem ?_ h3
    intro t u ht hu hm
    obtain ⟨i, hi⟩ := List.getElem?_of_mem ht
    obtain ⟨j, hj⟩ := List.getElem?_of_mem hu
    have e1 := (h2 i t hi).1.1.1
    have e2 := (h2 j u hj).1.1.1
    have g1 : t[r]? = some (t.getD r 0) := by rw [List.getD_eq_getElem?_getD, List.getElem?_eq_getElem (by omega)]; rfl
    have g2 : u[r]? = some (u.getD r 0) := by rw [List.getD_eq_getElem?_getD, List.getElem?_eq_getElem (by omega)]; rfl
    exact meets_no.mp hm r _ _ g1 g2
  · obtain ⟨t, ht, rfl⟩ := List.mem_map.mp hx
    obtain ⟨i, hi⟩ := List.getElem?_of_mem ht
    have hc := (h2 i t hi).1.1
    refine hc.2.2 _ ?_
    rw [List.getD_eq_getElem?_getD, List.getElem?_eq_getElem (by rw [hc.1]; exact hr)]
    exact List.getElem_mem _
end K65
/-! tables: plain mathematics -/
namespace K65
theorem add_mod_inj {n a c d : Nat} (hc : c < n) (hd : d < n) (h : (a + c) % n = (a + d) % n) : c = d := by
  have key : ∀ {x y : Nat}, x < n → y ≤ x → (a + x) % n = (a + y) % n → x = y := fun {x y} hx hxy h => by
    have := Nat.sub_mod_eq_zero_of_mod_eq h
    rw [show a + x - (a + y) = x - y by omega, Nat.mod_eq_of_lt (by omega)] at this
    omega
  rcases Nat.le_total d c with z | z
  · exact key hc z h
  · exact (key hd z h.symm).symm
theorem permN_map {n : Nat} {l : List Nat} {f : Nat → Nat} (h : PermN n l) (hi : ∀ x y, x < n → y < n → f x = f y → x = y) (hf : ∀ x, x < n → f x < n) : PermN n (l.map f) := by
  obtain ⟨h1, h2, h3⟩ := h
  refine ⟨by simp [h1], ?_, fun y hy => ?_⟩
  · unfold List.Nodup at *
    rw [List.pairwise_map]
    refine List.Pairwise.imp_of_mem ?_ h2
    intro a b ha hb hab e
    exact hab (hi a b (h3 a ha) (h3 b hb) e)
  · obtain ⟨x, hx, rfl⟩ := List.mem_map.mp hy
    exact hf x (h3 x hx)
/-- a table of a ring, its lines in the order L -/
def kinM (n : Nat) (L : List Nat) : List (List Nat) := L.map fun a => (List.range n).map fun c => (a + c) % n
def ringM (n : Nat) : List (List Nat) := kinM n (List.range n)
def Latin (n : Nat) (rs : List (List Nat)) : Prop := rs.length = n ∧ (∀ r ∈ rs, PermN n r) ∧ ∀ c, c < n → PermN n (rs.map fun r => r.getD c 0)
theorem kin_latin {n : Nat} {L : List Nat} (h : PermN n L) (hn : 1 ≤ n) : Latin n (kinM n L) := by
  refine ⟨by simp [kinM, h.1], fun r hr => ?_, fun c hc => ?_⟩
  · obtain ⟨a, ha, rfl⟩ := List.mem_map.mp hr
    exact permN_map (permN_range n) (fun x y hx hy e => add_mod_inj hx hy e) fun x _ => Nat.mod_lt _ hn
  · have e : (kinM n L).map (fun r => r.getD c 0) = L.map fun a => (a + c) % n := by
      unfold kinM
      rw [List.map_map]
      apply List.map_congr_left
      intro a _
      show ((List.range n).map fun c => (a + c) % n).getD c 0 = (a + c) % n
      rw [List.getD_eq_getElem?_getD, List.getElem?_map, List.getElem?_range hc]
      rfl
    rw [e]
    refine permN_map h (fun x y hx hy e => ?_) fun x _ => Nat.mod_lt _ hn
    rw [Nat.add_comm x c, Nat.add_comm y c] at e
    exact add_mod_inj hx hy e
theorem Latin.rows {n : Nat} {rs : List (List Nat)} (h : Latin n rs) : rs.length = n ∧ ∀ r ∈ rs, r.length = n ∧ ∀ x ∈ r, x < n := ⟨h.1, fun r hr => ⟨(h.2.1 r hr).1, (h.2.1 r hr).2.2⟩⟩
end K65
/-! mates: plain mathematics -/
namespace K65
/-- the matrix mr tells, for each cell, of which part it is -/
def MateOf (n : Nat) (ts mr : List (List Nat)) : Prop := mr.length = n ∧ (∀ r ∈ mr, r.length = n ∧ ∀ x ∈ r, x < n) ∧ ∀ i r, i < n → r < n → (mr.getD r []).getD ((ts.getD i []).getD r 0) 0 = i
theorem getD_mem {α : Type} {l : List α} {i : Nat} (d : α) (h : i < l.length) : l.getD i d ∈ l := by
  rw [List.getD_eq_getElem?_getD, List.getElem?_eq_getElem h]
  exact List.getElem_mem h
theorem getD_ix {α : Type} {l : List α} {i : Nat} {d a : α} (h : l[i]? = some a) : l.getD i d = a := by
  rw [List.getD_eq_getElem?_getD, h]
  rfl
theorem ix_getD {α : Type} {l : List α} {i : Nat} (d : α) (h : i < l.length) : l[i]? = some (l.getD i d) := by
  rw [List.getD_eq_getElem?_getD, List.getElem?_eq_getElem h]
  rfl
/-- each cell stands in one part -/
theorem part_at {n : Nat} {rs ts : List (List Nat)} (h : IsPart n rs ts) {r c : Nat} (hr : r < n) (hc : c < n) : ∃ i, i < n ∧ (ts.getD i []).getD r 0 = c := by
  have := (part_col h hr).mem hc
  obtain ⟨t, ht, e⟩ := List.mem_map.mp this
  obtain ⟨i, hi⟩ := List.getElem?_of_mem ht
  have hlt := (List.getElem?_eq_some_iff.mp hi).1
  rw [h.1] at hlt
  exact ⟨i, hlt, by rw [getD_ix hi]; exact e⟩
theorem part_cross {n : Nat} {rs ts : List (List Nat)} (h : IsPart n rs ts) {i : Nat} (hi : i < n) : IsCross n rs (ts.getD i []) := by
  have hl : i < ts.length := by rw [h.1]; exact hi
  exact (h.2.1 i _ (ix_getD [] hl)).1
theorem part_lt {n : Nat} {rs ts : List (List Nat)} (h : IsPart n rs ts) {i r : Nat} (hi : i < n) (hr : r < n) : (ts.getD i []).getD r 0 < n := by
  have hc := (part_cross h hi).1
  exact hc.2.2 _ (getD_mem 0 (by rw [hc.1]; exact hr))
theorem part_ne {n : Nat} {rs ts : List (List Nat)} (h : IsPart n rs ts) {i j r : Nat} (hi : i < n) (hj : j < n) (hr : r < n) (e : (ts.getD i []).getD r 0 = (ts.getD j []).getD r 0) : i = j := by
  have nd := (part_col h hr).2.1
  have hli : i < (ts.map fun t => t.getD r 0).length := by simp [h.1, hi]
  have hlj : j < (ts.map fun t => t.getD r 0).length := by simp [h.1, hj]
  have g : ∀ k, k < n → (ts.map fun t => t.getD r 0)[k]? = some ((ts.getD k []).getD r 0) := fun k hk => by
    rw [List.getElem?_map, ix_getD [] (by rw [h.1]; exact hk)]
    rfl
  have := g i hi
  rw [e, ← g j hj] at this
  exact (List.getElem?_inj hli nd).mp this
def cellsOf (n : Nat) : List (Nat × Nat) := (List.range n).flatMap fun r => (List.range n).map fun c => (r, c)
def pairM (rs mr : List (List Nat)) (p : Nat × Nat) : List Nat := [(rs.getD p.1 []).getD p.2 0, (mr.getD p.1 []).getD p.2 0]
theorem mates_nodup {n : Nat} {rs ts mr : List (List Nat)} (h0 : rs.length = n) (hl : ∀ r ∈ rs, r.length = n) (h : IsPart n rs ts) (hm : MateOf n ts mr) : ∀ p q : Nat × Nat, p.1 < n → p.2 < n → q.1 < n → q.2 < n → pairM rs mr p = pairM rs mr q → p = q := by
  rintro ⟨r, c⟩ ⟨r', c'⟩ h1 h2 h3 h4 e
  simp only at h1 h2 h3 h4
  simp only [pairM, List.cons.injEq, and_true] at e
  obtain ⟨e1, e2⟩ := e
  obtain ⟨i, hi, rfl⟩ := part_at h h1 h2
  obtain ⟨j, hj, rfl⟩ := part_at h h3 h4
  rw [hm.2.2 i r hi h1, hm.2.2 j r' hj h3] at e2
  subst e2
  have hc := part_cross h hi
  have hsg : ∀ k, k < n → (sg rs (ts.getD i []))[k]? = some ((rs.getD k []).getD ((ts.getD i []).getD k 0) 0) := fun k hk => by
    unfold sg
    rw [List.getElem?_zipWith, ix_getD [] (by rw [h0]; exact hk), ix_getD 0 (by rw [hc.1.1]; exact hk)]
  have hll : r < (sg rs (ts.getD i [])).length := by
    have := hsg r h1
    exact (List.getElem?_eq_some_iff.mp this).1
  have : (sg rs (ts.getD i []))[r]? = (sg rs (ts.getD i []))[r']? := by rw [hsg r h1, hsg r' h3, e1]
  have := (List.getElem?_inj hll hc.2).mp this
  subst this
  rfl
theorem cells_len (n : Nat) : (cellsOf n).length = n * n := by
  unfold cellsOf
  rw [List.length_flatMap]
  simp [List.sum_replicate_nat, List.map_const']
end K65
/-! the law's own search, a stack: plain mathematics -/
namespace K65
/-- a begun parting -/
def PP (n : Nat) (rs b : List (List Nat)) : Prop := b.length ≤ n ∧ (∀ (i : Nat) t, b[i]? = some t → IsCross n rs t ∧ t[0]? = some i) ∧ Apart b
theorem PP.part {n : Nat} {rs b : List (List Nat)} (h : PP n rs b) (e : b.length = n) : IsPart n rs b := ⟨e, h.2.1, h.2.2⟩
theorem PP.nil {n : Nat} {rs : List (List Nat)} : PP n rs [] := ⟨Nat.zero_le _, by simp, List.Pairwise.nil⟩
def goodM (b : List (List Nat)) (t : List Nat) : Bool := t.getD 0 0 == b.length && !(b.any fun u => meets u t)
theorem PP.snoc {n : Nat} {rs b : List (List Nat)} {t : List Nat} (h : PP n rs b) (hl : b.length < n) (hc : IsCross n rs t) (hn : 1 ≤ n) (hg : goodM b t = true) : PP n rs (b ++ [t]) := by
  unfold goodM at hg
  rw [Bool.and_eq_true, Bool.not_eq_true', ← Bool.not_eq_true, List.any_eq_true, beq_iff_eq] at hg
  obtain ⟨g1, g2⟩ := hg
  refine ⟨by simp; omega, fun i u hu => ?_, ?_⟩
  · by_cases hi : i < b.length
    · rw [List.getElem?_append_left hi] at hu
      exact h.2.1 i u hu
    · rw [List.getElem?_append_right (by omega)] at hu
      have hi2 : i - b.length < 1 := by
        have := (List.getElem?_eq_some_iff.mp hu).1
        simpa using this
      have hi3 : i = b.length := by omega
      subst hi3
      rw [Nat.sub_self] at hu
      have : t = u := by simpa using hu
      subst this
      refine ⟨hc, ?_⟩
      rw [ix_getD 0 (by rw [hc.1.1]; exact hn), g1]
  · unfold Apart
    rw [List.pairwise_append]
    refine ⟨h.2.2, List.pairwise_singleton _ _, fun u hu v hv => ?_⟩
    have : v = t := by simpa using hv
    subst this
    cases hm : meets u v with
    | false => rfl
    | true => exact absurd ⟨u, hu, hm⟩ g2
def kidsM (cs : List (List Nat)) (b : List (List Nat)) : List (List (List Nat)) := (cs.reverse.filter (goodM b)).map fun t => b ++ [t]
theorem kids_len (cs b : List (List Nat)) : (kidsM cs b).length ≤ cs.length := by
  unfold kidsM
  rw [List.length_map]
  have := List.length_filter_le (goodM b) cs.reverse
  rwa [List.length_reverse] at this
/-- a parting's beginning stands in the stack -/
def Leads (n : Nat) (rs : List (List Nat)) (ws : List (List (List Nat))) : Prop := ∀ ts, IsPart n rs ts → ∃ b ∈ ws, b = ts.take b.length
theorem take_kid {n : Nat} {rs ts b cs : List (List Nat)} (h : IsPart n rs ts) (hcs : ∀ t, t ∈ cs ↔ IsCross n rs t) (hb : b = ts.take b.length) (hl : b.length < n) : ∃ k ∈ kidsM cs b, k = ts.take k.length := by
  have hlt : b.length < ts.length := by rw [h.1]; exact hl
  have ht := List.getElem?_eq_getElem hlt
  have hc := h.2.1 _ _ ht
  refine ⟨b ++ [ts[b.length]], List.mem_map.mpr ⟨_, List.mem_filter.mpr ⟨List.mem_reverse.mpr ((hcs _).mpr hc.1), ?_⟩, rfl⟩, ?_⟩
  · unfold goodM
    rw [Bool.and_eq_true, beq_iff_eq, Bool.not_eq_true', ← Bool.not_eq_true, List.any_eq_true]
    refine ⟨by rw [List.getD_eq_getElem?_getD, hc.2]; rfl, ?_⟩
    rintro ⟨u, hu, hm⟩
    obtain ⟨j, hj⟩ := List.getElem?_of_mem hu
    have hjl := (List.getElem?_eq_some_iff.mp hj).1
    rw [hb, List.getElem?_take, if_pos hjl] at hj
    have := apart_ix.mp h.2.2 b.length j _ u hjl ht hj
    rw [meets_comm, this] at hm
    simp at hm
  · rw [List.length_append, List.length_singleton, List.take_succ, ht]
    exact congrArg (fun x => x ++ [ts[b.length]]) hb
/-- how much search is left -/
def mu (N n : Nat) (ws : List (List (List Nat))) : Nat := (ws.map fun b => (N + 1) ^ (n + 1 - b.length)).sum
theorem mu_app (N n : Nat) (a b : List (List (List Nat))) : mu N n (a ++ b) = mu N n a + mu N n b := by
  unfold mu
  rw [List.map_append, List.sum_append]
theorem mu_kids {N n l : Nat} : ∀ {ks : List (List (List Nat))}, (∀ k ∈ ks, k.length = l) → mu N n ks = ks.length * (N + 1) ^ (n + 1 - l)
  | [], _ => by simp [mu]
  | k :: ks, h => by
    have h1 := mu_kids (N := N) (n := n) (l := l) (ks := ks) fun q hq => h q (List.mem_cons_of_mem _ hq)
    unfold mu at *
    rw [List.map_cons, List.sum_cons, h1, h k (List.mem_cons_self ..), List.length_cons, Nat.succ_mul]
    omega
theorem mu_less {n : Nat} {cs b : List (List Nat)} {ws : List (List (List Nat))} (hl : b.length < n) : mu cs.length n (ws ++ kidsM cs b) < mu cs.length n (ws ++ [b]) := by
  rw [mu_app, mu_app, mu_kids (l := b.length + 1) (ks := kidsM cs b) (fun k hk => by
    obtain ⟨t, _, rfl⟩ := List.mem_map.mp hk
    simp)]
  have h1 := kids_len cs b
  have h2 : mu cs.length n [b] = (cs.length + 1) ^ (n + 1 - b.length) := by simp [mu]
  rw [h2, show n + 1 - b.length = (n + 1 - (b.length + 1)) + 1 by omega, Nat.pow_succ]
  generalize hX : (cs.length + 1) ^ (n + 1 - (b.length + 1)) = X
  have hpos : 0 < X := by rw [← hX]; exact Nat.pow_pos (Nat.succ_pos _)
  have h3 : (kidsM cs b).length * X ≤ cs.length * X := Nat.mul_le_mul_right X h1
  rw [Nat.mul_add, Nat.mul_one, Nat.mul_comm X]
  omega
theorem mu_pop {N n : Nat} {b : List (List Nat)} {ws : List (List (List Nat))} : mu N n ws < mu N n (ws ++ [b]) := by
  rw [mu_app]
  have h2 : mu N n [b] = (N + 1) ^ (n + 1 - b.length) := by simp [mu]
  have hpos : 0 < (N + 1) ^ (n + 1 - b.length) := Nat.pow_pos (Nat.succ_pos _)
  omega
end K65
/-! tables by their cells: plain mathematics -/
namespace K65
def cellN (mat : List (List Nat)) (r c : Nat) : Nat := (mat.getD r []).getD c 0
/-- a square table, by its cells -/
structure LatinC (n : Nat) (f : Nat → Nat → Nat) : Prop where
  lt : ∀ r c, r < n → c < n → f r c < n
  row : ∀ r c d, r < n → c < n → d < n → f r c = f r d → c = d
  col : ∀ r s c, r < n → s < n → c < n → f r c = f s c → r = s
def Dims (n : Nat) (mat : List (List Nat)) : Prop := mat.length = n ∧ ∀ r ∈ mat, r.length = n
theorem Dims.row {n : Nat} {mat : List (List Nat)} (h : Dims n mat) {r : Nat} (hr : r < n) : (mat.getD r []).length = n := h.2 _ (getD_mem [] (by rw [h.1]; exact hr))
theorem permN_of_fn {n : Nat} {l : List Nat} (hl : l.length = n) (hlt : ∀ i, i < n → l.getD i 0 < n) (hi : ∀ i j, i < n → j < n → l.getD i 0 = l.getD j 0 → i = j) : PermN n l := by
  refine ⟨hl, ?_, fun x hx => ?_⟩
  · unfold List.Nodup
    rw [List.pairwise_iff_getElem]
    intro i j h1 h2 hij e
    have e1 := getD_ix (d := 0) (List.getElem?_eq_getElem h1)
    have e2 := getD_ix (d := 0) (List.getElem?_eq_getElem h2)
    have := hi i j (by omega) (by omega) (by rw [e1, e2]; exact e)
    omega
  · obtain ⟨i, hi2⟩ := List.getElem?_of_mem hx
    have := hlt i (by have := (List.getElem?_eq_some_iff.mp hi2).1; omega)
    rw [getD_ix hi2] at this
    exact this
theorem fn_of_permN {n : Nat} {l : List Nat} (h : PermN n l) : (∀ i, i < n → l.getD i 0 < n) ∧ ∀ i j, i < n → j < n → l.getD i 0 = l.getD j 0 → i = j := by
  refine ⟨fun i hi => h.2.2 _ (getD_mem 0 (by rw [h.1]; exact hi)), fun i j hi hj e => ?_⟩
  have h1 : i < l.length := by rw [h.1]; exact hi
  have h2 : j < l.length := by rw [h.1]; exact hj
  have : l[i]? = l[j]? := by rw [ix_getD 0 h1, ix_getD 0 h2, e]
  exact (List.getElem?_inj h1 h.2.1).mp this
theorem latin_of_cells {n : Nat} {mat : List (List Nat)} (hd : Dims n mat) (h : LatinC n (cellN mat)) : Latin n mat := by
  refine ⟨hd.1, fun r hr => ?_, fun c hc => ?_⟩
  · obtain ⟨i, hi⟩ := List.getElem?_of_mem hr
    have hin : i < n := by have := (List.getElem?_eq_some_iff.mp hi).1; rw [hd.1] at this; exact this
    have e : ∀ c, r.getD c 0 = cellN mat i c := fun c => by unfold cellN; rw [getD_ix hi]
    exact permN_of_fn (hd.2 r hr) (fun c hc => by rw [e]; exact h.lt i c hin hc) fun c d hc hd2 z => h.row i c d hin hc hd2 (by rw [← e, ← e]; exact z)
  · have e : ∀ r, r < n → (mat.map fun r => r.getD c 0).getD r 0 = cellN mat r c := fun r hr => by
      rw [List.getD_eq_getElem?_getD, List.getElem?_map, ix_getD [] (by rw [hd.1]; exact hr)]
      rfl
    exact permN_of_fn (by rw [List.length_map]; exact hd.1) (fun r hr => by rw [e r hr]; exact h.lt r c hr hc) fun r s hr hs z => h.col r s c hr hs hc (by rw [← e r hr, ← e s hs]; exact z)
theorem cells_of_latin {n : Nat} {mat : List (List Nat)} (h : Latin n mat) : Dims n mat ∧ LatinC n (cellN mat) := by
  have hd : Dims n mat := ⟨h.1, fun r hr => (h.2.1 r hr).1⟩
  refine ⟨hd, fun r c hr hc => ?_, fun r c d hr hc hd2 e => ?_, fun r s c hr hs hc e => ?_⟩
  · exact (fn_of_permN (h.2.1 _ (getD_mem [] (by rw [h.1]; exact hr)))).1 c hc
  · exact (fn_of_permN (h.2.1 _ (getD_mem [] (by rw [h.1]; exact hr)))).2 c d hc hd2 e
  · have g : ∀ r, r < n → (mat.map fun r => r.getD c 0).getD r 0 = cellN mat r c := fun r hr => by
      rw [List.getD_eq_getElem?_getD, List.getElem?_map, ix_getD [] (by rw [h.1]; exact hr)]
      rfl
    exact (fn_of_permN (h.2.2 c hc)).2 r s hr hs (by rw [g r hr, g s hs]; exact e)
theorem LatinC.trans {n : Nat} {f : Nat → Nat → Nat} (h : LatinC n f) : LatinC n (fun r c => f c r) :=
  ⟨fun r c hr hc => h.lt c r hc hr, fun r c d hr hc hd e => h.col c d r hc hd hr e, fun r s c hr hs hc e => h.row c r s hc hr hs e⟩
theorem LatinC.congr {n : Nat} {f g : Nat → Nat → Nat} (h : LatinC n f) (e : ∀ r c, r < n → c < n → g r c = f r c) : LatinC n g :=
  ⟨fun r c hr hc => by rw [e r c hr hc]; exact h.lt r c hr hc, fun r c d hr hc hd z => h.row r c d hr hc hd (by rw [← e r c hr hc, ← e r d hr hd]; exact z), fun r s c hr hs hc z => h.col r s c hr hs hc (by rw [← e r c hr hc, ← e s c hs hc]; exact z)⟩
/-- signs renamed, lines put in another order -/
theorem LatinC.named {n : Nat} {f : Nat → Nat → Nat} {s l : List Nat} (h : LatinC n f) (hs : PermN n s) (hl : PermN n l) : LatinC n (fun r c => s.getD (f (l.getD r 0) c) 0) := by
  obtain ⟨s1, s2⟩ := fn_of_permN hs
  obtain ⟨l1, l2⟩ := fn_of_permN hl
  refine ⟨fun r c hr hc => s1 _ (h.lt _ c (l1 r hr) hc), fun r c d hr hc hd e => ?_, fun r t c hr ht hc e => ?_⟩
  · exact h.row _ c d (l1 r hr) hc hd (s2 _ _ (h.lt _ c (l1 r hr) hc) (h.lt _ d (l1 r hr) hd) e)
  · exact l2 r t hr ht (h.col _ _ c (l1 r hr) (l1 t ht) hc (s2 _ _ (h.lt _ c (l1 r hr) hc) (h.lt _ c (l1 t ht) hc) e))
/-- the cells of the columns S changed between two lines -/
def swF (f : Nat → Nat → Nat) (one other : Nat) (S : List Nat) (r c : Nat) : Nat := if c ∈ S then (if r = one then f other c else if r = other then f one c else f r c) else f r c
theorem LatinC.swap {n : Nat} {f : Nat → Nat → Nat} {one other : Nat} {S : List Nat} (h : LatinC n f) (h1 : one < n) (h2 : other < n) (hne : one ≠ other) (hS : ∀ c ∈ S, c < n)
    (c1 : ∀ c ∈ S, ∃ e ∈ S, f other c = f one e) (c2 : ∀ c ∈ S, ∃ e ∈ S, f one c = f other e) : LatinC n (swF f one other S) := by
  refine ⟨fun r c hr hc => ?_, fun r c d hr hc hd e => ?_, fun r s c hr hs hc e => ?_⟩
  · unfold swF
    split
    · split
      · exact h.lt _ _ h2 hc
      · split
        · exact h.lt _ _ h1 hc
        · exact h.lt _ _ hr hc
    · exact h.lt _ _ hr hc
  · have mixed : ∀ c d, c < n → d < n → c ∈ S → d ∉ S → swF f one other S r c = swF f one other S r d → False := fun c d hc hd hcS hdS e => by
      unfold swF at e
      rw [if_pos hcS, if_neg hdS] at e
      by_cases q1 : r = one
      · rw [if_pos q1, q1] at e
        obtain ⟨x, hx, ex⟩ := c1 c hcS
        rw [ex] at e
        have := h.row one x d h1 (hS x hx) hd e
        exact hdS (this ▸ hx)
      · rw [if_neg q1] at e
        by_cases q2 : r = other
        · rw [if_pos q2, q2] at e
          obtain ⟨x, hx, ex⟩ := c2 c hcS
          rw [ex] at e
          have := h.row other x d h2 (hS x hx) hd e
          exact hdS (this ▸ hx)
        · rw [if_neg q2] at e
          have := h.row r c d hr hc hd e
          exact hdS (this ▸ hcS)
    by_cases hcS : c ∈ S
    · by_cases hdS : d ∈ S
      · unfold swF at e
        rw [if_pos hcS, if_pos hdS] at e
        by_cases q1 : r = one
        · rw [if_pos q1, if_pos q1] at e
          exact h.row other c d h2 hc hd e
        · rw [if_neg q1, if_neg q1] at e
          by_cases q2 : r = other
          · rw [if_pos q2, if_pos q2] at e
            exact h.row one c d h1 hc hd e
          · rw [if_neg q2, if_neg q2] at e
            exact h.row r c d hr hc hd e
      · exact (mixed c d hc hd hcS hdS e).elim
    · by_cases hdS : d ∈ S
      · exact (mixed d c hd hc hdS hcS e.symm).elim
      · unfold swF at e
        rw [if_neg hcS, if_neg hdS] at e
        exact h.row r c d hr hc hd e
  · unfold swF at e
    by_cases hcS : c ∈ S
    · rw [if_pos hcS, if_pos hcS] at e
      by_cases q1 : r = one
      · rw [if_pos q1] at e
        by_cases q3 : s = one
        · omega
        · rw [if_neg q3] at e
          by_cases q4 : s = other
          · rw [if_pos q4] at e
            have := h.col other one c h2 h1 hc e
            omega
          · rw [if_neg q4] at e
            have := h.col other s c h2 hs hc e
            omega
      · rw [if_neg q1] at e
        by_cases q2 : r = other
        · rw [if_pos q2] at e
          by_cases q3 : s = one
          · rw [if_pos q3] at e
            have := h.col one other c h1 h2 hc e
            omega
          · rw [if_neg q3] at e
            by_cases q4 : s = other
            · omega
            · rw [if_neg q4] at e
              have := h.col one s c h1 hs hc e
              omega
        · rw [if_neg q2] at e
          by_cases q3 : s = one
          · rw [if_pos q3] at e
            have := h.col r other c hr h2 hc e
            omega
          · rw [if_neg q3] at e
            by_cases q4 : s = other
            · rw [if_pos q4] at e
              have := h.col r one c hr h1 hc e
              omega
            · rw [if_neg q4] at e
              exact h.col r s c hr hs hc e
    · rw [if_neg hcS, if_neg hcS] at e
      exact h.col r s c hr hs hc e
/-- the columns visited so far: each one's lower sign is the next one's upper -/
def Chain (f : Nat → Nat → Nat) (one other : Nat) (vis : List Nat) (here : Nat) : Prop :=
  (vis ++ [here]).Nodup ∧ (∀ i, i < vis.length → f other ((vis ++ [here]).getD i 0) = f one ((vis ++ [here]).getD (i + 1) 0)) ∧ ∀ i, i < vis.length → f other ((vis ++ [here]).getD i 0) ≠ f one ((vis ++ [here]).getD 0 0)
theorem Chain.start (f : Nat → Nat → Nat) (one other c : Nat) : Chain f one other [] c := ⟨by simp, by simp, by simp⟩
theorem chain_next {n : Nat} {f : Nat → Nat → Nat} {one other here nx : Nat} {vis : List Nat} (h : LatinC n f) (h2 : other < n) (hlt : ∀ x ∈ vis ++ [here], x < n) (c : Chain f one other vis here)
    (hnx : f other here = f one nx) (hno : f other here ≠ f one ((vis ++ [here]).getD 0 0)) : Chain f one other (vis ++ [here]) nx := by
  obtain ⟨n1, n2, n3⟩ := c
  have gl : ∀ i, i < (vis ++ [here]).length → ((vis ++ [here]) ++ [nx]).getD i 0 = (vis ++ [here]).getD i 0 := fun i hi => by
    rw [List.getD_eq_getElem?_getD, List.getElem?_append_left hi, ← List.getD_eq_getElem?_getD]
  have gr : ((vis ++ [here]) ++ [nx]).getD (vis ++ [here]).length 0 = nx := by
    rw [List.getD_eq_getElem?_getD, List.getElem?_append_right (Nat.le_refl _), Nat.sub_self]
    rfl
  have gh : (vis ++ [here]).getD vis.length 0 = here := by
    rw [List.getD_eq_getElem?_getD, List.getElem?_append_right (Nat.le_refl _), Nat.sub_self]
    rfl
  have hlen : (vis ++ [here]).length = vis.length + 1 := by simp
  have g0 : ((vis ++ [here]) ++ [nx]).getD 0 0 = (vis ++ [here]).getD 0 0 := gl 0 (by omega)
  have hlow : ∀ i, i < (vis ++ [here]).length → (vis ++ [here]).getD i 0 < n := fun i hi => hlt _ (getD_mem 0 hi)
  have all2 : ∀ i, i < (vis ++ [here]).length → f other ((vis ++ [here]).getD i 0) = f one (((vis ++ [here]) ++ [nx]).getD (i + 1) 0) := fun i hi => by
    by_cases hi2 : i < vis.length
    · rw [gl (i + 1) (by omega)]
      exact n2 i hi2
    · have : i = vis.length := by omega
      subst this
      rw [gh, ← hlen, gr]
      exact hnx
  have all3 : ∀ i, i < (vis ++ [here]).length → f other ((vis ++ [here]).getD i 0) ≠ f one ((vis ++ [here]).getD 0 0) := fun i hi => by
    by_cases hi2 : i < vis.length
    · exact n3 i hi2
    · have : i = vis.length := by omega
      subst this
      rw [gh]
      exact hno
  refine ⟨?_, fun i hi => ?_, fun i hi => ?_⟩
  · rw [nodup_snoc]
    refine ⟨n1, fun hm => ?_⟩
    obtain ⟨j, hj⟩ := List.getElem?_of_mem hm
    have hjl := (List.getElem?_eq_some_iff.mp hj).1
    have hjd : (vis ++ [here]).getD j 0 = nx := getD_ix hj
    cases j with
    | zero =>
      exact hno (by rw [hnx, hjd])
    | succ j =>
      have e1 := n2 j (by omega)
      rw [hjd, ← hnx] at e1
      have e2 := h.row other _ _ h2 (hlow j (by omega)) (hlt here (by simp)) e1
      have e3 : (vis ++ [here])[j]? = (vis ++ [here])[vis.length]? := by
        rw [ix_getD 0 (by omega : j < (vis ++ [here]).length), ix_getD 0 (by omega : vis.length < (vis ++ [here]).length), e2, gh]
      have := (List.getElem?_inj (by omega : j < (vis ++ [here]).length) n1).mp e3
      omega
  · rw [gl i hi]
    exact all2 i hi
  · rw [gl i hi, g0]
    exact all3 i hi
theorem chain_closed {f : Nat → Nat → Nat} {one other here : Nat} {vis : List Nat} (c : Chain f one other vis here) (hw : f other here = f one ((vis ++ [here]).getD 0 0)) :
    (∀ x ∈ vis ++ [here], ∃ e ∈ vis ++ [here], f other x = f one e) ∧ ∀ x ∈ vis ++ [here], ∃ e ∈ vis ++ [here], f one x = f other e := by
  obtain ⟨n1, n2, n3⟩ := c
  have hlen : (vis ++ [here]).length = vis.length + 1 := by simp
  have gh : (vis ++ [here]).getD vis.length 0 = here := by
    rw [List.getD_eq_getElem?_getD, List.getElem?_append_right (Nat.le_refl _), Nat.sub_self]
    rfl
  constructor
  · intro x hx
    obtain ⟨j, hj⟩ := List.getElem?_of_mem hx
    have hjl := (List.getElem?_eq_some_iff.mp hj).1
    have hjd : (vis ++ [here]).getD j 0 = x := getD_ix hj
    by_cases hj2 : j < vis.length
    · exact ⟨(vis ++ [here]).getD (j + 1) 0, getD_mem 0 (by omega), by rw [← hjd]; exact n2 j hj2⟩
    · have : j = vis.length := by omega
      subst this
      rw [gh] at hjd
      subst hjd
      exact ⟨_, getD_mem 0 (by omega), hw⟩
  · intro x hx
    obtain ⟨j, hj⟩ := List.getElem?_of_mem hx
    have hjl := (List.getElem?_eq_some_iff.mp hj).1
    have hjd : (vis ++ [here]).getD j 0 = x := getD_ix hj
    cases j with
    | zero => exact ⟨here, by simp, by rw [hw, hjd]⟩
    | succ j => exact ⟨_, getD_mem 0 (by omega : j < (vis ++ [here]).length), by rw [n2 j (by omega), hjd]⟩
/-- within n turns the chain closes -/
theorem chain_short {n : Nat} {f : Nat → Nat → Nat} {one other here : Nat} {vis : List Nat} (c : Chain f one other vis here) (hlt : ∀ x ∈ vis ++ [here], x < n) : vis.length < n := by
  have := sub_len c.1 (m := List.range n) fun x hx => List.mem_range.mpr (hlt x hx)
  rw [List.length_range, List.length_append, List.length_singleton] at this
  omega
theorem kleinC : Latin 4 [[0, 1, 2, 3], [1, 0, 3, 2], [2, 3, 0, 1], [3, 2, 1, 0]] := by
  refine ⟨rfl, ?_, ?_⟩
  · decide
  · decide
end K65
/-! the rings: plain mathematics -/
namespace K65
theorem a1 {n l k : Nat} (hn : n = 3 ∨ n = 5 ∨ n = 7) (hl : l < n) (hk : k < n) : (l + (k + n - l) % n) % n = k := by
  rcases hn with rfl | rfl | rfl <;> omega
theorem a2 {n l a i j : Nat} (hn : n = 3 ∨ n = 5 ∨ n = 7) (hl : l < n) (ha : a < n) (hi : i < n) (hj : j < n) (h : (a + (i + n - l) % n) % n = (a + (j + n - l) % n) % n) : i = j := by
  rcases hn with rfl | rfl | rfl <;> omega
theorem a3 {n a b s : Nat} (hn : n = 3 ∨ n = 5 ∨ n = 7) (ha : a < n) (hb : b < n) (hs : s < n) (h : (a + (a + s) % n) % n = (b + (b + s) % n) % n) : a = b := by
  rcases hn with rfl | rfl | rfl <;> omega
theorem kin_row {n a c : Nat} (hc : c < n) : ((List.range n).map fun c => (a + c) % n).getD c 0 = (a + c) % n := by
  rw [List.getD_eq_getElem?_getD, List.getElem?_map, List.getElem?_range hc]
  rfl
theorem sg_kin {n s : Nat} (h1 : 1 ≤ n) : ∀ L : List Nat, sg (kinM n L) (L.map fun a => (a + s) % n) = L.map fun a => (a + (a + s) % n) % n
  | [] => rfl
  | a :: L => by
    show ((List.range n).map fun c => (a + c) % n).getD ((a + s) % n) 0 :: sg (kinM n L) (L.map fun a => (a + s) % n) = _
    rw [sg_kin h1 L, kin_row (Nat.mod_lt _ h1)]
    rfl
theorem kin_part {n : Nat} {L : List Nat} (hn : n = 3 ∨ n = 5 ∨ n = 7) (h : PermN n L) : ∃ ts, IsPart n (kinM n L) ts := by
  have h1 : 1 ≤ n := by omega
  have hL0 : L[0]? = some (L.getD 0 0) := ix_getD 0 (by rw [h.1]; omega)
  have hl : L.getD 0 0 < n := h.2.2 _ (List.mem_of_getElem? hL0)
  refine ⟨(List.range n).map fun k => L.map fun a => (a + (k + n - L.getD 0 0) % n) % n, by simp, fun i t ht => ?_, ?_⟩
  · rw [List.getElem?_map] at ht
    by_cases hi : i < n
    · rw [List.getElem?_range hi] at ht
      cases ht
      refine ⟨⟨permN_map h (fun x y hx hy e => ?_) fun x _ => Nat.mod_lt _ h1, ?_⟩, ?_⟩
      · rw [Nat.add_comm x, Nat.add_comm y] at e
        exact add_mod_inj hx hy e
      · rw [sg_kin h1]
        exact (permN_map h (fun x y hx hy e => a3 hn hx hy (Nat.mod_lt _ h1) e) fun x _ => Nat.mod_lt _ h1).2.1
      · rw [List.getElem?_map, hL0]
        exact congrArg some (a1 hn hl hi)
    · rw [List.getElem?_eq_none (by rw [List.length_range]; omega)] at ht
      cases ht
  · rw [apart_ix]
    intro i j t u hji ht hu
    rw [List.getElem?_map] at ht hu
    by_cases hi : i < n
    · rw [List.getElem?_range hi] at ht
      rw [List.getElem?_range (by omega)] at hu
      cases ht
      cases hu
      rw [meets_no]
      intro p x y hx hy e
      rw [List.getElem?_map] at hx hy
      cases ha : L[p]? with
      | none => rw [ha] at hx; cases hx
      | some a =>
        rw [ha] at hx hy
        cases hx
        cases hy
        have := a2 hn hl (h.2.2 _ (List.mem_of_getElem? ha)) hi (by omega) e
        omega
    · rw [List.getElem?_eq_none (by rw [List.length_range]; omega)] at ht
      cases ht
theorem cross2 : crossM (ringM 2) = [] := by decide +kernel
theorem cross4 : crossM (ringM 4) = [] := by decide +kernel
theorem cross6 : crossM (ringM 6) = [] := by decide +kernel
theorem even_none {n : Nat} (hn : n = 2 ∨ n = 4 ∨ n = 6) (ts : List (List Nat)) : ¬ IsPart n (ringM n) ts := fun hp => by
  have h1 : 1 ≤ n := by omega
  have hL := kin_latin (permN_range n) h1
  have h0 : ts[0]? = some (ts.getD 0 []) := ix_getD [] (by rw [hp.1]; omega)
  have hc := (mem_crossM hL.1 (fun r hr => (hL.2.1 r hr).1)).mpr (hp.2.1 0 _ h0).1
  have he : crossM (kinM n (List.range n)) = [] := by
    rcases hn with rfl | rfl | rfl
    · exact cross2
    · exact cross4
    · exact cross6
  rw [he] at hc
  cases hc
theorem cross3 : ∀ t ∈ crossM (ringM 3), t = [0, 1, 2] ∨ t = [1, 2, 0] ∨ t = [2, 0, 1] := by decide +kernel
theorem cross1 : ∀ t ∈ crossM (ringM 1), t = [0] := by decide +kernel
theorem ring3_one {ts : List (List Nat)} (hp : IsPart 3 (ringM 3) ts) : ts = [[0, 1, 2], [1, 2, 0], [2, 0, 1]] := by
  have hL := kin_latin (permN_range 3) (by decide)
  have hm : ∀ i t, ts[i]? = some t → t[0]? = some i ∧ (t = [0, 1, 2] ∨ t = [1, 2, 0] ∨ t = [2, 0, 1]) := fun i t ht => ⟨(hp.2.1 i t ht).2, cross3 t ((mem_crossM hL.1 (fun r hr => (hL.2.1 r hr).1)).mpr (hp.2.1 i t ht).1)⟩
  obtain ⟨a, b, c, rfl⟩ : ∃ a b c, ts = [a, b, c] := by
    match ts, hp.1 with
    | [a, b, c], _ => exact ⟨a, b, c, rfl⟩
  obtain ⟨x1, x2⟩ := hm 0 a rfl
  obtain ⟨y1, y2⟩ := hm 1 b rfl
  obtain ⟨z1, z2⟩ := hm 2 c rfl
  rcases x2 with rfl | rfl | rfl <;> first | (exfalso; revert x1; decide) | skip
  rcases y2 with rfl | rfl | rfl <;> first | (exfalso; revert y1; decide) | skip
  rcases z2 with rfl | rfl | rfl <;> first | (exfalso; revert z1; decide) | rfl
theorem ring1_one {ts : List (List Nat)} (hp : IsPart 1 (ringM 1) ts) : ts = [[0]] := by
  have hL := kin_latin (permN_range 1) (by decide)
  obtain ⟨a, rfl⟩ : ∃ a, ts = [a] := by
    match ts, hp.1 with
    | [a], _ => exact ⟨a, rfl⟩
  rw [cross1 a ((mem_crossM hL.1 (fun r hr => (hL.2.1 r hr).1)).mpr (hp.2.1 0 a rfl).1)]
theorem ring1_part : IsPart 1 (ringM 1) [[0]] := by
  refine ⟨rfl, fun i t ht => ?_, by unfold Apart; simp⟩
  match i with
  | 0 => cases ht; exact ⟨by decide, rfl⟩
theorem ring1_mate {ts mr : List (List Nat)} (h : MateOf 1 ts mr) : mr = ringM 1 := by
  obtain ⟨h1, h2, _⟩ := h
  match mr, h1 with
  | [r], _ =>
    obtain ⟨h3, h4⟩ := h2 r (List.mem_cons_self ..)
    match r, h3 with
    | [x], _ =>
      have : x < 1 := h4 x (List.mem_cons_self ..)
      have : x = 0 := by omega
      subst this
      rfl
end K65
namespace K65
open PySem PySem.Spec PyProof.Rows L2
open Evl (Ex)
/-! ### the text by places -/
def topS (i : Nat) : Stmt := PySem.Challenge.pw_oneanswer_k65_whole_partings.main.body.getD i (.Pass ⟨0, 0, 0, 0⟩)
/-- what the module's names hold: built-ins untouched, constants -/
structure Txt (K : PySem.W.Frag) (mg : Str → Option Value) : Prop where
  m_len : mg "len" = none
  m_isinstance : mg "isinstance" = none
  m_int : mg "int" = none
  m_bool : mg "bool" = none
  m_tuple : mg "tuple" = none
  m_range : mg "range" = none
  m_sorted : mg "sorted" = none
  m_list : mg "list" = none
  m_all : mg "all" = none
  m_any : mg "any" = none
  m_enumerate : mg "enumerate" = none
  m_zip : mg "zip" = none
  m_sum : mg "sum" = none
  m_abs : mg "abs" = none
  m_max : mg "max" = none
  m_min : mg "min" = none
  m_dict : mg "dict" = none
  cMAX_ORDER : ∃ u, mg "MAX_ORDER" = some u ∧ RelV (.int 24) u
  cMOST_PARTED : ∃ u, mg "MOST_PARTED" = some u ∧ RelV (.int 7) u

/-! ### values that may be anything -/
inductive Dt where
  | i (n : Int)
  | oth
  | tup (l : List Dt)
mutual
inductive Dr (K : PySem.W.Frag) (H : Hp) : V → Dt → Prop
  | i (n : Int) : Dr K H (.int n) (.i n)
  | bl (b : Bool) : Dr K H (.bl b) .oth
  | non : Dr K H .non .oth
  | lst {a : Addr} {xs : List V} : H a = some (.lst xs) → Dr K H (.ref a) .oth
  | dK {a : Addr} {kvs : List (Key × V)} : H a = some (.dK kvs) → Dr K H (.ref a) .oth
  | tup {a : Addr} {xs : List V} {ds : List Dt} : H a = some (.tup xs) → DrAll K H xs ds → Dr K H (.ref a) (.tup ds)
inductive DrAll (K : PySem.W.Frag) (H : Hp) : List V → List Dt → Prop
  | nil : DrAll K H [] []
  | cons {v : V} {vs : List V} {d : Dt} {ds : List Dt} : Dr K H v d → DrAll K H vs ds → DrAll K H (v :: vs) (d :: ds)
end
end K65
namespace K65
open PySem PySem.Spec PyProof.Rows L2
open Evl (Ex)
section
variable {P : Program} {w : World} {K : PySem.W.Frag} {mg : Str → Option Value} {base : Heap}
abbrev s_is_whole : Stmt := topS 8
theorem sc_is_whole : FnScope ["value"] ["value"] (defScope s_is_whole) := ⟨rfl, rfl, rfl, by decide +kernel, rfl, by decide +kernel, by decide +kernel⟩
def isI : Dt → Prop | .i _ => True | _ => False
def sp_is_whole (K : PySem.W.Frag) : Sp := fun vs H Q _ => ∃ v d, vs = [v] ∧ Dr K H v d ∧ ∀ b H', Ex H H' → (b = true ↔ isI d) → Q (.bl b) H'
def isT : Dt → Prop | .tup _ => True | _ => False
theorem dr_ty {H : Hp} {v : V} {d : Dt} (h : Dr K H v d) : ∃ (t : String) (bi bb bt : Bool), TyX K H v (.type t) ∧ kitB t "int" = some bi ∧ kitB t "bool" = some bb ∧ kitB t "tuple" = some bt ∧ ((bi && !bb) = true ↔ isI d) ∧ (bt = true ↔ isT d) := by
  cases h with
  | i n => exact ⟨"int", true, false, false, .base (.int n), by decide +kernel, by decide +kernel, by decide +kernel, by simp [isI], by simp [isT]⟩
  | bl b => exact ⟨"bool", true, true, false, .base (.bl b), by decide +kernel, by decide +kernel, by decide +kernel, by simp [isI], by simp [isT]⟩
  | non => exact ⟨"NoneType", false, false, false, .base .non, by decide +kernel, by decide +kernel, by decide +kernel, by simp [isI], by simp [isT]⟩
  | lst e => exact ⟨"list", false, false, false, .base (.lst e), by decide +kernel, by decide +kernel, by decide +kernel, by simp [isI], by simp [isT]⟩
  | dK e => exact ⟨"dict", false, false, false, .base (.dK e), by decide +kernel, by decide +kernel, by decide +kernel, by simp [isI], by simp [isT]⟩
  | tup e _ => exact ⟨"tuple", false, false, true, .base (.tup e), by decide +kernel, by decide +kernel, by decide +kernel, by simp [isI], by simp [isT]⟩
mutual
theorem Dr.mono {H H' : Hp} (e : Ex H H') : ∀ (d : Dt) (v : V), Dr K H v d → Dr K H' v d
  | .i n, _, h => by cases h; exact .i _
  | .oth, _, h => by
    cases h with
    | bl b => exact .bl b
    | non => exact .non
    | lst q => exact .lst (e _ _ q)
    | dK q => exact .dK (e _ _ q)
  | .tup ds, _, h => by
    cases h with
    | tup q a => exact .tup (e _ _ q) (DrAll.mono e ds _ a)
theorem DrAll.mono {H H' : Hp} (e : Ex H H') : ∀ (ds : List Dt) (vs : List V), DrAll K H vs ds → DrAll K H' vs ds
  | [], _, h => by cases h; exact .nil
  | d :: ds, _, h => by
    cases h with
    | cons h1 h2 => exact .cons (Dr.mono e d _ h1) (DrAll.mono e ds _ h2)
end
theorem DrAll.a2 {H : Hp} : ∀ (ds : List Dt) (vs : List V), DrAll K H vs ds → A2 (fun d v => Dr K H v d) ds vs
  | [], _, h => by cases h; trivial
  | d :: ds, _, h => by
    cases h with
    | cons h1 h2 => exact ⟨h1, DrAll.a2 ds _ h2⟩
theorem DrAll.of {H : Hp} : ∀ {ds : List Dt} {vs : List V}, A2 (fun d v => Dr K H v d) ds vs → DrAll K H vs ds
  | [], [], _ => .nil
  | _ :: _, _ :: _, h => .cons h.1 (DrAll.of h.2)
  | [], _ :: _, h => h.elim
  | _ :: _, [], h => h.elim
/-- naturals, tuples of them, tuples of such, as anything -/
def dn (ns : List Nat) : Dt := .tup (ns.map fun n : Nat => .i (n : Int))
def dnn (ts : List (List Nat)) : Dt := .tup (ts.map dn)
theorem Nu.dr {H : Hp} {ns : List Nat} {v : V} (h : Nu H ns v) : Dr K H v (dn ns) := by
  obtain ⟨a, rfl, h⟩ := h
  refine .tup h (DrAll.of ?_)
  refine A2.by_ix (by simp) fun i d v h1 h2 => ?_
  obtain ⟨n, h3, rfl⟩ := iv_ix h2
  rw [List.getElem?_map, h3] at h1
  cases h1
  exact .i _
theorem Nuu.dr {H : Hp} {ts : List (List Nat)} {v : V} (h : Nuu H ts v) : Dr K H v (dnn ts) := by
  obtain ⟨a, us, rfl, h, q⟩ := h
  refine .tup h (DrAll.of (A2.map ?_))
  exact q.mono fun _ _ _ z => Nu.dr z
theorem ok_is_whole (T : Txt K mg) (D : Df K mg "is_whole" s_is_whole) : Ca P w K mg base 1 "is_whole" ["value"] (sp_is_whole K) := by
  refine ca_mk D sc_is_whole (fun vs H Q E h => ?_) (fun _ _ _ _ _ _ us hl => match us, hl with | [_], _ => rfl) (fun f cdv A outer s H vs Q E hr h => ?_)
  · obtain ⟨v, d, rfl, _⟩ := h
    rfl
  obtain ⟨v, d, rfl, hd, q⟩ := h
  have nd := sc_is_whole.nd
  refine ⟨_, (pss_one (ps_ret (pe_and (pe_callB (call_isiK K) (by rfl) T.m_isinstance (by decide +kernel) (pa_cons (pv 0) (pa_cons (pe_bltn (v := .ty "int") (by rfl) T.m_int (by decide +kernel) rfl) pa_nil))) (pe_one (pe_not (pe_callB (call_isiK K) (by rfl) T.m_isinstance (by decide +kernel) (pa_cons (pv 0) (pa_cons (pe_bltn (v := .ty "bool") (by rfl) T.m_bool (by decide +kernel) rfl) pa_nil)))))))), ?_⟩
  obtain ⟨t, bi, bb, bt, ty, e1, e2, e3, h1, h2⟩ := dr_ty hd
  refine ⟨_, rfl, _, _, _, _, bi, rfl, .ty _, ty, kit_ty e1, bi, rfl, ?_⟩
  refine ite2 (fun c => ?_) (fun c => ?_)
  · refine ⟨_, rfl, _, _, _, _, bb, rfl, .ty _, ty, kit_ty e2, bb, rfl, ?_⟩
    exact q _ _ (Ex.refl H) (by rw [← h1, c]; cases bb <;> simp)
  · exact q _ _ (Ex.refl H) (by rw [← h1]; cases bi <;> simp at c ⊢)
abbrev s_is_within : Stmt := topS 9
theorem sc_is_within : FnScope ["value", "least", "most"] ["value", "least", "most"] (defScope s_is_within) := ⟨rfl, rfl, rfl, by decide +kernel, rfl, by decide +kernel, by decide +kernel⟩
def inR (lo hi : Int) : Dt → Prop | .i n => lo ≤ n ∧ n ≤ hi | _ => False
def sp_is_within (K : PySem.W.Frag) : Sp := fun vs H Q _ => ∃ v d lo hi, vs = [v, .int lo, .int hi] ∧ Dr K H v d ∧ ∀ b H', Ex H H' → (b = true ↔ inR lo hi d) → Q (.bl b) H'
theorem ok_is_within (T : Txt K mg) (D : Df K mg "is_within" s_is_within) (cis_whole : Ca P w K mg base 1 "is_whole" ["value"] (sp_is_whole K)) : Ca P w K mg base 2 "is_within" ["value", "least", "most"] (sp_is_within K) := by
  refine ca_mk D sc_is_within (fun vs H Q E h => ?_) (fun _ _ _ _ _ _ us hl => match us, hl with | [_, _, _], _ => rfl) (fun f cdv A outer s H vs Q E hr h => ?_)
  · obtain ⟨v, d, lo, hi, rfl, _⟩ := h
    rfl
  obtain ⟨v, d, lo, hi, rfl, hd, q⟩ := h
  have nd := sc_is_within.nd
  refine ⟨_, (pss_one (ps_ret (pe_and (pe_ca cis_whole hr (pa_cons (pv 0) pa_nil)) (pe_one (pe_chain op_le op_le (pv 1) (pv 0) (pv 2)))))), ?_⟩
  refine ⟨_, rfl, v, d, rfl, hd, fun b H1 e1 hb => ⟨b, rfl, ?_⟩⟩
  refine ite2 (fun c => ?_) (fun c => ?_)
  · have z := hb.mp c
    cases hd with
    | i n =>
      refine ⟨_, rfl, _, rfl, lo, n, rfl, rfl, _, rfl, ?_⟩
      refine ite2 (fun c1 => ?_) (fun c1 => ?_)
      · refine ⟨_, rfl, n, hi, rfl, rfl, q _ _ e1 ?_⟩
        simp [inR] at c1 ⊢
        omega
      · refine q _ _ e1 ?_
        simp [inR] at c1 ⊢
        omega
    | bl | non | lst | dK | tup => exact z.elim
  · refine q _ _ e1 ?_
    have z : ¬ isI d := fun y => c (hb.mpr y)
    cases d with
    | i n => exact absurd trivial z
    | oth | tup => simp [inR]
end
end K65
namespace K65
open PySem PySem.Spec PyProof.Rows L2
open Evl (Ex)
open PySem.W (Datum Tup)
/-! ### data for == -/
section
variable {K : PySem.W.Frag}
theorem dpAll_of {α : Type} [DecidableEq α] [Datum α] {H : Hp} : ∀ {l : List α} {vs : List V}, A2 (fun a v => Dp K H v (Datum.toD a)) l vs → DpAll K H vs (l.map Datum.toD)
  | [], [], _ => .nil
  | _ :: _, _ :: _, h => .cons h.1 (dpAll_of h.2)
  | [], _ :: _, h => h.elim
  | _ :: _, [], h => h.elim
def zs (ns : List Nat) : List Int := ns.map fun n : Nat => (n : Int)
theorem zs_inj {a b : List Nat} (h : zs a = zs b) : a = b := by
  induction a generalizing b with
  | nil => cases b with
    | nil => rfl
    | cons => simp [zs] at h
  | cons x a ih => cases b with
    | nil => simp [zs] at h
    | cons y b =>
      simp only [zs, List.map_cons, List.cons.injEq] at h
      rw [ih h.2, show x = y by omega]
theorem dp_ints {H : Hp} {xs : List Int} : DpAll K H (xs.map V.int) (xs.map Datum.toD) := dpAll_of (A2.of_eq (R := fun (a : Int) v => Dp K H v (Datum.toD a)) xs fun a _ => Dp.int a)
theorem dp_lst {H : Hp} {p : Addr} {xs : List Int} (h : H p = some (.lst (xs.map V.int))) : Dp K H (.ref p) (Datum.toD xs) := .lst (Evl.sq_of h) dp_ints
theorem Nu.dp {H : Hp} {ns : List Nat} {v : V} (h : Nu H ns v) : Dp K H v (Datum.toD (Tup.mk (zs ns))) := by
  obtain ⟨a, rfl, h⟩ := h
  rw [ivs_int] at h
  exact .tup (Evl.st_of h) dp_ints
def tts (ts : List (List Nat)) : List (Tup Int) := ts.map fun t => Tup.mk (zs t)
theorem tts_inj {a b : List (List Nat)} (h : tts a = tts b) : a = b := by
  induction a generalizing b with
  | nil => cases b with
    | nil => rfl
    | cons => simp [tts] at h
  | cons x a ih => cases b with
    | nil => simp [tts] at h
    | cons y b =>
      simp only [tts, List.map_cons, List.cons.injEq, Tup.mk.injEq] at h
      rw [ih h.2, zs_inj h.1]
theorem dpAll_nu {H : Hp} {ts : List (List Nat)} {us : List V} (h : A2 (Nu H) ts us) : DpAll K H us ((tts ts).map Datum.toD) := dpAll_of (A2.map (h.mono fun _ _ _ q => q.dp))
theorem Nuu.dp {H : Hp} {ts : List (List Nat)} {v : V} (h : Nuu H ts v) : Dp K H v (Datum.toD (Tup.mk (tts ts))) := by
  obtain ⟨a, us, rfl, h, q⟩ := h
  exact .tup (Evl.st_of h) (dpAll_nu q)
/-- data of a kind that == may take -/
def Lay (α : Type) [DecidableEq α] [Datum α] : Prop := (∀ a : α, (Datum.toD a).canLay0 = true) ∧ Datum.depth α ≤ 64
theorem layAll {α : Type} [DecidableEq α] [Datum α] (h : ∀ a : α, (Datum.toD a).canLay0 = true) : ∀ xs : List α, PyData.canLayAll0 (xs.map Datum.toD) = true
  | [] => by simp [PyData.canLayAll0]
  | x :: xs => by
    rw [List.map_cons, PyData.canLayAll0, h x, layAll h xs]
    rfl
theorem lay_int : Lay Int := ⟨fun a => by simp [Datum.toD, PyData.canLay0], by decide⟩
theorem lay_list {α : Type} [DecidableEq α] [Datum α] (h : Lay α) (d : Datum.depth α + 1 ≤ 64) : Lay (List α) := ⟨fun a => by show PyData.canLay0 (.list _) = true; rw [PyData.canLay0]; exact layAll h.1 a, d⟩
theorem lay_tup {α : Type} [DecidableEq α] [Datum α] (h : Lay α) (d : Datum.depth α + 1 ≤ 64) : Lay (Tup α) := ⟨fun a => by show PyData.canLay0 (.tuple _) = true; rw [PyData.canLay0]; exact layAll h.1 a.items, d⟩
theorem lay_li : Lay (List Int) := lay_list lay_int (by decide)
theorem lay_ti : Lay (Tup Int) := lay_tup lay_int (by decide)
theorem lay_tti : Lay (Tup (Tup Int)) := lay_tup lay_ti (by decide)
theorem lay_lti : Lay (List (Tup Int)) := lay_list lay_ti (by decide)
theorem lay_ltti : Lay (List (Tup (Tup Int))) := lay_list lay_tti (by decide)
theorem lay_llti : Lay (List (List (Tup Int))) := lay_list lay_lti (by decide)
theorem sh_of {α : Type} [DecidableEq α] [Datum α] (h : Lay α) (a : α) : SeqAt.shaped (Datum.toD a) = true := by
  unfold SeqAt.shaped
  rw [h.1 a, Bool.true_and]
  exact decide_eq_true (Nat.le_trans (Datum.depth_le a) h.2)
/-- == of such data -/
theorem eqD_of {α : Type} [DecidableEq α] [Datum α] {H : Hp} {x y : V} {a b : α} {Q : VK} (L : Lay α) (ha : Dp K H x (Datum.toD a)) (hb : Dp K H y (Datum.toD b)) (q : Q (.bl (decide (a = b))) H) : rEqD K x y H Q :=
  ⟨_, _, ha, hb, sh_of L a, sh_of L b, by rw [Datum.eqv]; exact q⟩
theorem neD_of {α : Type} [DecidableEq α] [Datum α] {H : Hp} {x y : V} {a b : α} {Q : VK} (L : Lay α) (ha : Dp K H x (Datum.toD a)) (hb : Dp K H y (Datum.toD b)) (q : Q (.bl (!decide (a = b))) H) : rNeD K x y H Q :=
  ⟨_, _, ha, hb, sh_of L a, sh_of L b, by rw [Datum.eqv]; exact q⟩
theorem rgV_n (n : Nat) : rgV 0 (n : Int) = (zs (List.range n)).map V.int := by
  unfold rgV zs
  rw [List.map_map, show ((n : Int) - 0).toNat = n by omega]
  apply List.map_congr_left
  intro i _
  show V.int (0 + (i : Int)) = V.int (i : Int)
  rw [Int.zero_add]
end
section
variable {P : Program} {w : World} {K : PySem.W.Frag} {mg : Str → Option Value} {base : Heap}
abbrev s_require_within : Stmt := topS 10
theorem sc_require_within : FnScope ["value", "least", "most"] ["value", "least", "most"] (defScope s_require_within) := ⟨rfl, rfl, rfl, by decide +kernel, rfl, by decide +kernel, by decide +kernel⟩
def sp_require_within (K : PySem.W.Frag) : Sp := fun vs H Q _ => ∃ (v lo hi : Int), vs = [.int v, .int lo, .int hi] ∧ lo ≤ v ∧ v ≤ hi ∧ ∀ H', Ex H H' → Q .non H'
theorem ok_require_within (T : Txt K mg) (D : Df K mg "require_within" s_require_within) (cis_within : Ca P w K mg base 2 "is_within" ["value", "least", "most"] (sp_is_within K)) : Ca P w K mg base 3 "require_within" ["value", "least", "most"] (sp_require_within K) := by
  refine ca_mk D sc_require_within (fun vs H Q E h => ?_) (fun _ _ _ _ _ _ us hl => match us, hl with | [_, _, _], _ => rfl) (fun f cdv A outer s H vs Q E hr h => ?_)
  · obtain ⟨v, lo, hi, rfl, _⟩ := h
    rfl
  obtain ⟨v, lo, hi, rfl, h1, h2, q⟩ := h
  have nd := sc_require_within.nd
  refine ⟨_, (pss_one (ps_if (pt_not (pt_val (pe_ca cis_within hr (pa_cons (pv 0) (pa_cons (pv 1) (pa_cons (pv 2) pa_nil)))))) (pss_one ps_never) pss_nil)), ?_⟩
  refine ⟨_, rfl, _, rfl, _, rfl, _, .i v, lo, hi, rfl, .i v, fun b H1 e1 hb => ⟨b, rfl, ?_⟩⟩
  rw [hb.mpr ⟨h1, h2⟩]
  exact q _ e1
abbrev s_require_order : Stmt := topS 11
theorem sc_require_order : FnScope ["value"] ["value"] (defScope s_require_order) := ⟨rfl, rfl, rfl, by decide +kernel, rfl, by decide +kernel, by decide +kernel⟩
def sp_require_order (K : PySem.W.Frag) : Sp := fun vs H Q _ => ∃ (v : Int), vs = [.int v] ∧ 1 ≤ v ∧ v ≤ 24 ∧ ∀ H', Ex H H' → Q .non H'
theorem ok_require_order (T : Txt K mg) (D : Df K mg "require_order" s_require_order) (crequire_within : Ca P w K mg base 3 "require_within" ["value", "least", "most"] (sp_require_within K)) : Ca P w K mg base 4 "require_order" ["value"] (sp_require_order K) := by
  refine ca_mk D sc_require_order (fun vs H Q E h => ?_) (fun _ _ _ _ _ _ us hl => match us, hl with | [_], _ => rfl) (fun f cdv A outer s H vs Q E hr h => ?_)
  · obtain ⟨v, rfl, _⟩ := h
    rfl
  obtain ⟨v, rfl, h1, h2, q⟩ := h
  have nd := sc_require_order.nd
  refine ⟨_, (pss_one (ps_expr (pe_ca crequire_within hr (pa_cons (pv 0) (pa_cons pe_int (pa_cons (C8.pe_gc rfl T.cMAX_ORDER) pa_nil)))))), ?_⟩
  exact ⟨_, rfl, v, 1, 24, rfl, h1, h2, fun H1 e1 => q _ e1⟩
abbrev s_is_renaming_of : Stmt := topS 12
theorem sc_is_renaming_of : FnScope ["order", "value", "sign"] ["order", "value"] (defScope s_is_renaming_of) := ⟨rfl, rfl, rfl, by decide +kernel, rfl, by decide +kernel, by decide +kernel⟩
def renD (n : Nat) (d : Dt) : Prop := ∃ ns, d = dn ns ∧ PermN n ns
def sp_is_renaming_of (K : PySem.W.Frag) : Sp := fun vs H Q _ => ∃ (v : V) (d : Dt) (n : Nat), vs = [iv n, v] ∧ Dr K H v d ∧ n ≤ 1000 ∧ ∀ b H', Ex H H' → (b = true ↔ renD n d) → Q (.bl b) H'
theorem ints_of {n : Nat} : ∀ {ds : List Dt}, (∀ d ∈ ds, inR 0 ((n : Int) - 1) d) → ∃ ns : List Nat, ds = ns.map (fun n : Nat => Dt.i (n : Int)) ∧ ∀ x ∈ ns, x < n
  | [], _ => ⟨[], rfl, by simp⟩
  | d :: ds, h => by
    obtain ⟨ns, rfl, h2⟩ := ints_of (ds := ds) fun e he => h e (List.mem_cons_of_mem _ he)
    have h1 := h d (List.mem_cons_self ..)
    cases d with
    | i z =>
      simp only [inR] at h1
      refine ⟨z.toNat :: ns, ?_, ?_⟩
      · rw [List.map_cons, show ((z.toNat : Nat) : Int) = z by omega]
      · intro x hx
        rcases List.mem_cons.mp hx with rfl | hx
        · omega
        · exact h2 x hx
    | oth | tup => exact h1.elim
theorem dn_inj {a b : List Nat} (h : dn a = dn b) : a = b := by
  simp only [dn, Dt.tup.injEq] at h
  induction a generalizing b with
  | nil => cases b with
    | nil => rfl
    | cons => simp at h
  | cons x a ih => cases b with
    | nil => simp at h
    | cons y b =>
      simp only [List.map_cons, List.cons.injEq, Dt.i.injEq] at h
      rw [ih h.2, show x = y by omega]
theorem ok_is_renaming_of (T : Txt K mg) (D : Df K mg "is_renaming_of" s_is_renaming_of) (cis_within : Ca P w K mg base 2 "is_within" ["value", "least", "most"] (sp_is_within K)) : Ca P w K mg base 3 "is_renaming_of" ["order", "value"] (sp_is_renaming_of K) := by
  refine ca_mk D sc_is_renaming_of (fun vs H Q E h => ?_) (fun _ _ _ _ _ _ us hl => match us, hl with | [_, _], _ => rfl) (fun f cdv A outer s H vs Q E hr h => ?_)
  · obtain ⟨v, d, n, rfl, _⟩ := h
    rfl
  obtain ⟨v, d, n, rfl, hd, hn, q⟩ := h
  have nd := sc_is_renaming_of.nd
  refine ⟨_, (pss_cons (ps_if (PW.pt (pw_or (pt_not (pt_val (pe_callB (call_isiK K) (by rfl) T.m_isinstance (by decide +kernel) (pa_cons (pv 1) (pa_cons (pe_bltn (v := .ty "tuple") (by rfl) T.m_tuple (by decide +kernel) rfl) pa_nil))))) (pw_or1 (pt_cmpR op_ne (pe_callB (call_len_seqK K) (by rfl) T.m_len (by decide +kernel) (pa_cons (pv 1) pa_nil)) (pv 0) (nomark _))))) (pss_one (ps_ret pe_bl)) pss_nil)
    (pss_cons (ps_if (pt_not (pt_val (pe_callB (cr_allK K) (by rfl) T.m_all (by decide +kernel) (pa_cons (pe_lc (own := [("sign", 2)]) rfl nd (pi_tupK K (pv 1)) (blkOk_by (N := ["order", "value", "sign"]) (sc := defScope s_is_renaming_of) (by decide +kernel)) (fun _ _ _ _ _ => (pg_name (i := 2) nd rfl (by first | exact Or.inl rfl | exact Or.inr rfl))) (fun _ _ _ _ _ => pts_nil) (fun _ _ _ _ _ => (pe_ca cis_within hr (pa_cons (pv 2) (pa_cons pe_int (pa_cons (pe_op op_sub (pv 0) pe_int) pa_nil)))))) pa_nil)))) (pss_one (ps_ret pe_bl)) pss_nil)
    (pss_one (ps_ret (pe_cmpR (op_eqDK K hr.units) (pe_callB (cr_sortedTIK K) (by rfl) T.m_sorted (by decide +kernel) (pa_cons (pv 1) pa_nil)) (pe_listRg rfl (by rfl) T.m_list (prg_1 (by rfl) T.m_range (pv 0))) (nomark _)))))), ?_⟩
  obtain ⟨t, bi, bb, bt, ty, e1, e2, e3, h1, h2⟩ := dr_ty hd
  refine ⟨_, rfl, _, _, _, _, bt, rfl, .ty _, ty, kit_ty e3, bt, rfl, ?_⟩
  cases bt with
  | false =>
    have z : ¬ isT d := fun y => by simpa using h2.mpr y
    refine q _ _ (Ex.refl H) ⟨fun y => by simp at y, fun ⟨ns, y, _⟩ => (z (by rw [y]; trivial)).elim⟩
  | true =>
    cases hd with
    | i | bl | non | lst | dK => exact (h2.mp rfl).elim
    | @tup a xs ds ha hds =>
      have hl := (DrAll.a2 ds xs hds).len
      have hL : SqT K H a xs := Evl.st_of ha
      refine ⟨_, rfl, a, xs, rfl, .inr hL, _, rfl, rfl, _, rfl, ?_⟩
      show if (!decide (V.int (xs.length : Int) = iv n)) = true then _ else _
      by_cases c : xs.length = n
      · rw [show decide (V.int (xs.length : Int) = iv n) = true from decide_eq_true (by rw [c]; rfl)]
        refine iteF ?_
        refine ⟨_, rfl, a, rfl, ⟨_, hL⟩, fun Dl hD => ?_⟩
        refine lc_kp walk_tup hD (fun i y H' => ∃ b : Bool, y = .bl b ∧ (b = true ↔ ∀ d, ds[i]? = some d → inR 0 ((n : Int) - 1) d)) (by omega) (fun H1 e => Evl.ex_t e hL) (fun i y _ _ _ z => z) (fun i x H1 H2 Kt hi e1 hx k => ?_) (fun ys H1 e1 hy a2 => ?_)
        · obtain ⟨rfl, hx⟩ := hx
          obtain ⟨d, hd, r⟩ := A2.get (DrAll.a2 ds xs hds) hx
          refine ⟨rfl, _, rfl, _, rfl, _, _, rfl, rfl, x, d, 0, _, rfl, Dr.mono e1 d x r, fun b H3 e3 hb => k _ _ e3 ⟨b, rfl, ?_⟩⟩
          rw [hb]
          exact ⟨fun z d' hd' => by rw [hd] at hd'; cases hd'; exact z, fun z => z d hd⟩
        · obtain ⟨bs, rfl, hall, _⟩ := A2.bools a2
          refine ⟨Dl, bs, rfl, Evl.sq_of hy, _, rfl, ?_⟩
          have hiff : bs.all id = true ↔ ∀ d ∈ ds, inR 0 ((n : Int) - 1) d := by
            rw [hall]
            constructor
            · intro z d hd
              obtain ⟨i, hi⟩ := List.getElem?_of_mem hd
              exact z i (List.mem_range.mpr (by rw [← hl]; exact (List.getElem?_eq_some_iff.mp hi).1)) d hi
            · intro z i _ d hd
              exact z d (List.mem_of_getElem? hd)
          cases hb : bs.all id with
          | false =>
            refine q _ _ e1 ⟨fun y => by simp at y, fun ⟨ns, y, hp⟩ => ?_⟩
            exfalso
            have : bs.all id = true := hiff.mpr fun d hd => by
              simp only [dn, Dt.tup.injEq] at y
              rw [y] at hd
              obtain ⟨x, hx, rfl⟩ := List.mem_map.mp hd
              have := hp.2.2 x hx
              simp only [inR]
              omega
            rw [hb] at this
            simp at this
          | true =>
            obtain ⟨ns, hns, hlt⟩ := ints_of (hiff.mp hb)
            subst hns
            have hxs : xs = ns.map iv := by
              refine A2.eqs (f := iv) (A2.mono (R := fun (m : Nat) v => Dr K H v (Dt.i (m : Int))) ?_ (A2.unmap (R := fun d v => Dr K H v d) (DrAll.a2 _ _ hds)))
              intro m v _ r
              cases r
              rfl
            subst hxs
            have ha1 : SqT K H1 a ((zs ns).map V.int) := by
              have := Evl.ex_t e1 hL
              rw [ivs_int] at this
              exact this
            refine iteF ?_
            refine ⟨_, rfl, a, zs ns, rfl, ha1, fun ms p pm pw hp => ⟨_, rfl, _, rfl, ⟨by omega, by omega, by omega, by omega, by omega⟩, fun p2 hp2 => ?_⟩⟩
            rw [rgV_n]
            refine eqD_of lay_li (dp_lst (by rw [upd_ne (ne_of_none upd_same hp2)]; exact upd_same)) (dp_lst upd_same) (q _ _ (e1.trans ((Ex.new hp).trans (Ex.new hp2))) ?_)
            rw [decide_eq_true_eq]
            have hz : ∃ l : List Nat, ms = zs l ∧ l.Perm ns := by
              have : ∀ x ∈ ms, 0 ≤ x := fun x hx => by
                obtain ⟨y, _, rfl⟩ := List.mem_map.mp (pm.mem_iff.mp hx)
                omega
              refine ⟨ms.map Int.toNat, ?_, ?_⟩
              · unfold zs
                rw [List.map_map]
                conv => lhs; rw [← List.map_id ms]
                apply List.map_congr_left
                intro x hx
                have := this x hx
                show x = ((x.toNat : Nat) : Int)
                omega
              · have := pm.map Int.toNat
                unfold zs at this
                rw [List.map_map] at this
                have e : ns.map (Int.toNat ∘ fun n : Nat => (n : Int)) = ns := by
                  conv => rhs; rw [← List.map_id ns]
                  apply List.map_congr_left
                  intro x _
                  show ((x : Int)).toNat = x
                  omega
                rw [e] at this
                exact this
            obtain ⟨l, rfl, pl⟩ := hz
            have pw' : l.Pairwise (· ≤ ·) := by
              unfold zs at pw
              rw [List.pairwise_map] at pw
              exact pw.imp fun h => by omega
            rw [show (zs l = zs (List.range n)) ↔ l = List.range n from ⟨zs_inj, fun h => by rw [h]⟩, sorted_range pl pw']
            exact ⟨fun h => ⟨ns, rfl, h⟩, fun ⟨ns', h, hp⟩ => by rw [dn_inj h]; exact hp⟩
      · rw [show decide (V.int (xs.length : Int) = iv n) = false from decide_eq_false (fun z => c (by have := V.int.inj z; omega))]
        refine q _ _ (Ex.refl H) ⟨fun y => by simp at y, fun ⟨ns, y, hp⟩ => ?_⟩
        exfalso
        simp only [dn, Dt.tup.injEq] at y
        rw [y, List.length_map] at hl
        exact c (by rw [← hl]; exact hp.1)
end
end K65
namespace K65
open PySem PySem.Spec PyProof.Rows L2
open Evl (Ex)
section
variable {P : Program} {w : World} {K : PySem.W.Frag} {mg : Str → Option Value} {base : Heap}
abbrev s_is_renaming : Stmt := topS 13
theorem sc_is_renaming : FnScope ["value"] ["value"] (defScope s_is_renaming) := ⟨rfl, rfl, rfl, by decide +kernel, rfl, by decide +kernel, by decide +kernel⟩
def sp_is_renaming (K : PySem.W.Frag) : Sp := fun vs H Q _ => ∃ (v : V) (ns : List Nat), vs = [v] ∧ Nu H ns v ∧ 1 ≤ ns.length ∧ ns.length ≤ 24 ∧ PermN ns.length ns ∧ ∀ H', Ex H H' → Q (.bl true) H'
theorem ok_is_renaming (T : Txt K mg) (D : Df K mg "is_renaming" s_is_renaming) (cis_renaming_of : Ca P w K mg base 3 "is_renaming_of" ["order", "value"] (sp_is_renaming_of K)) : Ca P w K mg base 4 "is_renaming" ["value"] (sp_is_renaming K) := by
  refine ca_mk D sc_is_renaming (fun vs H Q E h => ?_) (fun _ _ _ _ _ _ us hl => match us, hl with | [_], _ => rfl) (fun f cdv A outer s H vs Q E hr h => ?_)
  · obtain ⟨v, d, rfl, _⟩ := h
    rfl
  obtain ⟨v, ns, rfl, hv, h1, h2, h3, q⟩ := h
  have nd := sc_is_renaming.nd
  refine ⟨_, (pss_one (ps_ret (pe_and (pe_callB (call_isiK K) (by rfl) T.m_isinstance (by decide +kernel) (pa_cons (pv 0) (pa_cons (pe_bltn (v := .ty "tuple") (by rfl) T.m_tuple (by decide +kernel) rfl) pa_nil))) (pe_and (pe_chain op_le op_le pe_int (pe_callB (call_len_seqK K) (by rfl) T.m_len (by decide +kernel) (pa_cons (pv 0) pa_nil)) (C8.pe_gc rfl T.cMAX_ORDER)) (pe_one (pe_ca cis_renaming_of hr (pa_cons (pe_callB (call_len_seqK K) (by rfl) T.m_len (by decide +kernel) (pa_cons (pv 0) pa_nil)) (pa_cons (pv 0) pa_nil)))))))), ?_⟩
  obtain ⟨a, rfl, ha⟩ := id hv
  have hl : (ns.map iv).length = ns.length := List.length_map _
  refine ⟨_, rfl, _, _, _, _, true, rfl, .ty _, .base (.tup ha), kit_ty (by decide +kernel), true, rfl, ?_⟩
  refine iteT ⟨_, rfl, a, _, rfl, .inr (Evl.st_of ha), _, _, rfl, rfl, _, rfl, ?_⟩
  rw [hl]
  refine ite2 (fun c => ?_) (fun c => ?_)
  · refine ⟨_, _, rfl, rfl, _, rfl, ?_⟩
    refine ite2 (fun c2 => ?_) (fun c2 => ?_)
    · refine ⟨_, rfl, a, _, rfl, .inr (Evl.st_of ha), _, rfl, .ref a, dn ns, ns.length, by rw [hl]; rfl, hv.dr, by omega, fun b H1 e1 hb => ?_⟩
      rw [hb.mpr ⟨ns, rfl, h3⟩]
      exact q _ e1
    · exfalso; simp at c2; omega
  · exfalso; simp at c; omega
abbrev s_turned_back : Stmt := topS 14
theorem sc_turned_back : FnScope ["one", "found", "sign", "image"] ["one"] (defScope s_turned_back) := ⟨rfl, rfl, rfl, by decide +kernel, rfl, by decide +kernel, by decide +kernel⟩
def sp_turned_back (K : PySem.W.Frag) : Sp := fun vs H Q _ => ∃ (v : V) (ns : List Nat), vs = [v] ∧ Nu H ns v ∧ ns.length ≤ 1000 ∧ (∀ x ∈ ns, x < ns.length) ∧ ∀ v H', Ex H H' → Q v H'
theorem ok_turned_back (T : Txt K mg) (D : Df K mg "turned_back" s_turned_back) : Ca P w K mg base 1 "turned_back" ["one"] (sp_turned_back K) := by
  refine ca_mk D sc_turned_back (fun vs H Q E h => ?_) (fun _ _ _ _ _ _ us hl => match us, hl with | [_], _ => rfl) (fun f cdv A outer s H vs Q E hr h => ?_)
  · obtain ⟨v, d, rfl, _⟩ := h
    rfl
  obtain ⟨v, ns, rfl, hv, h1, h2, q⟩ := h
  have nd := sc_turned_back.nd
  refine ⟨_, (pss_cons (ps_set (i := 1) nd rfl (Or.inl rfl) (pe_op op_rep (pe_lst (pa_cons pe_int pa_nil)) (pe_callB (call_len_seqK K) (by rfl) T.m_len (by decide +kernel) (pa_cons (pv 0) pa_nil))))
    (pss_cons (ps_for PassesOwn.never rfl (pi_enumTK K (by rfl) T.m_enumerate (pa_cons (pv 0) pa_nil)) (pg_tupK K (n := 2) (by rfl) (pgs_cons (pg_name (i := 2) nd rfl (Or.inl rfl)) (pgs_cons (pg_name (i := 3) nd rfl (Or.inl rfl)) pgs_nil)))
      (pss_one (ps_asg (pv 2) (pg_sub (pv 1) (pv 3) set_list))))
    (pss_one (ps_ret (pe_callTy (call_tuple_ofK K) (by rfl) T.m_tuple (by decide +kernel) (pa_cons (pv 1) pa_nil)))))), ?_⟩
  obtain ⟨a, rfl, ha⟩ := id hv
  have hl : (ns.map iv).length = ns.length := List.length_map _
  refine ⟨(by show 1 ≤ sizeLine; decide), fun l hln => ⟨_, rfl, a, _, rfl, .inr (Evl.st_of ((Ex.new hln) _ _ ha)), l, _, _, rfl, rfl, upd_same, by rw [hl]; omega, by rw [hl]; omega, sz_le (by rw [hl]; simp; omega), fun p hp => ?_⟩⟩
  have e1 : Ex H (upd (upd H l (.lst [.int 0])) p (.lst (List.replicate ((((ns.map iv).length : Nat) : Int)).toNat [.int 0]).flatten)) := (Ex.new hln).trans (Ex.new hp)
  have np : H p = none := Evl.fresh_back (Ex.new hln) hp
  refine ⟨_, rfl, a, _, rfl, Evl.st_of (e1 _ _ ha), for_it walk_enumT (fun i σ H' => Ex H H' ∧ (∃ xs, H' p = some (.lst xs) ∧ xs.length = ns.length) ∧ ∃ u v, σ = [some (.ref a), some (.ref p), u, v]) ⟨e1, ⟨_, upd_same, by simp [hl]⟩, none, none, rfl⟩ (fun i σ H' _ p => Evl.st_of (p.1 _ _ ha)) (fun i x σ H1 H2 hi pv y => ?_) (fun σ H1 pv => ?_)⟩
  · obtain ⟨e, ⟨xs, hxs, hlx⟩, u, v, rfl⟩ := pv
    obtain ⟨t, x1, x2, rfl, ht, rfl, hx1, hx2⟩ := y
    obtain ⟨m, hm, rfl⟩ := iv_ix hx2
    have hml : m < xs.length := by rw [hlx]; exact h2 m (List.mem_of_getElem? hm)
    have hp2 : upd H1 t (.tup [x1, iv m]) p = some (.lst xs) := (Ex.new ht) _ _ hxs
    refine ⟨t, [x1, iv m], rfl, Evl.st_of upd_same, rfl, x1, [iv m], rfl, iv m, [], rfl, rfl, ?_⟩
    refine ⟨_, rfl, _, rfl, _, rfl, p, xs, _, m, rfl, rfl, hp2, ixN_n hml, ?_⟩
    exact ⟨Ex.mut (e.trans (Ex.new ht)) np, ⟨_, upd_same, by rw [List.length_set]; exact hlx⟩, _, _, rfl⟩
  · obtain ⟨e, ⟨xs, hxs, hlx⟩, u, v, rfl⟩ := pv
    exact ⟨_, rfl, p, xs, rfl, .inl ⟨Evl.sq_of hxs, fun r hr' => q _ _ (e.trans (Ex.new hr'))⟩⟩
abbrev s_transposed : Stmt := topS 19
theorem sc_transposed : FnScope ["rows", "at", "row"] ["rows"] (defScope s_transposed) := ⟨rfl, rfl, rfl, by decide +kernel, rfl, by decide +kernel, by decide +kernel⟩
def colM (rs : List (List Nat)) (c : Nat) : List Nat := rs.map fun r => r.getD c 0
def transM (n : Nat) (rs : List (List Nat)) : List (List Nat) := (List.range n).map (colM rs)
def sp_transposed (K : PySem.W.Frag) : Sp := fun vs H Q _ => ∃ (v : V) (rs : List (List Nat)), vs = [v] ∧ Nuu H rs v ∧ rs.length ≤ 1000 ∧ (∀ r ∈ rs, r.length = rs.length) ∧ ∀ v H', Ex H H' → Nuu H' (transM rs.length rs) v → Q v H'
theorem A2_mem {α : Type} {R : α → V → Prop} {l : List α} {vs : List V} (h : A2 R l vs) {v : V} (hv : v ∈ vs) : ∃ a ∈ l, R a v := by
  obtain ⟨i, hi⟩ := List.getElem?_of_mem hv
  obtain ⟨a, ha, r⟩ := h.get hi
  exact ⟨a, List.mem_of_getElem? ha, r⟩
/-- of places to items -/
theorem A2_range {α : Type} {R : α → V → Prop} {l : List α} {ys : List V} (h : A2 (fun i y => ∀ a, l[i]? = some a → R a y) (List.range l.length) ys) : A2 R l ys := by
  have hl := h.len
  rw [List.length_range] at hl
  refine A2.by_ix hl fun i a v ha hv => ?_
  obtain ⟨j, hj, r⟩ := h.get hv
  have hlt := (List.getElem?_eq_some_iff.mp ha).1
  rw [List.getElem?_range hlt] at hj
  cases hj
  exact r a ha
theorem getD_of {l : List Nat} {c : Nat} (h : c < l.length) : l[c]? = some (l.getD c 0) := by
  rw [List.getD_eq_getElem?_getD, List.getElem?_eq_getElem h]
  rfl
theorem ok_transposed (T : Txt K mg) (D : Df K mg "transposed" s_transposed) : Ca P w K mg base 1 "transposed" ["rows"] (sp_transposed K) := by
  refine ca_mk D sc_transposed (fun vs H Q E h => ?_) (fun _ _ _ _ _ _ us hl => match us, hl with | [_], _ => rfl) (fun f cdv A outer s H vs Q E hr h => ?_)
  · obtain ⟨v, d, rfl, _⟩ := h
    rfl
  obtain ⟨v, rs, rfl, hv, h1, h2, q⟩ := h
  have nd := sc_transposed.nd
  refine ⟨_, (pss_one (ps_ret (pe_callTy (call_tuple_ofK K) (by rfl) T.m_tuple (by decide +kernel) (pa_cons (pe_lc (own := [("at", 1)]) rfl nd (pi_range1 (by rfl) T.m_range (pa_cons (pe_callB (call_len_seqK K) (by rfl) T.m_len (by decide +kernel) (pa_cons (pv 0) pa_nil)) pa_nil)) (blkOk_by (N := ["rows", "at", "row"]) (sc := defScope s_transposed) (by decide +kernel)) (fun _ _ _ _ _ => (pg_name (i := 1) nd rfl (by first | exact Or.inl rfl | exact Or.inr rfl))) (fun _ _ _ _ _ => pts_nil) (fun _ _ _ _ _ => (pe_callTy (call_tuple_ofK K) (by rfl) T.m_tuple (by decide +kernel) (pa_cons (pe_lc (own := [("row", 2)]) rfl nd (pi_tupK K (pv 0)) (blkOk_by (by kernel_rfl)) (fun _ _ _ _ _ => (pg_name (i := 2) nd rfl (by first | exact Or.inl rfl | exact Or.inr rfl))) (fun _ _ _ _ _ => pts_nil) (fun _ _ _ _ _ => (pe_ix (ix_tupK K) (pv 2) (pv 1) (fun _ _ => rfl)))) pa_nil)))) pa_nil)))), ?_⟩
  obtain ⟨a, us, rfl, ha, hus⟩ := id hv
  have hl := hus.len
  refine ⟨_, rfl, a, us, rfl, .inr (Evl.st_of ha), _, rfl, by omega, by omega, fun Dl hD => ?_⟩
  refine lc_kp (walk_rn (n := rs.length) (by omega)) hD (fun i y H' => Nu H' (colM rs i) y) (by omega) (fun _ _ => trivial) (fun i y _ _ e z => z.mono e) (fun i x H1 H2 Kt hi e1 hx k => ?_) (fun ys H1 e1 hy a2 => ?_)
  · obtain ⟨rfl, rfl⟩ := hx
    have ha1 := e1 _ _ ha
    refine ⟨rfl, _, rfl, a, rfl, ⟨_, Evl.st_of ha1⟩, fun D2 hD2 => ?_⟩
    have hin : i < rs.length := by omega
    refine lc_kp walk_tup hD2 (fun j y H' => ∀ r, rs[j]? = some r → y = iv (r.getD i 0)) (by omega) (fun H3 e => Evl.ex_t e (Evl.st_of ha1)) (fun j y _ _ e z => z) (fun j x H3 H4 Kt hj e3 hx k2 => ?_) (fun ys H3 e3 hy a2 => ?_)
    · obtain ⟨rfl, hx⟩ := hx
      obtain ⟨r, hr2, ⟨b, rfl, hb⟩⟩ := hus.get hx
      have hlr := h2 r (List.mem_of_getElem? hr2)
      refine ⟨rfl, _, rfl, _, rfl, ixT_n (e3 _ _ (e1 _ _ hb)) (getD_of (by omega)) (k2 _ _ (Ex.refl _) fun r' hr' => ?_)⟩
      rw [hr2] at hr'
      cases hr'
      rfl
    · refine ⟨D2, ys, rfl, .inl ⟨Evl.sq_of hy, fun p hp => k _ _ (e3.trans (Ex.new hp)) ⟨p, rfl, ?_⟩⟩⟩
      rw [upd_same]
      have hl2 : us.length = rs.length := hl.symm
      rw [hl2] at a2
      have := A2.eqs (A2_range a2)
      rw [this, colM, List.map_map]
      rfl
  · refine ⟨Dl, ys, rfl, .inl ⟨Evl.sq_of hy, fun p hp => q _ _ (e1.trans (Ex.new hp)) ⟨p, ys, rfl, upd_same, ?_⟩⟩⟩
    exact A2Nu.mono (kpE (Ex.new hp)) (A2.map a2)
abbrev s_columns_of : Stmt := topS 20
theorem sc_columns_of : FnScope ["rows", "row"] ["rows"] (defScope s_columns_of) := ⟨rfl, rfl, rfl, by decide +kernel, rfl, by decide +kernel, by decide +kernel⟩
def sp_columns_of (K : PySem.W.Frag) : Sp := fun vs H Q _ => ∃ (v : V) (rs : List (List Nat)), vs = [v] ∧ Nuu H rs v ∧ rs.length ≤ 1000 ∧ (∀ r ∈ rs, r.length ≤ 1000 ∧ ∀ x ∈ r, x < r.length) ∧ ∀ v H', Ex H H' → Q v H'
theorem ok_columns_of (T : Txt K mg) (D : Df K mg "columns_of" s_columns_of) (cturned_back : Ca P w K mg base 1 "turned_back" ["one"] (sp_turned_back K)) : Ca P w K mg base 2 "columns_of" ["rows"] (sp_columns_of K) := by
  refine ca_mk D sc_columns_of (fun vs H Q E h => ?_) (fun _ _ _ _ _ _ us hl => match us, hl with | [_], _ => rfl) (fun f cdv A outer s H vs Q E hr h => ?_)
  · obtain ⟨v, d, rfl, _⟩ := h
    rfl
  obtain ⟨v, rs, rfl, hv, h1, h2, q⟩ := h
  have nd := sc_columns_of.nd
  refine ⟨_, (pss_one (ps_ret (pe_callTy (call_tuple_ofK K) (by rfl) T.m_tuple (by decide +kernel) (pa_cons (pe_lc (own := [("row", 1)]) rfl nd (pi_tupK K (pv 0)) (blkOk_by (N := ["rows", "row"]) (sc := defScope s_columns_of) (by decide +kernel)) (fun _ _ _ _ _ => (pg_name (i := 1) nd rfl (by first | exact Or.inl rfl | exact Or.inr rfl))) (fun _ _ _ _ _ => pts_nil) (fun _ _ _ _ _ => (pe_ca cturned_back hr (pa_cons (pv 1) pa_nil)))) pa_nil)))), ?_⟩
  obtain ⟨a, us, rfl, ha, hus⟩ := id hv
  have hl := hus.len
  refine ⟨_, rfl, a, rfl, ⟨_, Evl.st_of ha⟩, fun Dl hD => ?_⟩
  refine lc_kp walk_tup hD (fun i y H' => True) (by omega) (fun H3 e => Evl.ex_t e (Evl.st_of ha)) (fun i y _ _ e z => z) (fun i x H1 H2 Kt hi e1 hx k => ?_) (fun ys H1 e1 hy a2 => ?_)
  · obtain ⟨rfl, hx⟩ := hx
    obtain ⟨r, hr2, hb⟩ := hus.get hx
    have hlr := h2 r (List.mem_of_getElem? hr2)
    exact ⟨rfl, _, rfl, x, r, rfl, hb.mono (kpE e1), hlr.1, hlr.2, fun v H3 e3 => k _ _ e3 trivial⟩
  · exact ⟨Dl, ys, rfl, .inl ⟨Evl.sq_of hy, fun p hp => q _ _ (e1.trans (Ex.new hp))⟩⟩
abbrev s_rows_of_signs : Stmt := topS 21
theorem sc_rows_of_signs : FnScope ["rows", "column"] ["rows"] (defScope s_rows_of_signs) := ⟨rfl, rfl, rfl, by decide +kernel, rfl, by decide +kernel, by decide +kernel⟩
def sp_rows_of_signs (K : PySem.W.Frag) : Sp := fun vs H Q _ => ∃ (v : V) (rs : List (List Nat)), vs = [v] ∧ Nuu H rs v ∧ rs.length ≤ 1000 ∧ (∀ r ∈ rs, r.length = rs.length ∧ ∀ x ∈ r, x < rs.length) ∧ ∀ v H', Ex H H' → Q v H'
theorem transM_mem {rs : List (List Nat)} {n : Nat} (h : ∀ r ∈ rs, r.length = rs.length ∧ ∀ x ∈ r, x < rs.length) (hn : n = rs.length) : ∀ t ∈ transM n rs, t.length = rs.length ∧ ∀ x ∈ t, x < rs.length := by
  intro t ht
  obtain ⟨c, hc, rfl⟩ := List.mem_map.mp ht
  refine ⟨List.length_map _, fun x hx => ?_⟩
  obtain ⟨r, hr, rfl⟩ := List.mem_map.mp hx
  have h1 := h r hr
  have hc' : c < r.length := by rw [h1.1, ← hn]; exact List.mem_range.mp hc
  exact h1.2 _ (List.mem_of_getElem? (getD_of hc'))
theorem ok_rows_of_signs (T : Txt K mg) (D : Df K mg "rows_of_signs" s_rows_of_signs) (cturned_back : Ca P w K mg base 1 "turned_back" ["one"] (sp_turned_back K)) (ctransposed : Ca P w K mg base 1 "transposed" ["rows"] (sp_transposed K)) : Ca P w K mg base 2 "rows_of_signs" ["rows"] (sp_rows_of_signs K) := by
  refine ca_mk D sc_rows_of_signs (fun vs H Q E h => ?_) (fun _ _ _ _ _ _ us hl => match us, hl with | [_], _ => rfl) (fun f cdv A outer s H vs Q E hr h => ?_)
  · obtain ⟨v, d, rfl, _⟩ := h
    rfl
  obtain ⟨v, rs, rfl, hv, h1, h2, q⟩ := h
  have nd := sc_rows_of_signs.nd
  refine ⟨_, (pss_one (ps_ret (pe_callTy (call_tuple_ofK K) (by rfl) T.m_tuple (by decide +kernel) (pa_cons (pe_lc (own := [("column", 1)]) rfl nd (pi_tupK K (pe_ca ctransposed hr (pa_cons (pv 0) pa_nil))) (blkOk_by (N := ["rows", "column"]) (sc := defScope s_rows_of_signs) (by decide +kernel)) (fun _ _ _ _ _ => (pg_name (i := 1) nd rfl (by first | exact Or.inl rfl | exact Or.inr rfl))) (fun _ _ _ _ _ => pts_nil) (fun _ _ _ _ _ => (pe_ca cturned_back hr (pa_cons (pv 1) pa_nil)))) pa_nil)))), ?_⟩
  refine ⟨_, rfl, v, rs, rfl, hv, h1, fun r hr => (h2 r hr).1, fun v2 H0 e0 hv2 => ?_⟩
  obtain ⟨a, us, rfl, ha, hus⟩ := id hv2
  have hl := hus.len
  have hlt : (transM rs.length rs).length = rs.length := by simp [transM]
  refine ⟨a, rfl, ⟨_, Evl.st_of ha⟩, fun Dl hD => ?_⟩
  refine lc_kp walk_tup hD (fun i y H' => True) (by omega) (fun H3 e => Evl.ex_t e (Evl.st_of ha)) (fun i y _ _ e z => z) (fun i x H1 H2 Kt hi e1 hx k => ?_) (fun ys H1 e1 hy a2 => ?_)
  · obtain ⟨rfl, hx⟩ := hx
    obtain ⟨r, hr2, hb⟩ := hus.get hx
    have hlr := transM_mem h2 rfl r (List.mem_of_getElem? hr2)
    exact ⟨rfl, _, rfl, x, r, rfl, hb.mono (kpE e1), by omega, fun x hx => by rw [hlr.1]; exact hlr.2 x hx, fun v H3 e3 => k _ _ e3 trivial⟩
  · exact ⟨Dl, ys, rfl, .inl ⟨Evl.sq_of hy, fun p hp => q _ _ (e0.trans (e1.trans (Ex.new hp)))⟩⟩
end
end K65
namespace K65
open PySem PySem.Spec PyProof.Rows L2
open Evl (Ex)
/-! ### sets of ints by a comprehension -/
theorem sc_ints {w : World} {J : It} {n : Nat} {G : Hp → Prop} {Y : Nat → Hp → V → Hp → Prop} (wk : Walk J n G Y) {g : TG} {te : TE} {vs : List Nat} {σ : L2.St} {H1 : Hp} {D : Addr} {Qd : Hp → Prop} (hD : H1 D = none) (l : List Int) (hl : l.length = n)
    (hn : n ≤ 1000) (hG : ∀ H, Ex H1 H → G H)
    (hs : ∀ i x H H' (Kt : V → Hp → Prop), i < n → Ex H1 H → Y i H x H' → (∀ c H4, l[i]? = some c → Ex H H4 → Kt (.int c) H4) → g x (wipe σ vs) H' fun σ2 H2 => wipe σ2 vs = wipe σ vs ∧ te σ2 H2 Kt)
    (hd : ∀ t H, Ex H1 H → H D = some (soI w D t) → (t.2 = n ↔ l.Nodup) → t.2 ≤ n → Qd H) :
    ∃ W : Nat → Nat → Hp → Prop, (∃ m, W 0 m (upd H1 D (soI w D t0I))) ∧ ∀ i m H, W i m H →
      (J.stop i H ∧ Qd H) ∨ (J.go i H ∧ ∃ Nx : Hp → Prop, (∀ H', Nx H' → ∃ m', m' < m ∧ W (i + 1) m' H') ∧ ∀ x H', J.yld i H x H' → g x (wipe σ vs) H' fun σ2 H2 => wipe σ2 vs = wipe σ vs ∧ tYes σ2 H2 fun b H3 =>
        if b = true then te σ2 H3 fun y H4 => ∃ t, H4 D = some (soI w D t) ∧ preI y t H4 ∧ ∀ t', postI y t t' H4 → Nx (upd H4 D (soI w D t')) else Nx H3) := by
  refine ⟨fun i m H => m = n - i ∧ i ≤ n ∧ Ex H1 H ∧ ∃ t : (Int → Bool) × Nat, H D = some (soI w D t) ∧ (∀ j, t.1 j = true ↔ j ∈ l.take i) ∧ t.2 ≤ i ∧ (t.2 = i ↔ (l.take i).Nodup), ⟨n, by simp, Nat.zero_le _, Ex.new hD, t0I, upd_same, by simp [t0I], Nat.le_refl _, by simp [t0I]⟩, ?_⟩
  rintro i m H ⟨rfl, hi, e, t, ht, h1, h2, h3⟩
  have q := hG H e
  by_cases hlt : i < n
  · refine .inr ⟨wk.goes i H hlt q, fun H' => i + 1 ≤ n ∧ Ex H1 H' ∧ ∃ t : (Int → Bool) × Nat, H' D = some (soI w D t) ∧ (∀ j, t.1 j = true ↔ j ∈ l.take (i + 1)) ∧ t.2 ≤ i + 1 ∧ (t.2 = i + 1 ↔ (l.take (i + 1)).Nodup), fun H' p => ⟨n - (i + 1), by omega, rfl, p⟩, fun x H' y => ?_⟩
    refine hs i x H H' _ hlt e (wk.yields i H x H' hlt q y) fun c H4 hc e4 => ?_
    refine ⟨t, e4 _ _ ht, ⟨c, rfl, by unfold scanBound; omega⟩, ?_⟩
    rintro t' ⟨c', hc', rfl⟩
    cases hc'
    have htk : l.take (i + 1) = l.take i ++ [c] := by rw [List.take_succ, hc]; rfl
    refine ⟨hlt, Ex.mut (e.trans e4) hD, _, upd_same, fun j => ?_, ?_, ?_⟩
    · rw [htk, List.mem_append, ← h1 j]
      simp
    · show (if t.1 c = true then t.2 else t.2 + 1) ≤ i + 1
      split <;> omega
    · show ((if t.1 c = true then t.2 else t.2 + 1) = i + 1 ↔ _)
      rw [htk, List.nodup_append]
      by_cases hb : t.1 c = true
      · rw [if_pos hb]
        constructor
        · intro z; omega
        · rintro ⟨_, _, z⟩
          exact absurd rfl (z c ((h1 c).mp hb) c (by simp))
      · rw [if_neg hb]
        constructor
        · intro z
          refine ⟨h3.mp (by omega), by simp, fun a ha b hb2 hab => ?_⟩
          have : b = c := by simpa using hb2
          subst this
          subst hab
          exact hb ((h1 _).mpr ha)
        · rintro ⟨z, _, _⟩
          have := h3.mpr z
          omega
  · have e1 : i = n := by omega
    subst e1
    refine .inl ⟨wk.stops H q, hd t H e ht ?_ h2⟩
    rw [h3, ← hl, List.take_length]
theorem all_true {α : Type} : ∀ {l : List α} {ys : List V}, A2 (fun _ y => y = V.bl true) l ys → ∃ bs : List Bool, ys = bs.map V.bl ∧ bs.all id = true
  | [], [], _ => ⟨[], rfl, rfl⟩
  | _ :: _, _ :: _, h => by
    obtain ⟨bs, e, h2⟩ := all_true h.2
    exact ⟨true :: bs, by rw [h.1, e]; rfl, by simpa using h2⟩
  | [], _ :: _, h => h.elim
  | _ :: _, [], h => h.elim
section
variable {P : Program} {w : World} {K : PySem.W.Frag} {mg : Str → Option Value} {base : Heap}
theorem dr_nu {H : Hp} {v : V} {ns : List Nat} (h : Dr K H v (dn ns)) : Nu H ns v := by
  unfold dn at h
  cases h with
  | @tup a xs ds ha hds =>
    refine ⟨a, rfl, ?_⟩
    have := A2.eqs (f := iv) (A2.mono (R := fun (m : Nat) v => Dr K H v (Dt.i (m : Int))) (fun m v _ r => by cases r; rfl) (A2.unmap (R := fun d v => Dr K H v d) (DrAll.a2 _ _ hds)))
    rw [← this]
    exact ha
abbrev s_are_rows : Stmt := topS 18
theorem sc_are_rows : FnScope ["value", "row", "column"] ["value"] (defScope s_are_rows) := ⟨rfl, rfl, rfl, by decide +kernel, rfl, by decide +kernel, by decide +kernel⟩
def sp_are_rows (K : PySem.W.Frag) : Sp := fun vs H Q _ => ∃ (v : V) (n : Nat) (rs : List (List Nat)), vs = [v] ∧ Nuu H rs v ∧ 1 ≤ n ∧ n ≤ 24 ∧ Latin n rs ∧ ∀ H', Ex H H' → Q (.bl true) H'
theorem ok_are_rows (T : Txt K mg) (D : Df K mg "are_rows" s_are_rows) (cis_renaming_of : Ca P w K mg base 3 "is_renaming_of" ["order", "value"] (sp_is_renaming_of K)) (cis_renaming : Ca P w K mg base 4 "is_renaming" ["value"] (sp_is_renaming K))
    (ctransposed : Ca P w K mg base 1 "transposed" ["rows"] (sp_transposed K)) : Ca P w K mg base 5 "are_rows" ["value"] (sp_are_rows K) := by
  refine ca_mk D sc_are_rows (fun vs H Q E h => ?_) (fun _ _ _ _ _ _ us hl => match us, hl with | [_], _ => rfl) (fun f cdv A outer s H vs Q E hr h => ?_)
  · obtain ⟨v, n, d, rfl, _⟩ := h
    rfl
  obtain ⟨v, n, rs, rfl, hv, h1, h2, ⟨L1, L2, L3⟩, q⟩ := h
  have nd := sc_are_rows.nd
  refine ⟨_, (pss_cons (ps_if (PW.pt (pw_or (pt_not (pt_val (pe_callB (call_isiK K) (by rfl) T.m_isinstance (by decide +kernel) (pa_cons (pv 0) (pa_cons (pe_bltn (v := .ty "tuple") (by rfl) T.m_tuple (by decide +kernel) rfl) pa_nil))))) (pw_or1 (pt_not (pt_chain op_le op_le pe_int (pe_callB (call_len_seqK K) (by rfl) T.m_len (by decide +kernel) (pa_cons (pv 0) pa_nil)) (C8.pe_gc rfl T.cMAX_ORDER)))))) (pss_one (ps_ret pe_bl)) pss_nil)
    (pss_cons (ps_if (pt_not (pt_val (pe_callB (cr_allK K) (by rfl) T.m_all (by decide +kernel) (pa_cons (pe_lc (own := [("row", 1)]) rfl nd (pi_tupK K (pv 0)) (blkOk_by (N := ["value", "row", "column"]) (sc := defScope s_are_rows) (by decide +kernel)) (fun _ _ _ _ _ => (pg_name (i := 1) nd rfl (by first | exact Or.inl rfl | exact Or.inr rfl))) (fun _ _ _ _ _ => pts_nil) (fun _ _ _ _ _ => (pe_ca cis_renaming_of hr (pa_cons (pe_callB (call_len_seqK K) (by rfl) T.m_len (by decide +kernel) (pa_cons (pv 0) pa_nil)) (pa_cons (pv 1) pa_nil))))) pa_nil)))) (pss_one (ps_ret pe_bl)) pss_nil)
    (pss_one (ps_ret (pe_callB (cr_allK K) (by rfl) T.m_all (by decide +kernel) (pa_cons (pe_lc (own := [("column", 2)]) rfl nd (pi_tupK K (pe_ca ctransposed hr (pa_cons (pv 0) pa_nil))) (blkOk_by (N := ["value", "row", "column"]) (sc := defScope s_are_rows) (by decide +kernel)) (fun _ _ _ _ _ => (pg_name (i := 2) nd rfl (by first | exact Or.inl rfl | exact Or.inr rfl))) (fun _ _ _ _ _ => pts_nil) (fun _ _ _ _ _ => (pe_ca cis_renaming hr (pa_cons (pv 2) pa_nil)))) pa_nil)))))), ?_⟩
  obtain ⟨a, us, rfl, ha, hus⟩ := id hv
  have hl := hus.len
  refine ⟨_, rfl, _, _, _, _, true, rfl, .ty _, .base (.tup ha), kit_ty (by decide +kernel), true, rfl, ?_⟩
  refine iteF ⟨_, rfl, a, _, rfl, .inr (Evl.st_of ha), _, _, rfl, rfl, _, rfl, ?_⟩
  rw [decide_eq_true (by omega : (1 : Int) ≤ (us.length : Int))]
  refine iteT ⟨_, _, rfl, rfl, _, rfl, ?_⟩
  rw [decide_eq_true (by omega : (us.length : Int) ≤ 24)]
  refine iteF ?_
  refine ⟨_, rfl, a, rfl, ⟨_, Evl.st_of ha⟩, fun Dl hD => ?_⟩
  refine lc_kp walk_tup hD (fun i y H' => y = .bl true) (by omega) (fun H3 e => Evl.ex_t e (Evl.st_of ha)) (fun i y _ _ e z => z) (fun i x H1 H2 Kt hi e1 hx k => ?_) (fun ys H1 e1 hy a2 => ?_)
  · obtain ⟨rfl, hx⟩ := hx
    obtain ⟨r, hr2, hb⟩ := hus.get hx
    refine ⟨rfl, _, rfl, a, _, rfl, .inr (Evl.st_of (e1 _ _ ha)), _, rfl, x, dn r, n, by rw [← hl, L1]; rfl, (hb.mono (kpE e1)).dr, by omega, fun b H3 e3 hb => ?_⟩
    rw [hb.mpr ⟨r, rfl, L2 r (List.mem_of_getElem? hr2)⟩]
    exact k _ _ e3 rfl
  · obtain ⟨bs, rfl, hbs⟩ := all_true a2
    refine ⟨Dl, bs, rfl, Evl.sq_of hy, _, rfl, ?_⟩
    rw [hbs]
    refine iteF ?_
    refine ⟨_, rfl, .ref a, rs, rfl, hv.mono (kpE e1), by omega, fun r hr => by rw [(L2 r hr).1, L1], fun v2 H2 e2 hv2 => ?_⟩
    obtain ⟨a2, us2, rfl, ha2, hus2⟩ := id hv2
    have hl2 := hus2.len
    have hlt : (transM rs.length rs).length = n := by simp [transM, L1]
    refine ⟨a2, rfl, ⟨_, Evl.st_of ha2⟩, fun Dl hD => ?_⟩
    refine lc_kp walk_tup hD (fun i y H' => y = .bl true) (by omega) (fun H3 e => Evl.ex_t e (Evl.st_of ha2)) (fun i y _ _ e z => z) (fun i x H1 H2 Kt hi e1 hx k => ?_) (fun ys H3 e3 hy a2 => ?_)
    · obtain ⟨rfl, hx⟩ := hx
      obtain ⟨c, hr2, hb⟩ := hus2.get hx
      have hc : ∃ j, j < n ∧ c = colM rs j := by
        obtain ⟨j, hj, rfl⟩ := List.mem_map.mp (List.mem_of_getElem? hr2)
        exact ⟨j, by rw [← L1]; exact List.mem_range.mp hj, rfl⟩
      obtain ⟨j, hj, rfl⟩ := hc
      have hp : PermN n (colM rs j) := L3 j hj
      refine ⟨rfl, _, rfl, x, _, rfl, hb.mono (kpE e1), by rw [hp.1]; exact h1, by rw [hp.1]; exact h2, by rw [hp.1]; exact hp, fun H3 e3 => k _ _ e3 rfl⟩
    · obtain ⟨bs, rfl, hbs⟩ := all_true a2
      refine ⟨Dl, bs, rfl, Evl.sq_of hy, ?_⟩
      rw [hbs]
      exact q _ (e1.trans (e2.trans e3))
abbrev s_weights_of : Stmt := topS 30
theorem sc_weights_of : FnScope ["order", "found", "turn"] ["order"] (defScope s_weights_of) := ⟨rfl, rfl, rfl, by decide +kernel, rfl, by decide +kernel, by decide +kernel⟩
def wsM (n : Nat) : List Nat := (List.range (n + 1)).map (2 ^ ·)
theorem wsM_len (n : Nat) : (wsM n).length = n + 1 := by simp [wsM]
theorem wsM_at {n i : Nat} (h : i ≤ n) : (wsM n)[i]? = some (2 ^ i) := by
  unfold wsM
  rw [List.getElem?_map, List.getElem?_range (by omega)]
  rfl
theorem wsM_succ (n : Nat) : wsM (n + 1) = wsM n ++ [2 ^ (n + 1)] := by
  unfold wsM
  rw [List.range_succ, List.map_append]
  rfl
theorem at_last {α : Type} {xs : List α} {x : α} (h : xs[xs.length - 1]? = some x) : atI xs (-1) = some x := by
  have hl : xs.length - 1 < xs.length := (List.getElem?_eq_some_iff.mp h).1
  unfold atI ixN
  rw [if_neg (by omega), if_pos (by omega)]
  show xs[((-1 : Int) + xs.length).toNat]? = some x
  rw [show ((-1 : Int) + xs.length).toNat = xs.length - 1 by omega]
  exact h
def sp_weights_of (K : PySem.W.Frag) : Sp := fun vs H Q _ => ∃ (n : Nat), vs = [iv n] ∧ n ≤ 1000 ∧ ∀ p H', H p = none → Ex H H' → H' p = some (.lst ((wsM n).map iv)) → Q (.ref p) H'
theorem ok_weights_of (T : Txt K mg) (D : Df K mg "weights_of" s_weights_of) : Ca P w K mg base 1 "weights_of" ["order"] (sp_weights_of K) := by
  refine ca_mk D sc_weights_of (fun vs H Q E h => ?_) (fun _ _ _ _ _ _ us hl => match us, hl with | [_], _ => rfl) (fun f cdv A outer s H vs Q E hr h => ?_)
  · obtain ⟨v, rfl, _⟩ := h
    rfl
  obtain ⟨n, rfl, hn, q⟩ := h
  have nd := sc_weights_of.nd
  refine ⟨_, (pss_cons (ps_set (i := 1) nd rfl (Or.inl rfl) (pe_lst (pa_cons pe_int pa_nil)))
    (pss_cons (ps_for PassesOwn.never rfl (pi_range1 (by rfl) T.m_range (pa_cons (pv 0) pa_nil)) (pg_name (i := 2) nd rfl (Or.inl rfl))
      (pss_one (ps_expr (pe_bm PySem.F.plainAttrs_list PySem.F.slot_list_append PySem.F.type_list_append mt_append (pv 1) (pa_cons (pe_op op_mul pe_int (pe_ix (ix_listK K) (pv 1) (pe_un un_neg pe_int) (fun _ _ => rfl))) pa_nil)))))
    (pss_one (ps_ret (pv 1))))), ?_⟩
  refine ⟨(by show 1 ≤ sizeLine; decide), fun p hp => ?_⟩
  refine ⟨_, rfl, _, rfl, by omega, by omega, for_it (walk_rn (n := n) (by omega)) (fun i σ H' => Ex H H' ∧ H' p = some (.lst ((wsM i).map iv)) ∧ ∃ u, σ = [some (iv n), some (.ref p), u]) ⟨Ex.new hp, upd_same, none, rfl⟩ (fun _ _ _ _ _ => trivial) (fun i x σ H1 H2 hi pv y => ?_) (fun σ H1 pv => ?_)⟩
  · obtain ⟨e, hq, u, rfl⟩ := pv
    obtain ⟨rfl, rfl⟩ := y
    have hlen : ((wsM i).map iv).length = i + 1 := by rw [List.length_map, wsM_len]
    have hlast : ((wsM i).map iv)[((wsM i).map iv).length - 1]? = some (iv (2 ^ i)) := by
      rw [hlen, Nat.add_sub_cancel]
      exact iv_at (wsM_at (Nat.le_refl _))
    refine ⟨_, rfl, .inl ⟨rfl, _, Evl.sq_of hq⟩, _, rfl, 1, rfl, p, _, -1, iv (2 ^ i), rfl, rfl, Evl.sq_of hq, at_last hlast, 2, _, rfl, rfl, .inl ⟨by decide, by decide⟩, ?_⟩
    refine ⟨p, _, _, rfl, rfl, hq, sz_lt (by rw [hlen]; omega), ?_⟩
    refine ⟨Ex.mut e hp, ?_, _, rfl⟩
    rw [upd_same, wsM_succ, List.map_append]
    have : (2 : Int) * ((2 ^ i : Nat) : Int) = ((2 ^ (i + 1) : Nat) : Int) := by
      rw [Nat.pow_succ]
      omega
    show some (HO.lst ((wsM i).map iv ++ [V.int (2 * ((2 ^ i : Nat) : Int))])) = _
    rw [this]
    rfl
  · obtain ⟨e, hq, u, rfl⟩ := pv
    exact ⟨_, rfl, q _ _ hp e hq⟩
abbrev s_is_cross : Stmt := topS 31
theorem sc_is_cross : FnScope ["rows", "value", "row", "column"] ["rows", "value"] (defScope s_is_cross) := ⟨rfl, rfl, rfl, by decide +kernel, rfl, by decide +kernel, by decide +kernel⟩
def crossD (n : Nat) (rs : List (List Nat)) (d : Dt) : Prop := ∃ t, d = dn t ∧ IsCross n rs t
def sp_is_cross (K : PySem.W.Frag) : Sp := fun vs H Q _ => ∃ (v u : V) (n : Nat) (rs : List (List Nat)) (d : Dt), vs = [v, u] ∧ Nuu H rs v ∧ Dr K H u d ∧ rs.length = n ∧ n ≤ 1000 ∧ (∀ r ∈ rs, r.length = n) ∧ ∀ b H', Ex H H' → (b = true ↔ crossD n rs d) → Q (.bl b) H'
theorem zs_nodup {l : List Nat} : (zs l).Nodup ↔ l.Nodup := by
  unfold zs
  unfold List.Nodup
  rw [List.pairwise_map]
  exact ⟨fun h => h.imp fun z => by omega, fun h => h.imp fun z => by omega⟩
theorem ok_is_cross (T : Txt K mg) (D : Df K mg "is_cross" s_is_cross) (cis_renaming_of : Ca P w K mg base 3 "is_renaming_of" ["order", "value"] (sp_is_renaming_of K)) : Ca P w K mg base 4 "is_cross" ["rows", "value"] (sp_is_cross K) := by
  refine ca_mk D sc_is_cross (fun vs H Q E h => ?_) (fun _ _ _ _ _ _ us hl => match us, hl with | [_, _], _ => rfl) (fun f cdv A outer s H vs Q E hr h => ?_)
  · obtain ⟨v, u, n, rs, d, rfl, _⟩ := h
    rfl
  obtain ⟨v, u, n, rs, d, rfl, hv, hu, h1, h2, h3, q⟩ := h
  have nd := sc_is_cross.nd
  refine ⟨_, (pss_cons (ps_if (pt_not (pt_val (pe_ca cis_renaming_of hr (pa_cons (pe_callB (call_len_seqK K) (by rfl) T.m_len (by decide +kernel) (pa_cons (pv 0) pa_nil)) (pa_cons (pv 1) pa_nil))))) (pss_one (ps_ret pe_bl)) pss_nil)
    (pss_one (ps_ret (pe_cmpR op_eq (pe_callB call_len_sI (by rfl) T.m_len (by decide +kernel) (pa_cons (pe_scG (repI _) (own := [("row", 2), ("column", 3)]) rfl nd (pi_zipAK K (by rfl) T.m_zip (pa_cons (pv 0) (pa_cons (pv 1) pa_nil))) (blkOk_by (N := ["rows", "value", "row", "column"]) (sc := defScope s_is_cross) (by decide +kernel)) (fun _ _ _ _ _ => (pg_tupK K (n := 2) (by rfl) (pgs_cons (pg_name (i := 2) nd rfl (by first | exact Or.inl rfl | exact Or.inr rfl)) (pgs_cons (pg_name (i := 3) nd rfl (by first | exact Or.inl rfl | exact Or.inr rfl)) pgs_nil)))) (fun _ _ _ _ _ => pts_nil) (fun _ _ _ _ _ => (pe_ix (ix_tupK K) (pv 2) (pv 3) (fun _ _ => rfl)))) pa_nil)) (pe_callB (call_len_seqK K) (by rfl) T.m_len (by decide +kernel) (pa_cons (pv 0) pa_nil)) (nomark _))))), ?_⟩
  obtain ⟨a, us, rfl, ha, hus⟩ := id hv
  have hl := hus.len
  refine ⟨_, rfl, a, _, rfl, .inr (Evl.st_of ha), _, rfl, u, d, n, by rw [← hl, h1]; rfl, hu, h2, fun b H1 e1 hb => ⟨b, rfl, ?_⟩⟩
  cases b with
  | false =>
    refine q _ _ e1 ⟨fun z => by simp at z, fun ⟨t, ht, hc⟩ => hb.mpr ⟨t, ht, hc.1⟩⟩
  | true =>
    refine iteF ?_
    obtain ⟨ns, rfl, hp⟩ := hb.mp rfl
    obtain ⟨b, rfl, hb⟩ := dr_nu hu
    have hl2 : (ns.map iv).length = n := by rw [List.length_map]; exact hp.1
    refine ⟨_, rfl, _, rfl, a, b, us, ns.map iv, rfl, .inr ⟨Evl.st_of (e1 _ _ ha), Evl.st_of (e1 _ _ hb), fun Dl hD => ?_⟩⟩
    have hsl : (sg rs ns).length = n := by
      unfold sg
      rw [List.length_zipWith, h1, hp.1, Nat.min_self]
    refine sc_ints (walk_zipT (n := n) (by rw [hl2, ← hl, h1, Nat.min_self])) hD (zs (sg rs ns)) (by rw [zs, List.length_map]; exact hsl) h2 (fun H3 e => ⟨Evl.st_of (e _ _ (e1 _ _ ha)), Evl.st_of (e _ _ (e1 _ _ hb))⟩) (fun i x H3 H4 Kt hi e3 hx k => ?_) (fun t H3 e3 ht h4 h5 => ?_)
    · obtain ⟨t, x1, x2, rfl, ht, rfl, hx1, hx2⟩ := hx
      obtain ⟨r, hr2, c, rfl, hc⟩ := hus.get hx1
      obtain ⟨m, hm, rfl⟩ := iv_ix hx2
      have hml : m < r.length := by rw [h3 r (List.mem_of_getElem? hr2)]; exact hp.2.2 m (List.mem_of_getElem? hm)
      refine ⟨t, _, rfl, Evl.st_of upd_same, rfl, _, _, rfl, _, _, rfl, rfl, rfl, _, rfl, _, rfl, ixT_n (Ex.new ht _ _ (e3 _ _ (e1 _ _ hc))) (getD_of hml) (k _ _ ?_ (Ex.new ht))⟩
      unfold zs sg
      rw [List.getElem?_map, List.getElem?_zipWith, hr2, hm]
      rfl
    · refine ⟨Dl, t, rfl, ht, by omega, _, rfl, a, _, rfl, .inr (Evl.st_of (e3 _ _ (e1 _ _ ha))), rfl, q _ _ (e1.trans e3) ?_⟩
      rw [decide_eq_true_eq, show (V.int (t.2 : Int) = V.int (us.length : Int)) ↔ t.2 = n from ⟨fun z => by have := V.int.inj z; omega, fun z => by rw [z, ← hl, h1]⟩, h4, zs_nodup]
      exact ⟨fun z => ⟨ns, rfl, hp, z⟩, fun ⟨t', h, hc⟩ => by rw [dn_inj h]; exact hc.2⟩
end
end K65
namespace K65
open PySem PySem.Spec PyProof.Rows L2
open Evl (Ex)
/-! ### longer, crosses -/
/-- a begun transversal: its columns, and two masks -/
def StR (H : Hp) (p : List Nat × List Nat) (v : V) : Prop := ∃ a t, v = .ref a ∧ H a = some (.tup [t, iv (mask p.1), iv (mask p.2)]) ∧ Nu H p.1 t
theorem StR.mono {H H' : Hp} {p : List Nat × List Nat} {v : V} (e : Kp H H') (h : StR H p v) : StR H' p v := by
  obtain ⟨a, t, rfl, h1, h2⟩ := h
  exact ⟨a, t, rfl, e a _ trivial h1, h2.mono e⟩
theorem bits_nat (a b : Nat) : Builtin.bitAnd (a : Int) (b : Int) = ((a &&& b : Nat) : Int) := by
  rw [bitAnd_pp (Int.natCast_nonneg a) (Int.natCast_nonneg b), Int.toNat_natCast, Int.toNat_natCast]
theorem ext1_len (r : List Nat) (p : List Nat × List Nat) (i : Nat) : (ext1 r p i).length ≤ i := by
  unfold ext1
  rw [List.length_map]
  have := List.length_filter_le (fun c => !(decide (c ∈ p.1)) && !(decide (r.getD c 0 ∈ p.2))) (List.range i)
  rwa [List.length_range] at this
theorem longerM_len (r : List Nat) : ∀ l : List (List Nat × List Nat), (longerM r l).length ≤ l.length * r.length
  | [] => by simp [longerM]
  | p :: l => by
    have h1 := longerM_len r l
    have h2 := ext1_len r p r.length
    unfold longerM at *
    rw [List.flatMap_cons, List.length_append, List.length_cons, Nat.succ_mul]
    omega
theorem longerM_take {r : List Nat} {l : List (List Nat × List Nat)} {i : Nat} {p : List Nat × List Nat} (h : l[i]? = some p) : longerM r (l.take (i + 1)) = longerM r (l.take i) ++ ext1 r p r.length := by
  rw [List.take_succ, h]
  unfold longerM
  rw [List.flatMap_append]
  congr 1
  show List.flatMap _ [p] = _
  simp
theorem int0 (m : Nat) : (decide (V.int (m : Int) = V.int 0)) = decide (m = 0) := decide_eq_decide.mpr ⟨fun z => by have := V.int.inj z; omega, fun z => by rw [z]; rfl⟩
theorem band_iff {l : List Nat} (h : l.Nodup) (c : Nat) : decide (V.int (Builtin.bitAnd ((mask l : Nat) : Int) ((2 ^ c : Nat) : Int)) = V.int 0) = true ↔ c ∉ l := by
  rw [bits_nat, int0, decide_eq_true_eq, mask_and h]
section
variable {P : Program} {w : World} {K : PySem.W.Frag} {mg : Str → Option Value} {base : Heap}
abbrev s_longer : Stmt := topS 32
theorem sc_longer : FnScope ["row", "begun", "weights", "found", "told", "columns", "signs", "column", "sign"] ["row", "begun", "weights"] (defScope s_longer) := ⟨rfl, rfl, rfl, by decide +kernel, rfl, by decide +kernel, by decide +kernel⟩
def sp_longer (K : PySem.W.Frag) : Sp := fun vs H Q _ => ∃ (v : V) (b wt : Addr) (r : List Nat) (l : List (List Nat × List Nat)) (us : List V) (n : Nat), vs = [v, .ref b, .ref wt] ∧ Nu H r v ∧ H b = some (.lst us) ∧ A2 (StR H) l us ∧ H wt = some (.lst ((wsM n).map iv)) ∧
  r.length = n ∧ (∀ x ∈ r, x < n) ∧ n ≤ 1000 ∧ l.length * n ≤ 1000000 ∧ Good l ∧ (∀ p ∈ l, p.1.length ≤ 1000) ∧ ∀ p H' us', H p = none → Ex H H' → H' p = some (.lst us') → A2 (StR H') (longerM r l) us' → Q (.ref p) H'
theorem ok_longer (T : Txt K mg) (D : Df K mg "longer" s_longer) : Ca P w K mg base 1 "longer" ["row", "begun", "weights"] (sp_longer K) := by
  refine ca_mk D sc_longer (fun vs H Q E h => ?_) (fun _ _ _ _ _ _ us hl => match us, hl with | [_, _, _], _ => rfl) (fun f cdv A outer s H vs Q E hr h => ?_)
  · obtain ⟨v, b, wt, r, l, us, n, rfl, _⟩ := h
    rfl
  obtain ⟨v, b, wt, r, l, us, n, rfl, hv, hb, hus, hw, h1, h2, h3, h4, hg, h5, q⟩ := h
  have nd := sc_longer.nd
  refine ⟨_, (pss_cons (ps_set (i := 3) nd rfl (Or.inl rfl) (pe_lst pa_nil))
    (pss_cons (ps_for PassesOwn.never rfl (pi_listK K (pv 1)) (pg_tupK K (n := 3) (by rfl) (pgs_cons (pg_name (i := 4) nd rfl (Or.inl rfl)) (pgs_cons (pg_name (i := 5) nd rfl (Or.inl rfl)) (pgs_cons (pg_name (i := 6) nd rfl (Or.inl rfl)) pgs_nil))))
      (pss_one (ps_for PassesOwn.never rfl (pi_enumTK K (by rfl) T.m_enumerate (pa_cons (pv 0) pa_nil)) (pg_tupK K (n := 2) (by rfl) (pgs_cons (pg_name (i := 7) nd rfl (Or.inl rfl)) (pgs_cons (pg_name (i := 8) nd rfl (Or.inl rfl)) pgs_nil)))
      (pss_one (ps_if (PW.pt (pw_and (pt_cmpR op_eq (pe_op op_and (pv 5) (pe_ix (ix_listK K) (pv 2) (pv 7) (fun _ _ => rfl))) pe_int (nomark _)) (pw_and1 (pt_cmpR op_eq (pe_op op_and (pv 6) (pe_ix (ix_listK K) (pv 2) (pv 8) (fun _ _ => rfl))) pe_int (nomark _))))) (pss_one (ps_expr (pe_bm PySem.F.plainAttrs_list PySem.F.slot_list_append PySem.F.type_list_append mt_append (pv 3) (pa_cons (pe_tup (pa_cons (pe_tup (pa_starK K (pv 4) (pa_cons (pv 7) pa_nil))) (pa_cons (pe_op op_add (pv 5) (pe_ix (ix_listK K) (pv 2) (pv 7) (fun _ _ => rfl))) (pa_cons (pe_op op_add (pv 6) (pe_ix (ix_listK K) (pv 2) (pv 8) (fun _ _ => rfl))) pa_nil)))) pa_nil)))) pss_nil)))))
    (pss_one (ps_ret (pv 3))))), ?_⟩
  obtain ⟨ra, rfl, hra⟩ := id hv
  have hl := hus.len
  have hlr : (r.map iv).length = n := by rw [List.length_map]; exact h1
  refine ⟨(by show 0 ≤ sizeLine; decide), fun p hp => ?_⟩
  refine ⟨_, rfl, b, rfl, ⟨_, Evl.sq_of (Ex.new hp _ _ hb)⟩, for_it walk_list (fun i σ H' => Ex H H' ∧ (∃ vs, H' p = some (.lst vs) ∧ A2 (StR H') (longerM r (l.take i)) vs) ∧ ∃ o1 o2 o3 o4 o5, σ = [some (.ref ra), some (.ref b), some (.ref wt), some (.ref p), o1, o2, o3, o4, o5])
    ⟨Ex.new hp, ⟨[], upd_same, trivial⟩, none, none, none, none, none, rfl⟩ (fun i σ H' _ pv => Evl.sq_of (pv.1 _ _ hb)) (fun i x σ H1 H2 hi pv y => ?_) (fun σ H1 pv => ?_)⟩
  · obtain ⟨e, ⟨vs, hvs, hA⟩, o1, o2, o3, o4, o5, rfl⟩ := pv
    obtain ⟨rfl, hx⟩ := y
    obtain ⟨pr, hpr, ta, t, rfl, hta, htn⟩ := hus.get hx
    obtain ⟨nd1, nd2⟩ := hg pr (List.mem_of_getElem? hpr)
    obtain ⟨tt, rfl, htt⟩ := id htn
    refine ⟨ta, _, rfl, Evl.st_of (e _ _ hta), rfl, _, _, rfl, _, _, rfl, _, _, rfl, rfl, ?_⟩
    refine ⟨_, rfl, ra, _, rfl, Evl.st_of (e _ _ hra), for_it walk_enumT (fun j σ H' => Ex H H' ∧ (∃ vs, H' p = some (.lst vs) ∧ A2 (StR H') (longerM r (l.take i) ++ ext1 r pr j) vs) ∧ ∃ o4 o5, σ = [some (.ref ra), some (.ref b), some (.ref wt), some (.ref p), some (.ref tt), some (iv (mask pr.1)), some (iv (mask pr.2)), o4, o5])
      ⟨e, ⟨vs, hvs, by simpa [ext1] using hA⟩, o4, o5, rfl⟩ (fun j σ H' _ pv => Evl.st_of (pv.1 _ _ hra)) (fun j x σ H3 H4 hj pv y => ?_) (fun σ H3 pv => ?_)⟩
    · obtain ⟨e3, ⟨ws, hws, hB⟩, o4, o5, rfl⟩ := pv
      obtain ⟨T1, x1, x2, rfl, hT1, rfl, hx1, hx2⟩ := y
      cases hx1
      obtain ⟨sgn, hs, rfl⟩ := iv_ix hx2
      have hsn : sgn < n := h2 _ (List.mem_of_getElem? hs)
      have hjn : j < n := by rw [← hlr]; exact hj
      have e4 : Ex H3 (upd H3 T1 (.tup [.int (j : Int), iv sgn])) := Ex.new hT1
      have hgd : r.getD j 0 = sgn := by rw [List.getD_eq_getElem?_getD, hs]; rfl
      have hwt := e4 _ _ (e3 _ _ hw)
      have hB4 := hB.mono (fun a v _ z => StR.mono (kpE e4) z)
      refine ⟨T1, _, rfl, Evl.st_of upd_same, rfl, _, _, rfl, _, _, rfl, rfl, ?_⟩
      have hnx : ¬ (j ∉ pr.1 ∧ r.getD j 0 ∉ pr.2) → ∃ vs, (upd H3 T1 (.tup [.int (j : Int), iv sgn])) p = some (.lst vs) ∧ A2 (StR (upd H3 T1 (.tup [.int (j : Int), iv sgn]))) (longerM r (l.take i) ++ ext1 r pr (j + 1)) vs := fun c => by
        refine ⟨ws, e4 _ _ hws, ?_⟩
        rw [ext1_succ, if_neg c, List.append_nil]
        exact hB4
      refine ⟨_, rfl, _, rfl, _, rfl, ixL_n hwt (wsM_at (by omega)) ⟨_, _, rfl, rfl, rfl, _, rfl, ?_⟩⟩
      refine ite2 (fun c1 => ?_) (fun c1 => ?_)
      · have c1' := (band_iff nd1 j).mp c1
        refine ⟨_, rfl, _, rfl, _, rfl, ixL_n hwt (wsM_at (by omega)) ⟨_, _, rfl, rfl, rfl, _, rfl, ?_⟩⟩
        refine ite2 (fun c2 => ?_) (fun c2 => ?_)
        · have c2' := (band_iff nd2 sgn).mp c2
          have hp4 := e4 _ _ hws
          have hl1 := h5 pr (List.mem_of_getElem? hpr)
          refine ⟨_, rfl, .inl ⟨rfl, _, Evl.sq_of hp4⟩, _, rfl, tt, pr.1.map iv, rfl, .inl (Evl.st_of (e4 _ _ (e3 _ _ htt))), _, rfl, ?_⟩
          refine ⟨sz_le (by rw [List.length_append, List.length_map]; show pr.1.length + 1 ≤ _; omega), fun q1 hq1 => ?_⟩
          have e5 := Ex.new (o := .tup (pr.1.map iv ++ [V.int (j : Int)])) hq1
          refine ⟨_, rfl, _, rfl, _, rfl, ixL_n (e5 _ _ hwt) (wsM_at (by omega)) ⟨_, _, rfl, rfl, _, rfl, _, rfl, _, rfl, ixL_n (e5 _ _ hwt) (wsM_at (by omega)) ⟨_, _, rfl, rfl, (by show 3 ≤ sizeLine; decide), fun q2 hq2 => ?_⟩⟩⟩
          have e6 := Ex.new (o := .tup [.ref q1, V.int ((mask pr.1 : Nat) + (2 ^ j : Nat) : Int), V.int ((mask pr.2 : Nat) + (2 ^ sgn : Nat) : Int)]) hq2
          have hp6 := e6 _ _ (e5 _ _ hp4)
          have hlw : ws.length ≤ 1000000 := by
            rw [← hB.len, List.length_append]
            have z1 := longerM_len r (l.take i)
            have z2 := ext1_len r pr j
            rw [h1, List.length_take] at z1
            have z3 : (min i l.length + 1) * n ≤ l.length * n := Nat.mul_le_mul_right n (by omega)
            rw [Nat.succ_mul] at z3
            omega
          refine ⟨p, ws, _, rfl, rfl, hp6, sz_lt (by omega), ?_⟩
          have e7 : Ex H3 (upd (upd (upd H3 T1 (.tup [.int (j : Int), iv sgn])) q1 (.tup (pr.1.map iv ++ [V.int (j : Int)]))) q2 (.tup [.ref q1, V.int ((mask pr.1 : Nat) + (2 ^ j : Nat) : Int), V.int ((mask pr.2 : Nat) + (2 ^ sgn : Nat) : Int)])) := e4.trans (e5.trans e6)
          have k8 : Kp H3 (upd (upd (upd (upd H3 T1 (.tup [.int (j : Int), iv sgn])) q1 (.tup (pr.1.map iv ++ [V.int (j : Int)]))) q2 (.tup [.ref q1, V.int ((mask pr.1 : Nat) + (2 ^ j : Nat) : Int), V.int ((mask pr.2 : Nat) + (2 ^ sgn : Nat) : Int)])) p (.lst (ws ++ [.ref q2]))) :=
            (kpE e7).trans (kpP (Px.upd hp6))
          refine ⟨Ex.mut (e3.trans e7) hp, ⟨_, upd_same, ?_⟩, _, _, rfl⟩
          rw [ext1_succ, if_pos ⟨c1', by rw [hgd]; exact c2'⟩, ← List.append_assoc]
          refine (hB.mono fun a v _ z => StR.mono k8 z).snoc ⟨q2, .ref q1, rfl, ?_, q1, rfl, ?_⟩
          · show _ = some (HO.tup [_, iv (mask (pr.1 ++ [j])), iv (mask (pr.2 ++ [r.getD j 0]))])
            rw [hgd, mask_append, mask_append]
            exact kpP (Px.upd hp6) q2 _ trivial upd_same
          · show _ = some (HO.tup ((pr.1 ++ [j]).map iv))
            rw [List.map_append]
            exact kpP (Px.upd hp6) q1 _ trivial (e6 _ _ upd_same)
        · refine ⟨e3.trans e4, hnx fun z => c2 ((band_iff nd2 sgn).mpr (by rw [← hgd]; exact z.2)), _, _, rfl⟩
      · refine ⟨e3.trans e4, hnx fun z => c1 ((band_iff nd1 j).mpr z.1), _, _, rfl⟩
    · obtain ⟨e3, ⟨ws, hws, hB⟩, o4, o5, rfl⟩ := pv
      rw [hlr] at hB
      refine ⟨e3, ⟨ws, hws, ?_⟩, _, _, _, _, _, rfl⟩
      rw [longerM_take hpr, h1]
      exact hB
  · obtain ⟨e, ⟨vs, hvs, hA⟩, o1, o2, o3, o4, o5, rfl⟩ := pv
    refine ⟨_, rfl, q _ _ vs hp e hvs ?_⟩
    rw [← hl, List.take_length] at hA
    exact hA
abbrev s_crosses : Stmt := topS 33
theorem sc_crosses : FnScope ["rows", "weights", "begun", "row", "told", "columns", "signs"] ["rows"] (defScope s_crosses) := ⟨rfl, rfl, rfl, by decide +kernel, rfl, by decide +kernel, by decide +kernel⟩
def sp_crosses (K : PySem.W.Frag) : Sp := fun vs H Q _ => ∃ (v : V) (rs : List (List Nat)) (n : Nat), vs = [v] ∧ Nuu H rs v ∧ rs.length = n ∧ n ≤ 7 ∧ (∀ r ∈ rs, r.length = n ∧ ∀ x ∈ r, x < n) ∧
  ∀ p H' us, H p = none → Ex H H' → H' p = some (.lst us) → A2 (Nu H') (crossM rs) us → Q (.ref p) H'
theorem crossP_len {n : Nat} : ∀ (rs : List (List Nat)) (f : List (List Nat × List Nat)), (∀ r ∈ rs, r.length = n) → (rs.foldl (fun f r => longerM r f) f).length ≤ f.length * n ^ rs.length
  | [], f, _ => by simp
  | r :: rs, f, h => by
    have h1 := crossP_len (n := n) rs (longerM r f) (fun r hr => h r (List.mem_cons_of_mem _ hr))
    have h2 := longerM_len r f
    rw [h r (List.mem_cons_self ..)] at h2
    rw [List.foldl_cons, List.length_cons, Nat.pow_succ]
    refine Nat.le_trans h1 ?_
    rw [Nat.mul_comm (n ^ rs.length) n, ← Nat.mul_assoc]
    exact Nat.mul_le_mul_right _ h2
theorem pow_le7 {n k : Nat} (h : n ≤ 7) (hk : k ≤ 7) : n ^ k ≤ 823543 := by
  refine Nat.le_trans (Nat.pow_le_pow_left h k) ?_
  exact Nat.le_trans (Nat.pow_le_pow_right (by decide) hk) (by decide)
theorem good_fold : ∀ (rs : List (List Nat)) (f : List (List Nat × List Nat)), Good f → Good (rs.foldl (fun f r => longerM r f) f)
  | [], _, h => h
  | _ :: rs, _, h => good_fold rs _ h.longer
theorem len_fold : ∀ (rs : List (List Nat)) (f : List (List Nat × List Nat)) (k : Nat), (∀ p ∈ f, p.1.length = k) → ∀ p ∈ rs.foldl (fun f r => longerM r f) f, p.1.length = k + rs.length
  | [], _, _, h => h
  | r :: rs, f, k, h => by
    intro p hp
    rw [List.foldl_cons] at hp
    have := len_fold rs (longerM r f) (k + 1) (fun q hq => by
      obtain ⟨p, hp, hq⟩ := List.mem_flatMap.mp hq
      obtain ⟨c, _, _, _, rfl⟩ := mem_ext1.mp hq
      show (p.1 ++ [c]).length = k + 1
      rw [List.length_append, h p hp]
      rfl) p hp
    rw [this, List.length_cons]
    omega
theorem crossP_take {rs : List (List Nat)} {i : Nat} {r : List Nat} (h : rs[i]? = some r) : crossP (rs.take (i + 1)) = longerM r (crossP (rs.take i)) := by
  unfold crossP
  rw [List.take_succ, h, List.foldl_append]
  rfl
theorem ok_crosses (T : Txt K mg) (D : Df K mg "crosses" s_crosses) (cweights_of : Ca P w K mg base 1 "weights_of" ["order"] (sp_weights_of K)) (clonger : Ca P w K mg base 1 "longer" ["row", "begun", "weights"] (sp_longer K)) :
    Ca P w K mg base 2 "crosses" ["rows"] (sp_crosses K) := by
  refine ca_mk D sc_crosses (fun vs H Q E h => ?_) (fun _ _ _ _ _ _ us hl => match us, hl with | [_], _ => rfl) (fun f cdv A outer s H vs Q E hr h => ?_)
  · obtain ⟨v, rs, n, rfl, _⟩ := h
    rfl
  obtain ⟨v, rs, n, rfl, hv, h1, h2, h3, q⟩ := h
  have nd := sc_crosses.nd
  refine ⟨_, (pss_cons (ps_par (i := 1) (j := 2) (by rfl) nd rfl rfl (by decide) rfl rfl (pa_cons (pe_ca cweights_of hr (pa_cons (pe_callB (call_len_seqK K) (by rfl) T.m_len (by decide +kernel) (pa_cons (pv 0) pa_nil)) pa_nil)) (pa_cons (pe_lst (pa_cons (pe_tup (pa_cons (pe_tup pa_nil) (pa_cons pe_int (pa_cons pe_int pa_nil)))) pa_nil)) pa_nil)) (by rfl))
    (pss_cons (ps_for PassesOwn.never rfl (pi_tupK K (pv 0)) (pg_name (i := 3) nd rfl (Or.inl rfl))
      (pss_one (ps_set (i := 2) nd rfl (Or.inl rfl) (pe_ca clonger hr (pa_cons (pv 3) (pa_cons (pv 2) (pa_cons (pv 1) pa_nil)))))))
    (pss_one (ps_ret (pe_lc (own := [("told", 4), ("columns", 5), ("signs", 6)]) rfl nd (pi_listK K (pv 2)) (blkOk_by (N := ["rows", "weights", "begun", "row", "told", "columns", "signs"]) (sc := defScope s_crosses) (by decide +kernel)) (fun _ _ _ _ _ => (pg_tupK K (n := 3) (by rfl) (pgs_cons (pg_name (i := 4) nd rfl (by first | exact Or.inl rfl | exact Or.inr rfl)) (pgs_cons (pg_name (i := 5) nd rfl (by first | exact Or.inl rfl | exact Or.inr rfl)) (pgs_cons (pg_name (i := 6) nd rfl (by first | exact Or.inl rfl | exact Or.inr rfl)) pgs_nil))))) (fun _ _ _ _ _ => pts_nil) (fun _ _ _ _ _ => (pv 4))))))), ?_⟩
  obtain ⟨a, us, rfl, ha, hus⟩ := id hv
  have hl := hus.len
  refine ⟨_, rfl, a, _, rfl, .inr (Evl.st_of ha), n, by rw [← hl, h1]; rfl, by omega, fun wt H1 hwt0 e1 hwt => ?_⟩
  refine ⟨(by show 0 ≤ sizeLine; decide), fun t0 ht0 => ⟨(by show 3 ≤ sizeLine; decide), fun t1 ht1 => ⟨(by show 1 ≤ sizeLine; decide), fun b0 hb0 => ⟨_, _, rfl, ?_⟩⟩⟩⟩
  have e2 := (e1.trans (Ex.new (o := .tup []) ht0)).trans ((Ex.new (o := .tup [.ref t0, .int 0, .int 0]) ht1).trans (Ex.new (o := .lst [.ref t1]) hb0))
  refine ⟨_, rfl, a, rfl, ⟨_, Evl.st_of (e2 _ _ ha)⟩, for_it walk_tup (fun i σ H' => Ex H H' ∧ H' wt = some (.lst ((wsM n).map iv)) ∧ ∃ b us' o1 o2 o3 o4, σ = [some (.ref a), some (.ref wt), some (.ref b), o1, o2, o3, o4] ∧ H' b = some (.lst us') ∧ A2 (StR H') (crossP (rs.take i)) us')
    ⟨e2, ?_, b0, _, none, none, none, none, rfl, upd_same, ⟨t1, .ref t0, rfl, ?_, t0, rfl, ?_⟩, trivial⟩ (fun i σ H' _ pv => Evl.st_of (pv.1 _ _ ha)) (fun i x σ H3 H4 hi pv y => ?_) (fun σ H3 pv => ?_)⟩
  · exact ((Ex.new ht0).trans ((Ex.new ht1).trans (Ex.new hb0))) _ _ hwt
  · exact (Ex.new hb0) _ _ upd_same
  · exact ((Ex.new ht1).trans (Ex.new hb0)) _ _ upd_same
  · obtain ⟨e, hw, b, us', o1, o2, o3, o4, rfl, hb, hA⟩ := pv
    obtain ⟨rfl, hx⟩ := y
    obtain ⟨r, hr2, hr3⟩ := hus.get hx
    have hr4 := h3 r (List.mem_of_getElem? hr2)
    have hrt : ∀ r' ∈ rs.take i, r'.length = n := fun r' hr' => (h3 r' (List.mem_of_mem_take hr')).1
    have hi' : i < rs.length := by omega
    have hlen : (crossP (rs.take i)).length ≤ 823543 / 7 := by
      have := crossP_len (n := n) (rs.take i) [([], [])] hrt
      rw [List.length_take, Nat.min_eq_left (by omega)] at this
      refine Nat.le_trans this ?_
      rw [List.length_singleton, Nat.one_mul]
      refine Nat.le_trans (Nat.pow_le_pow_left h2 i) ?_
      exact Nat.le_trans (Nat.pow_le_pow_right (by decide) (by omega : i ≤ 6)) (by decide)
    have hln : (crossP (rs.take i)).length * n ≤ 1000000 := Nat.le_trans (Nat.mul_le_mul hlen h2) (by decide)
    refine ⟨_, rfl, _, rfl, _, rfl, x, b, wt, r, crossP (rs.take i), us', n, rfl, hr3.mono (kpE e), hb, hA, hw, hr4.1, hr4.2, by omega, hln, good_fold _ _ good_nil, fun p hp => ?_, fun p5 H5 us5 hp5 e5 h5 hA5 => ?_⟩
    · have := len_fold (rs.take i) [([], [])] 0 (by simp) p hp
      rw [List.length_take] at this
      omega
    · refine ⟨e.trans e5, e5 _ _ hw, p5, us5, _, _, _, _, rfl, h5, ?_⟩
      rw [crossP_take hr2]
      exact hA5
  · obtain ⟨e, hw, b, us', o1, o2, o3, o4, rfl, hb, hA⟩ := pv
    rw [← hl, List.take_length] at hA
    have hlen := crossP_len (n := n) rs [([], [])] (fun r hr => (h3 r hr).1)
    rw [h1, List.length_singleton, Nat.one_mul] at hlen
    have h7 := pow_le7 h2 h2
    have hlA := hA.len
    have hlen' : (crossP rs).length ≤ n ^ n := hlen
    refine ⟨_, rfl, b, rfl, ⟨_, Evl.sq_of hb⟩, fun Dl hD => ?_⟩
    refine lc_kp walk_list hD (fun i y H' => ∀ p, (crossP rs)[i]? = some p → Nu H' p.1 y) (by omega) (fun H3 e => Evl.ex_l e (Evl.sq_of hb)) (fun i y _ _ e z p hp => (z p hp).mono e) (fun i x H4 H5 Kt hi e1 hx k => ?_) (fun ys H4 e4 hy a2 => ?_)
    · obtain ⟨rfl, hx⟩ := hx
      obtain ⟨p, hp, ta, t, rfl, hta, htn⟩ := hA.get hx
      refine ⟨ta, _, rfl, Evl.st_of (e1 _ _ hta), rfl, _, _, rfl, _, _, rfl, _, _, rfl, rfl, rfl, _, rfl, k _ _ (Ex.refl _) fun p' hp' => ?_⟩
      rw [hp] at hp'
      cases hp'
      exact htn.mono (kpE e1)
    · refine q _ _ ys (Evl.fresh_back e hD) (e.trans e4) hy ?_
      rw [← hlA] at a2
      exact A2.map (A2_range a2)
abbrev s_do_meet : Stmt := topS 39
theorem sc_do_meet : FnScope ["one", "other", "left", "right"] ["one", "other"] (defScope s_do_meet) := ⟨rfl, rfl, rfl, by decide +kernel, rfl, by decide +kernel, by decide +kernel⟩
def sp_do_meet (K : PySem.W.Frag) : Sp := fun vs H Q _ => ∃ (v v2 : V) (t u : List Nat), vs = [v, v2] ∧ Nu H t v ∧ Nu H u v2 ∧ t.length ≤ 1000 ∧ ∀ H', Ex H H' → Q (.bl (meets t u)) H'
theorem ok_do_meet (T : Txt K mg) (D : Df K mg "do_meet" s_do_meet) : Ca P w K mg base 1 "do_meet" ["one", "other"] (sp_do_meet K) := by
  refine ca_mk D sc_do_meet (fun vs H Q E h => ?_) (fun _ _ _ _ _ _ us hl => match us, hl with | [_, _], _ => rfl) (fun f cdv A outer s H vs Q E hr h => ?_)
  · obtain ⟨v, v2, t, u, rfl, _⟩ := h
    rfl
  obtain ⟨v, v2, t, u, rfl, hv, hu, h1, q⟩ := h
  have nd := sc_do_meet.nd
  refine ⟨_, (pss_one (ps_ret (pe_callB (cr_anyK K) (by rfl) T.m_any (by decide +kernel) (pa_cons (pe_lc (own := [("left", 2), ("right", 3)]) rfl nd (pi_zipAK K (by rfl) T.m_zip (pa_cons (pv 0) (pa_cons (pv 1) pa_nil))) (blkOk_by (N := ["one", "other", "left", "right"]) (sc := defScope s_do_meet) (by decide +kernel)) (fun _ _ _ _ _ => (pg_tupK K (n := 2) (by rfl) (pgs_cons (pg_name (i := 2) nd rfl (by first | exact Or.inl rfl | exact Or.inr rfl)) (pgs_cons (pg_name (i := 3) nd rfl (by first | exact Or.inl rfl | exact Or.inr rfl)) pgs_nil)))) (fun _ _ _ _ _ => pts_nil) (fun _ _ _ _ _ => (pe_cmpR op_eq (pv 2) (pv 3) (nomark _)))) pa_nil)))), ?_⟩
  obtain ⟨a, rfl, ha⟩ := id hv
  obtain ⟨b, rfl, hb⟩ := id hu
  refine ⟨_, rfl, _, rfl, a, b, _, _, rfl, .inr ⟨Evl.st_of ha, Evl.st_of hb, fun Dl hD => ?_⟩⟩
  refine lc_kp (walk_zipT (n := (t.zip u).length) (by simp)) hD (fun i y H' => ∃ b : Bool, y = .bl b ∧ (b = true ↔ ∃ p, (t.zip u)[i]? = some p ∧ p.1 = p.2)) (by rw [List.length_zip]; omega) (fun H3 e => ⟨Evl.st_of (e _ _ ha), Evl.st_of (e _ _ hb)⟩) (fun i y _ _ e z => z) (fun i x H4 H5 Kt hi e1 hx k => ?_) (fun ys H4 e4 hy a2 => ?_)
  · obtain ⟨T1, x1, x2, rfl, hT1, rfl, hx1, hx2⟩ := hx
    obtain ⟨m1, hm1, rfl⟩ := iv_ix hx1
    obtain ⟨m2, hm2, rfl⟩ := iv_ix hx2
    refine ⟨T1, _, rfl, Evl.st_of upd_same, rfl, _, _, rfl, _, _, rfl, rfl, rfl, _, rfl, _, rfl, rfl, k _ _ (Ex.new hT1) ⟨_, rfl, ?_⟩⟩
    have hz : (t.zip u)[i]? = some (m1, m2) := List.getElem?_zip_eq_some.mpr ⟨hm1, hm2⟩
    rw [hz, decide_eq_true_eq]
    exact ⟨fun z => ⟨_, rfl, by have : ((m1 : Nat) : Int) = (m2 : Int) := V.int.inj z; show m1 = m2; omega⟩, fun ⟨p, hp, e⟩ => by cases hp; show V.int (m1 : Int) = V.int (m2 : Int); rw [show m1 = m2 from e]⟩
  · obtain ⟨bs, rfl, _, hany⟩ := A2.bools a2
    have he : bs.any id = meets t u := by
      rw [Bool.eq_iff_iff, hany]
      unfold meets
      rw [List.any_eq_true]
      constructor
      · rintro ⟨i, _, p, hp, e⟩
        exact ⟨p, List.mem_of_getElem? hp, by simpa using e⟩
      · rintro ⟨p, hp, e⟩
        obtain ⟨i, hi⟩ := List.getElem?_of_mem hp
        exact ⟨i, List.mem_range.mpr (List.getElem?_eq_some_iff.mp hi).1, p, hi, by simpa using e⟩
    refine ⟨Dl, bs, rfl, Evl.sq_of hy, ?_⟩
    rw [he]
    exact q _ e4
end
end K65
namespace K65
open PySem PySem.Spec PyProof.Rows L2
open Evl (Ex)
section
variable {P : Program} {w : World} {K : PySem.W.Frag} {mg : Str → Option Value} {base : Heap}
abbrev s_is_parted : Stmt := topS 40
theorem sc_is_parted : FnScope ["rows", "value", "told", "at"] ["rows", "value"] (defScope s_is_parted) := ⟨rfl, rfl, rfl, by decide +kernel, rfl, by decide +kernel, by decide +kernel⟩
def partD (n : Nat) (rs : List (List Nat)) (d : Dt) : Prop := ∃ ts, d = dnn ts ∧ IsPart n rs ts
def sp_is_parted (K : PySem.W.Frag) : Sp := fun vs H Q _ => ∃ (v u : V) (n : Nat) (rs : List (List Nat)) (d : Dt), vs = [v, u] ∧ Nuu H rs v ∧ Dr K H u d ∧ rs.length = n ∧ 1 ≤ n ∧ n ≤ 1000 ∧ (∀ r ∈ rs, r.length = n) ∧ ∀ b H', Ex H H' → (b = true ↔ partD n rs d) → Q (.bl b) H'
theorem crosses_of {n : Nat} {rs : List (List Nat)} : ∀ {ds : List Dt}, (∀ d ∈ ds, crossD n rs d) → ∃ ts : List (List Nat), ds = ts.map dn ∧ ∀ t ∈ ts, IsCross n rs t
  | [], _ => ⟨[], rfl, by simp⟩
  | d :: ds, h => by
    obtain ⟨ts, rfl, h2⟩ := crosses_of (ds := ds) fun e he => h e (List.mem_cons_of_mem _ he)
    obtain ⟨t, rfl, h3⟩ := h d (List.mem_cons_self ..)
    refine ⟨t :: ts, rfl, fun u hu => ?_⟩
    rcases List.mem_cons.mp hu with rfl | hu
    · exact h3
    · exact h2 u hu
theorem dnn_inj {a b : List (List Nat)} (h : dnn a = dnn b) : a = b := by
  simp only [dnn, Dt.tup.injEq] at h
  induction a generalizing b with
  | nil => cases b with
    | nil => rfl
    | cons => simp at h
  | cons x a ih => cases b with
    | nil => simp at h
    | cons y b =>
      simp only [List.map_cons, List.cons.injEq] at h
      rw [ih h.2, dn_inj h.1]
theorem mem_range_ix {α : Type} {l : List α} {Pr : α → Prop} : (∀ i ∈ List.range l.length, ∀ a, l[i]? = some a → Pr a) ↔ ∀ a ∈ l, Pr a := by
  constructor
  · intro z a ha
    obtain ⟨i, hi⟩ := List.getElem?_of_mem ha
    exact z i (List.mem_range.mpr (List.getElem?_eq_some_iff.mp hi).1) a hi
  · intro z i _ a ha
    exact z a (List.mem_of_getElem? ha)
theorem ok_is_parted (T : Txt K mg) (D : Df K mg "is_parted" s_is_parted) (cis_cross : Ca P w K mg base 4 "is_cross" ["rows", "value"] (sp_is_cross K)) (cdo_meet : Ca P w K mg base 1 "do_meet" ["one", "other"] (sp_do_meet K)) :
    Ca P w K mg base 5 "is_parted" ["rows", "value"] (sp_is_parted K) := by
  refine ca_mk D sc_is_parted (fun vs H Q E h => ?_) (fun _ _ _ _ _ _ us hl => match us, hl with | [_, _], _ => rfl) (fun f cdv A outer s H vs Q E hr h => ?_)
  · obtain ⟨v, u, n, rs, d, rfl, _⟩ := h
    rfl
  obtain ⟨v, u, n, rs, d, rfl, hv, hu, h1, h2, h3, h4, q⟩ := h
  have nd := sc_is_parted.nd
  refine ⟨_, (pss_cons (ps_if (PW.pt (pw_or (pt_not (pt_val (pe_callB (call_isiK K) (by rfl) T.m_isinstance (by decide +kernel) (pa_cons (pv 1) (pa_cons (pe_bltn (v := .ty "tuple") (by rfl) T.m_tuple (by decide +kernel) rfl) pa_nil))))) (pw_or (pt_cmpR op_ne (pe_callB (call_len_seqK K) (by rfl) T.m_len (by decide +kernel) (pa_cons (pv 1) pa_nil)) (pe_callB (call_len_seqK K) (by rfl) T.m_len (by decide +kernel) (pa_cons (pv 0) pa_nil)) (nomark _)) (pw_or1 (pt_not (pt_val (pe_callB (cr_allK K) (by rfl) T.m_all (by decide +kernel) (pa_cons (pe_lc (own := [("told", 2)]) rfl nd (pi_tupK K (pv 1)) (blkOk_by (N := ["rows", "value", "told", "at"]) (sc := defScope s_is_parted) (by decide +kernel)) (fun _ _ _ _ _ => (pg_name (i := 2) nd rfl (by first | exact Or.inl rfl | exact Or.inr rfl))) (fun _ _ _ _ _ => pts_nil) (fun _ _ _ _ _ => (pe_ca cis_cross hr (pa_cons (pv 0) (pa_cons (pv 2) pa_nil))))) pa_nil)))))))) (pss_one (ps_ret pe_bl)) pss_nil)
    (pss_cons (ps_if (pt_not (pt_val (pe_callB (cr_allK K) (by rfl) T.m_all (by decide +kernel) (pa_cons (pe_lc (own := [("at", 3), ("told", 2)]) rfl nd (pi_enumTK K (by rfl) T.m_enumerate (pa_cons (pv 1) pa_nil)) (blkOk_by (N := ["rows", "value", "told", "at"]) (sc := defScope s_is_parted) (by decide +kernel)) (fun _ _ _ _ _ => (pg_tupK K (n := 2) (by rfl) (pgs_cons (pg_name (i := 3) nd rfl (by first | exact Or.inl rfl | exact Or.inr rfl)) (pgs_cons (pg_name (i := 2) nd rfl (by first | exact Or.inl rfl | exact Or.inr rfl)) pgs_nil)))) (fun _ _ _ _ _ => pts_nil) (fun _ _ _ _ _ => (pe_cmpR op_eq (pe_ix (ix_tupK K) (pv 2) pe_int (fun _ _ => rfl)) (pv 3) (nomark _)))) pa_nil)))) (pss_one (ps_ret pe_bl)) pss_nil)
    (pss_one (ps_ret (pe_not (pe_callB (cr_anyK K) (by rfl) T.m_any (by decide +kernel) (pa_cons (pe_lc2 (own := [("at", 3), ("told", 2)]) (vs1 := [2]) rfl nd (pi_range1 (by rfl) T.m_range (pa_cons (pe_callB (call_len_seqK K) (by rfl) T.m_len (by decide +kernel) (pa_cons (pv 0) pa_nil)) pa_nil)) (blkOk_by (N := ["rows", "value", "told", "at"]) (sc := defScope s_is_parted) (by decide +kernel)) (by decide) (fun _ _ _ _ _ => (pg_name (i := 3) nd rfl (by first | exact Or.inl rfl | exact Or.inr rfl))) (fun _ _ _ _ _ => pts_nil) (fun _ _ _ _ _ => (pi_tupK K (pe_slice (sl_tupK K) (pv 1) po_none (po_some (pv 3))))) (fun _ _ _ _ _ => (pg_name (i := 2) nd rfl (by first | exact Or.inl rfl | exact Or.inr rfl))) (fun _ _ _ _ _ => pts_nil) (fun _ _ _ _ _ => (pe_ca cdo_meet hr (pa_cons (pe_ix (ix_tupK K) (pv 1) (pv 3) (fun _ _ => rfl)) (pa_cons (pv 2) pa_nil))))) pa_nil))))))), ?_⟩
  obtain ⟨a, us, rfl, ha, hus⟩ := id hv
  have hl := hus.len
  obtain ⟨t, bi, bb, bt, ty, e1, e2, e3, z1, z2⟩ := dr_ty hu
  refine ⟨_, rfl, _, _, _, _, bt, rfl, .ty _, ty, kit_ty e3, bt, rfl, ?_⟩
  cases bt with
  | false =>
    have z : ¬ isT d := fun y => by simpa using z2.mpr y
    refine q _ _ (Ex.refl H) ⟨fun y => by simp at y, fun ⟨ns, y, _⟩ => (z (by rw [y]; trivial)).elim⟩
  | true =>
    cases hu with
    | i | bl | non | lst | dK => exact (z2.mp rfl).elim
    | @tup ub xs ds hub hds =>
    have hlx := (DrAll.a2 ds xs hds).len
    refine ⟨_, rfl, ub, _, rfl, .inr (Evl.st_of hub), _, rfl, a, _, rfl, .inr (Evl.st_of ha), rfl, _, rfl, ?_⟩
    by_cases c : xs.length = n
    · rw [show decide (V.int (xs.length : Int) = V.int (us.length : Int)) = true from decide_eq_true (by rw [c, ← hl, h1])]
      refine iteF ?_
      refine ⟨_, rfl, ub, rfl, ⟨_, Evl.st_of hub⟩, fun Dl hD => ?_⟩
      refine lc_kp walk_tup hD (fun i y H' => ∃ b : Bool, y = .bl b ∧ (b = true ↔ ∀ d, ds[i]? = some d → crossD n rs d)) (by omega) (fun H1 e => Evl.st_of (e _ _ hub)) (fun i y _ _ _ z => z) (fun i x H1 H2 Kt hi e1 hx k => ?_) (fun ys H1 e1 hy a2 => ?_)
      · obtain ⟨rfl, hx⟩ := hx
        obtain ⟨d, hd, r⟩ := A2.get (DrAll.a2 ds xs hds) hx
        refine ⟨rfl, _, rfl, _, rfl, .ref a, x, n, rs, d, rfl, hv.mono (kpE e1), Dr.mono e1 d x r, h1, h3, h4, fun b H3 e3 hb => k _ _ e3 ⟨b, rfl, ?_⟩⟩
        rw [hb]
        exact ⟨fun z d' hd' => by rw [hd] at hd'; cases hd'; exact z, fun z => z d hd⟩
      · obtain ⟨bs, rfl, hall, _⟩ := A2.bools a2
        refine ⟨Dl, bs, rfl, Evl.sq_of hy, _, rfl, ?_⟩
        rw [← hlx, mem_range_ix] at hall
        cases hb : bs.all id with
        | false =>
          refine q _ _ e1 ⟨fun y => by simp at y, fun ⟨ts, y, hp⟩ => ?_⟩
          exfalso
          have : bs.all id = true := hall.mpr fun d hd => by
            simp only [dnn, Dt.tup.injEq] at y
            rw [y] at hd
            obtain ⟨t, ht, rfl⟩ := List.mem_map.mp hd
            obtain ⟨i, hi⟩ := List.getElem?_of_mem ht
            exact ⟨t, rfl, (hp.2.1 i t hi).1⟩
          rw [hb] at this
          simp at this
        | true =>
          obtain ⟨ts, rfl, hcr⟩ := crosses_of (hall.mp hb)
          rw [List.length_map] at hlx
          have hlt : ts.length = n := by omega
          have hts : A2 (Nu H) ts xs := (A2.unmap (R := fun d v => Dr K H v d) (DrAll.a2 _ _ hds)).mono fun t v _ r => dr_nu r
          refine iteF ?_
          refine ⟨_, rfl, ub, xs, rfl, Evl.st_of (e1 _ _ hub), fun D2 hD2 => ?_⟩
          refine lc_kp walk_enumT hD2 (fun i y H' => ∃ b : Bool, y = .bl b ∧ (b = true ↔ ∀ t, ts[i]? = some t → t[0]? = some i)) (by omega) (fun H3 e => Evl.st_of (e _ _ (e1 _ _ hub))) (fun i y _ _ _ z => z) (fun i x H3 H4 Kt hi e3 hx k => ?_) (fun ys H3 e3 hy a2 => ?_)
          · obtain ⟨T1, x1, x2, rfl, hT1, rfl, hx1, hx2⟩ := hx
            cases hx1
            obtain ⟨t, ht, tb, rfl, htb⟩ := hts.get hx2
            have htl := (hcr t (List.mem_of_getElem? ht)).1.1
            have ht0 : t[0]? = some (t.getD 0 0) := getD_of (by omega)
            refine ⟨T1, _, rfl, Evl.st_of upd_same, rfl, _, _, rfl, _, _, rfl, rfl, rfl, _, rfl, tb, _, 0, _, rfl, rfl, Evl.st_of (Ex.new hT1 _ _ (e3 _ _ (e1 _ _ htb))), at_n (i := 0) (iv_at ht0), _, rfl, rfl, k _ _ (Ex.new hT1) ⟨_, rfl, ?_⟩⟩
            rw [decide_eq_true_eq]
            constructor
            · intro z t' ht'
              rw [ht] at ht'
              cases ht'
              have : ((t.getD 0 0 : Nat) : Int) = (i : Int) := V.int.inj z
              rw [ht0, show t.getD 0 0 = i by omega]
            · intro z
              have := z t ht
              rw [ht0] at this
              rw [Option.some.inj this]
              rfl
          · obtain ⟨bs2, rfl, hall2, _⟩ := A2.bools a2
            refine ⟨D2, bs2, rfl, Evl.sq_of hy, _, rfl, ?_⟩
            have hall3 : bs2.all id = true ↔ ∀ (i : Nat) t, ts[i]? = some t → t[0]? = some i := by
              rw [hall2]
              constructor
              · exact fun z i t ht => z i (List.mem_range.mpr (by have := (List.getElem?_eq_some_iff.mp ht).1; omega)) t ht
              · exact fun z i _ t ht => z i t ht
            cases hb2 : bs2.all id with
            | false =>
              refine q _ _ (e1.trans e3) ⟨fun y => by simp at y, fun ⟨ts', y, hp⟩ => ?_⟩
              exfalso
              have y' := dnn_inj y
              subst y'
              have := hall3.mpr fun i t ht => (hp.2.1 i t ht).2
              rw [hb2] at this
              simp at this
            | true =>
              have hheads := hall3.mp hb2
              refine iteF ?_
              have e13 := e1.trans e3
              refine ⟨_, rfl, a, _, rfl, .inr (Evl.st_of (e13 _ _ ha)), _, rfl, by omega, by omega, fun D3 hD3 => ?_⟩
              have hW := walk_rn (j := (us.length : Int)) (n := n) (by omega)
              refine ⟨fun i m H' => m = n - i ∧ i ≤ n ∧ Ex H3 H' ∧ ∃ bs : List Bool, H' D3 = some (.lst (bs.map V.bl)) ∧ bs.length ≤ i * n ∧ (bs.any id = true ↔ ∃ (x y : Nat) (t u : List Nat), x < i ∧ y < x ∧ ts[x]? = some t ∧ ts[y]? = some u ∧ meets t u = true),
                ⟨n, by simp, Nat.zero_le _, Ex.new hD3, [], upd_same, by simp, by simp⟩, ?_⟩
              rintro i m H4 ⟨rfl, hi, e4, bs, hbs, hbl, hba⟩
              by_cases hlt2 : i < n
              · refine .inr ⟨hW.goes i H4 hlt2 trivial, fun H' => i + 1 ≤ n ∧ Ex H3 H' ∧ ∃ bs : List Bool, H' D3 = some (.lst (bs.map V.bl)) ∧ bs.length ≤ (i + 1) * n ∧ (bs.any id = true ↔ ∃ (x y : Nat) (t u : List Nat), x < i + 1 ∧ y < x ∧ ts[x]? = some t ∧ ts[y]? = some u ∧ meets t u = true),
                  fun H' p => ⟨n - (i + 1), by omega, rfl, p⟩, fun x H' y => ?_⟩
                obtain ⟨rfl, rfl⟩ := hW.yields i H4 x H' hlt2 trivial y
                obtain ⟨t, hti⟩ : ∃ t, ts[i]? = some t := ⟨ts[i], List.getElem?_eq_getElem (by omega)⟩
                obtain ⟨v, hvi, htv⟩ := hts.ix hti
                have hub4 := e4 _ _ (e13 _ _ hub)
                refine ⟨rfl, _, rfl, _, rfl, _, rfl, ub, xs, rfl, Evl.st_of hub4, ?_, fun s0 hs0 => ?_⟩
                · rintro ⟨_, z⟩
                  have : HT.sIx xs.length xs.length (some (i : Int)) = xs.length := z
                  rw [HT.sIx_nat] at this
                  omega
                rw [cut_take (by omega)]
                have es := Ex.new (o := .tup (xs.take i)) hs0
                refine ⟨s0, rfl, ⟨_, Evl.st_of upd_same⟩, ?_⟩
                have hW2 := walk_tup (K := K) (a := s0) (xs := xs.take i)
                have hlt3 : (xs.take i).length = i := by rw [List.length_take]; omega
                refine ⟨fun j m H' => m = i - j ∧ j ≤ i ∧ Ex H3 H' ∧ H' s0 = some (.tup (xs.take i)) ∧ ∃ bs : List Bool, H' D3 = some (.lst (bs.map V.bl)) ∧ bs.length ≤ i * n + j ∧ (bs.any id = true ↔ (∃ (x y : Nat) (t u : List Nat), x < i ∧ y < x ∧ ts[x]? = some t ∧ ts[y]? = some u ∧ meets t u = true) ∨ ∃ (y : Nat) (u : List Nat), y < j ∧ ts[y]? = some u ∧ meets t u = true),
                  ⟨i, by simp, Nat.zero_le _, e4.trans es, upd_same, bs, es _ _ hbs, by omega, by rw [hba]; simp⟩, ?_⟩
                rintro j m H5 ⟨rfl, hj, e5, hs5, bs5, hbs5, hbl5, hba5⟩
                by_cases hlt4 : j < i
                · refine .inr ⟨hW2.goes j H5 (by rw [hlt3]; exact hlt4) (Evl.st_of hs5), fun H' => j + 1 ≤ i ∧ Ex H3 H' ∧ H' s0 = some (.tup (xs.take i)) ∧ ∃ bs : List Bool, H' D3 = some (.lst (bs.map V.bl)) ∧ bs.length ≤ i * n + (j + 1) ∧ (bs.any id = true ↔ (∃ (x y : Nat) (t u : List Nat), x < i ∧ y < x ∧ ts[x]? = some t ∧ ts[y]? = some u ∧ meets t u = true) ∨ ∃ (y : Nat) (u : List Nat), y < j + 1 ∧ ts[y]? = some u ∧ meets t u = true),
                    fun H' p => ⟨i - (j + 1), by omega, rfl, p⟩, fun x H' y => ?_⟩
                  obtain ⟨rfl, hx⟩ := hW2.yields j H5 x H' (by rw [hlt3]; exact hlt4) (Evl.st_of hs5) y
                  rw [List.getElem?_take, if_pos hlt4] at hx
                  obtain ⟨u, hu, hux⟩ := hts.get hx
                  have hE := e13.trans e5
                  refine ⟨rfl, _, rfl, _, rfl, ixT_v (hE _ _ hub) hvi ⟨_, rfl, v, x, t, u, rfl, htv.mono (kpE hE), hux.mono (kpE hE), by rw [(hcr t (List.mem_of_getElem? hti)).1.1]; exact h3, fun H6 e6 => ⟨bs5.map V.bl, e6 _ _ hbs5, ?_, hlt4, ?_, ?_, bs5 ++ [meets t u], ?_, ?_, ?_⟩⟩⟩
                  · rw [List.length_map]
                    refine sz_lt ?_
                    have : i * n ≤ 1000 * 1000 := Nat.mul_le_mul (by omega) h3
                    omega
                  · exact Ex.mut (e5.trans e6) hD3
                  · rw [upd_ne (Ne.symm (ne_of_none hbs hs0))]
                    exact e6 _ _ hs5
                  · rw [upd_same, List.map_append]
                    rfl
                  · rw [List.length_append]
                    show bs5.length + 1 ≤ _
                    omega
                  · rw [List.any_append, Bool.or_eq_true, hba5]
                    constructor
                    · rintro ((z | ⟨y, u', z1, z2, z3⟩) | z)
                      · exact .inl z
                      · exact .inr ⟨y, u', by omega, z2, z3⟩
                      · exact .inr ⟨j, u, by omega, hu, by simpa using z⟩
                    · rintro (z | ⟨y, u', z1, z2, z3⟩)
                      · exact .inl (.inl z)
                      · by_cases hyj : y = j
                        · subst hyj
                          rw [hu] at z2
                          cases z2
                          exact .inr (by simpa using z3)
                        · exact .inl (.inr ⟨y, u', by omega, z2, z3⟩)
                · have ej : j = i := by omega
                  subst ej
                  refine .inl ⟨by have := hW2.stops H5 (Evl.st_of hs5); rw [hlt3] at this; exact this, hlt2, e5, bs5, hbs5, by rw [Nat.succ_mul]; omega, ?_⟩
                  rw [hba5]
                  constructor
                  · rintro (⟨x, y, t', u', z1, z2, z3⟩ | ⟨y, u', z1, z2, z3⟩)
                    · exact ⟨x, y, t', u', by omega, z2, z3⟩
                    · exact ⟨j, y, t, u', by omega, z1, hti, z2, z3⟩
                  · rintro ⟨x, y1, t', u', z1, z2, z3, z4, z5⟩
                    by_cases hxj : x = j
                    · subst hxj
                      rw [hti] at z3
                      cases z3
                      exact .inr ⟨y1, u', z2, z4, z5⟩
                    · exact .inl ⟨x, y1, t', u', by omega, z2, z3, z4, z5⟩
              · have e0 : i = n := by omega
                subst e0
                refine .inl ⟨hW.stops H4 trivial, D3, bs, rfl, Evl.sq_of hbs, _, rfl, q _ _ (e13.trans e4) ?_⟩
                rw [Bool.not_eq_true', ← Bool.not_eq_true, hba]
                constructor
                · intro z
                  refine ⟨ts, rfl, hlt, fun k t ht => ⟨hcr t (List.mem_of_getElem? ht), hheads k t ht⟩, apart_ix.mpr fun x y t u hxy ht hu => ?_⟩
                  cases hm : meets t u with
                  | false => rfl
                  | true => exact absurd ⟨x, y, t, u, by have := (List.getElem?_eq_some_iff.mp ht).1; omega, hxy, ht, hu, hm⟩ z
                · rintro ⟨ts', y, hp⟩ ⟨x, y', t, u, _, z2, z3, z4, z5⟩
                  have y2 := dnn_inj y
                  subst y2
                  rw [apart_ix.mp hp.2.2 x y' t u z2 z3 z4] at z5
                  simp at z5
    · rw [show decide (V.int (xs.length : Int) = V.int (us.length : Int)) = false from decide_eq_false (fun z => c (by have := V.int.inj z; omega))]
      refine q _ _ (Ex.refl H) ⟨fun y => by simp at y, fun ⟨ts, y, hp⟩ => ?_⟩
      exfalso
      simp only [dnn, Dt.tup.injEq] at y
      rw [y, List.length_map] at hlx
      exact c (by rw [← hlx]; exact hp.1)
end
end K65
namespace K65
open PySem PySem.Spec PyProof.Rows L2
open Evl (Ex)
open PySem.W (Datum Tup)
/-! ### lists of tuples, lists of such lists -/
def LN (H : Hp) (p : Addr) (ts : List (List Nat)) : Prop := ∃ us, H p = some (.lst us) ∧ A2 (Nu H) ts us
def LNv (H : Hp) (ts : List (List Nat)) (v : V) : Prop := ∃ a, v = .ref a ∧ LN H a ts
def LL (H : Hp) (p : Addr) (ps : List (List (List Nat))) : Prop := ∃ qs, H p = some (.lst qs) ∧ A2 (LNv H) ps qs
theorem LN.mono {H H' : Hp} {p : Addr} {ts : List (List Nat)} (e : Ex H H') (h : LN H p ts) : LN H' p ts := by
  obtain ⟨us, h1, h2⟩ := h
  exact ⟨us, e _ _ h1, A2Nu.mono (kpE e) h2⟩
theorem LN.px {D : Addr} {H H' : Hp} {p : Addr} {ts : List (List Nat)} (e : Px D H H') (n : p ≠ D) (h : LN H p ts) : LN H' p ts := by
  obtain ⟨us, h1, h2⟩ := h
  exact ⟨us, e.2.2 _ _ n h1, A2Nu.mono (kpP e) h2⟩
theorem LNv.mono {H H' : Hp} {ts : List (List Nat)} {v : V} (e : Ex H H') (h : LNv H ts v) : LNv H' ts v := by
  obtain ⟨a, rfl, h⟩ := h
  exact ⟨a, rfl, h.mono e⟩
theorem LL.mono {H H' : Hp} {p : Addr} {ps : List (List (List Nat))} (e : Ex H H') (h : LL H p ps) : LL H' p ps := by
  obtain ⟨qs, h1, h2⟩ := h
  exact ⟨qs, e _ _ h1, h2.mono fun _ _ _ z => z.mono e⟩
section
variable {K : PySem.W.Frag}
theorem LN.dp {H : Hp} {p : Addr} {ts : List (List Nat)} (h : LN H p ts) : Dp K H (.ref p) (Datum.toD (tts ts)) := by
  obtain ⟨us, h1, h2⟩ := h
  exact .lst (Evl.sq_of h1) (dpAll_nu h2)
theorem LL.dp {H : Hp} {p : Addr} {ps : List (List (List Nat))} (h : LL H p ps) : Dp K H (.ref p) (Datum.toD (ps.map tts)) := by
  obtain ⟨qs, h1, h2⟩ := h
  refine .lst (Evl.sq_of h1) (dpAll_of (A2.map (h2.mono fun ts v _ z => ?_)))
  obtain ⟨a, rfl, z⟩ := z
  exact z.dp
end
theorem range_filter {l : List (List Nat)} {f : Nat → Bool} {g : List Nat → Bool} (h : ∀ (i : Nat) a, l[i]? = some a → f i = g a) : ((List.range l.length).filter f).map (fun i => l.getD i []) = l.filter g := by
  have e : l = (List.range l.length).map (fun i => l.getD i []) := by
    apply List.ext_getElem?
    intro i
    rw [List.getElem?_map]
    by_cases hi : i < l.length
    · rw [List.getElem?_range hi, List.getElem?_eq_getElem hi]
      simp [List.getD_eq_getElem?_getD, List.getElem?_eq_getElem hi]
    · rw [List.getElem?_eq_none (by omega), List.getElem?_eq_none (by simp; omega)]
      rfl
  conv => rhs; rw [e]
  rw [List.filter_map]
  congr 1
  apply List.filter_congr
  intro i hi
  have hi' := List.mem_range.mp hi
  have := h i _ (List.getElem?_eq_getElem hi')
  rw [this]
  simp [List.getD_eq_getElem?_getD, List.getElem?_eq_getElem hi']
theorem A2_filter {R : List Nat → V → Prop} {l : List (List Nat)} {f : Nat → Bool} {g : List Nat → Bool} {ys : List V} (h : ∀ (i : Nat) a, l[i]? = some a → f i = g a)
    (a : A2 (fun i y => ∀ t, l[i]? = some t → R t y) ((List.range l.length).filter f) ys) : A2 R (l.filter g) ys := by
  rw [← range_filter h]
  refine A2.map (a.mono fun i y hi r => r _ ?_)
  have hi' := List.mem_range.mp (List.mem_filter.mp hi).1
  rw [List.getElem?_eq_getElem hi']
  simp [List.getD_eq_getElem?_getD, List.getElem?_eq_getElem hi']
section
variable {P : Program} {w : World} {K : PySem.W.Frag} {mg : Str → Option Value} {base : Heap}
abbrev s_parted : Stmt := topS 42
theorem sc_parted : FnScope ["begun", "piles", "told", "left", "found", "pile", "other"] ["begun", "piles"] (defScope s_parted) := ⟨rfl, rfl, rfl, by decide +kernel, rfl, by decide +kernel, by decide +kernel⟩
def sp_parted (K : PySem.W.Frag) (d : Nat) : Sp := fun vs H Q _ => ∃ (b p : Addr) (bs : List (List Nat)) (ps : List (List (List Nat))), vs = [.ref b, .ref p] ∧ LN H b bs ∧ LL H p ps ∧ ps.length < d ∧ bs.length + ps.length ≤ 1000 ∧
  (∀ q ∈ ps, q.length ≤ 1000000 ∧ ∀ t ∈ q, t.length ≤ 1000) ∧ ∀ v H', Ex H H' → ((v = .non ∧ ∀ ts, ¬ Compl ps ts) ∨ ∃ ts, Compl ps ts ∧ Nuu H' (bs ++ ts) v) → Q v H'
def keepM (t : List Nat) (ps : List (List (List Nat))) : List (List (List Nat)) := ps.map fun q => q.filter fun u => !meets t u
theorem ok_parted {d : Nat} (T : Txt K mg) (D : Df K mg "parted" s_parted) (cdo_meet : Ca P w K mg base 1 "do_meet" ["one", "other"] (sp_do_meet K)) (cparted : Ca P w K mg base (d + 1) "parted" ["begun", "piles"] (sp_parted K d)) :
    Ca P w K mg base (d + 2) "parted" ["begun", "piles"] (sp_parted K (d + 1)) := by
  refine ca_mk D sc_parted (fun vs H Q E h => ?_) (fun _ _ _ _ _ _ us hl => match us, hl with | [_, _], _ => rfl) (fun f cdv A outer s H vs Q E hr h => ?_)
  · obtain ⟨b, p, bs, ps, rfl, _⟩ := h
    rfl
  obtain ⟨b, p, bs, ps, rfl, hb, hp, h1, h2, h3, q⟩ := h
  have nd := sc_parted.nd
  refine ⟨_, (pss_cons (ps_if (pt_cmpR (op_eqDK K hr.units) (pv 1) (pe_lst pa_nil) (nomark _)) (pss_one (ps_ret (pe_callTy (call_tuple_ofK K) (by rfl) T.m_tuple (by decide +kernel) (pa_cons (pv 0) pa_nil)))) pss_nil)
    (pss_cons (ps_for PassesOwn.never rfl (pi_listK K (pe_ix (ix_listK K) (pv 1) pe_int (fun _ _ => rfl))) (pg_name (i := 2) nd rfl (Or.inr rfl))
      (pss_cons (ps_setLc (i := 3) (own := [("pile", 5)]) rfl nd rfl rfl (sw_true rfl rfl rfl (by decide +kernel)) (pi_listK K (pe_slice (sl_listK K) (pv 1) (po_some pe_int) po_none)) (blkOk_by (N := ["begun", "piles", "told", "left", "found", "pile", "other"]) (sc := defScope s_parted) (by decide +kernel)) (fun _ _ _ _ _ => (pg_name (i := 5) nd rfl (by first | exact Or.inl rfl | exact Or.inr rfl))) (fun _ _ _ _ _ => pts_nil) (fun _ _ _ _ _ => (pe_lc (own := [("other", 6)]) rfl nd (pi_listK K (pv 5)) (blkOk_by (by kernel_rfl)) (fun _ _ _ _ _ => (pg_name (i := 6) nd rfl (by first | exact Or.inl rfl | exact Or.inr rfl))) (fun _ _ _ _ _ => (pts_one (pt_not (pt_val (pe_ca cdo_meet hr (pa_cons (pv 2) (pa_cons (pv 6) pa_nil))))))) (fun _ _ _ _ _ => (pv 6)))))
    (pss_one (ps_if (pt_cmpR (op_notInDK K (room65 hr)) (pe_lst pa_nil) (pv 3) (by rfl)) (pss_cons (ps_set (i := 4) nd rfl (Or.inl rfl) (pe_ca cparted hr (pa_cons (pe_lst (pa_starK K (pv 0) (pa_cons (pv 2) pa_nil))) (pa_cons (pv 3) pa_nil))))
    (pss_one (ps_if (pt_cmpR op_notN (pv 4) pe_non (nomark _)) (pss_one (ps_ret (pv 4))) pss_nil))) pss_nil))))
    (pss_one (ps_ret pe_non)))), ?_⟩
  refine ⟨_, rfl, (by show 0 ≤ sizeLine; decide), fun l hl => ?_⟩
  have e0 := Ex.new (o := .lst []) hl
  refine eqD_of (α := List (List (Tup Int))) (a := ps.map tts) (b := []) lay_llti (hp.mono e0).dp (.lst (Evl.sq_of upd_same) .nil) ⟨_, rfl, ?_⟩
  cases ps with
  | nil =>
    refine iteT ?_
    obtain ⟨us, hus1, hus2⟩ := hb.mono e0
    refine ⟨_, rfl, b, us, rfl, .inl ⟨Evl.sq_of hus1, fun t ht => q _ _ (e0.trans (Ex.new ht)) (.inr ⟨[], trivial, t, us, rfl, upd_same, ?_⟩)⟩⟩
    rw [List.append_nil]
    exact A2Nu.mono (kpE (Ex.new ht)) hus2
  | cons p0 ps =>
    refine iteF ?_
    obtain ⟨qs, hqs, hA⟩ := hp.mono e0
    cases qs with
    | nil => exact hA.elim
    | cons q0 qs =>
    obtain ⟨⟨a0, rfl, us0, hus0, hA0⟩, hAr⟩ := hA
    have hl0 := hA0.len
    have hlr := hAr.len
    simp only [List.length_cons] at h1 h2
    refine ⟨_, rfl, p, _, 0, _, rfl, rfl, Evl.sq_of hqs, at_n (i := 0) (x := V.ref a0) rfl, a0, rfl, ⟨_, Evl.sq_of hus0⟩, ?_⟩
    refine for_it walk_list (fun i σ H' => Ex (upd H l (.lst [])) H' ∧ (∀ t ∈ p0.take i, ∀ ts, ¬ Compl (keepM t ps) ts) ∧ ∃ o1 o2 o3 o4 o5, σ = [some (.ref b), some (.ref p), o1, o2, o3, o4, o5])
      ⟨Ex.refl _, by simp, none, none, none, none, none, rfl⟩ (fun i σ H' _ pv => Evl.sq_of (pv.1 _ _ hus0)) (fun i x σ H1 H2 hi pv y => ?_) (fun σ H1 pv => ?_)
    · obtain ⟨e1, hno, o1, o2, o3, o4, o5, rfl⟩ := pv
      obtain ⟨rfl, hx⟩ := y
      obtain ⟨told, htold, htv⟩ := hA0.get hx
      have hqs1 := e1 _ _ hqs
      refine ⟨_, rfl, _, rfl, p, _, rfl, Evl.sq_of hqs1, fun sl hsl => ?_⟩
      rw [show cutV (V.ref a0 :: qs) (some 1) none = qs from cut_drop (xs := V.ref a0 :: qs) (i := 1) (by simp)]
      have e2 := Ex.new (o := .lst qs) hsl
      have e12 := e1.trans e2
      refine ⟨sl, rfl, ⟨_, Evl.sq_of upd_same⟩, fun Dl hD => ?_⟩
      refine lc_all walk_list hD (fun i y H' => ∃ q, y = .ref q ∧ q ≠ Dl ∧ ∀ pl, ps[i]? = some pl → LN H' q (pl.filter fun u => !meets told u)) (by omega) (fun H3 e => Evl.ex_l e (Evl.sq_of upd_same)) (fun i y H3 H4 px z => ?_) (fun i x H3 H4 Kt hi e3 hacc hx k => ?_) (fun ys H3 e3 hy a2 => ?_)
      · obtain ⟨q, rfl, hq, z⟩ := z
        exact ⟨q, rfl, hq, fun pl hpl => (z pl hpl).px px hq⟩
      · obtain ⟨rfl, hx⟩ := hx
        obtain ⟨pl, hpl, ap, rfl, hap⟩ := hAr.get hx
        obtain ⟨usp, husp, hAp⟩ := hap.mono (e12.trans e3)
        have hlp := hAp.len
        have h3p := h3 pl (List.mem_cons_of_mem _ (List.mem_of_getElem? hpl))
        refine ⟨rfl, _, rfl, ap, rfl, ⟨_, Evl.sq_of husp⟩, fun D2 hD2 => ?_⟩
        refine lc_gen walk_list hD2 (fun j => !meets told (pl.getD j [])) (fun j y H' => ∀ t, pl[j]? = some t → Nu H' t y) (by omega) (fun H5 e => Evl.ex_l e (Evl.sq_of husp)) (fun j y _ _ px z t ht => (z t ht).mono (kpP px)) (fun j x H5 H6 Kt2 Kf hj e5 _ hx k1 k2 => ?_) (fun ys H5 e5 hy a2 => ?_)
        · obtain ⟨rfl, hx⟩ := hx
          obtain ⟨u, hu, huv⟩ := hAp.get hx
          have hgd : pl.getD j [] = u := by rw [List.getD_eq_getElem?_getD, hu]; rfl
          have eA := (e12.trans e3).trans e5
          refine ⟨rfl, _, rfl, _, rfl, _, _, told, u, rfl, htv.mono (kpE eA), huv.mono (kpE e5), (h3 p0 (List.mem_cons_self ..)).2 told (List.mem_of_getElem? htold), fun H7 e7 => ⟨_, rfl, ?_⟩⟩
          cases hm : meets told u with
          | true => exact k2 _ e7 (by rw [hgd, hm]; rfl)
          | false =>
            refine ⟨_, rfl, k1 _ _ e7 (by rw [hgd, hm]; rfl) fun t ht => ?_⟩
            rw [hu] at ht
            cases ht
            exact huv.mono (kpE (e5.trans e7))
        · refine k _ _ e5 ⟨D2, rfl, ?_, fun pl' hpl' => ?_⟩
          · obtain ⟨acc, hacc⟩ := hacc
            exact Ne.symm (ne_of_none hacc hD2)
          · rw [hpl] at hpl'
            cases hpl'
            refine ⟨ys, hy, ?_⟩
            rw [← hlp] at a2
            exact A2_filter (g := fun u => !meets told u) (fun i a ha => by rw [List.getD_eq_getElem?_getD, ha]; rfl) a2
      · have hleft : LL H3 Dl (keepM told ps) := by
          refine ⟨ys, hy, ?_⟩
          rw [← hlr] at a2
          refine A2.map (A2_range (R := fun pl v => LNv H3 (pl.filter fun u => !meets told u) v) (a2.mono fun i y _ z pl hpl => ?_))
          obtain ⟨q, rfl, _, z⟩ := z
          exact ⟨q, rfl, z pl hpl⟩
        have e13 := e12.trans e3
        refine ⟨(by show 0 ≤ sizeLine; decide), fun l2 hl2 => ⟨_, rfl, ?_⟩⟩
        have e4 := Ex.new (o := .lst []) hl2
        refine ⟨Datum.toD ([] : List (Tup Int)), ((keepM told ps).map tts).map Datum.toD, .lst (Evl.sq_of upd_same) .nil, (hleft.mono e4).dp, sh_of lay_lti _, sh_of lay_llti ((keepM told ps).map tts), _, rfl, ?_⟩
        have hany : (((keepM told ps).map tts).map Datum.toD).any (fun z => PyData.eqv z (Datum.toD ([] : List (Tup Int)))) = true ↔ [] ∈ keepM told ps := by
          rw [List.any_eq_true]
          constructor
          · rintro ⟨z, hz, he⟩
            obtain ⟨z1, hz1, rfl⟩ := List.mem_map.mp hz
            obtain ⟨z2, hz2, rfl⟩ := List.mem_map.mp hz1
            rw [Datum.eqv, decide_eq_true_eq] at he
            have : z2 = [] := tts_inj he
            rw [← this]
            exact hz2
          · intro hz
            exact ⟨Datum.toD (tts []), List.mem_map.mpr ⟨_, List.mem_map.mpr ⟨[], hz, rfl⟩, rfl⟩, by rw [Datum.eqv]; exact decide_eq_true rfl⟩
        have hnext : ∀ H5, Ex (upd H l (.lst [])) H5 → (∀ ts, ¬ Compl (keepM told ps) ts) → ∀ o4 o3, Ex (upd H l (.lst [])) H5 ∧ (∀ t ∈ p0.take (i + 1), ∀ ts, ¬ Compl (keepM t ps) ts) ∧ ∃ o1 o2 o3' o4' o5', [some (V.ref b), some (V.ref p), some x, some (V.ref Dl), o3, o4, o5] = [some (V.ref b), some (V.ref p), o1, o2, o3', o4', o5'] := fun H5 e5 hc o4 o3 => by
          refine ⟨e5, fun t ht ts => ?_, _, _, _, _, _, rfl⟩
          rw [List.take_succ, htold, List.mem_append] at ht
          rcases ht with ht | ht
          · exact hno t ht ts
          · have : t = told := by simpa using ht
            subst this
            exact hc ts
        by_cases hE : [] ∈ keepM told ps
        · rw [hany.mpr hE]
          refine iteF ?_
          exact hnext _ (e13.trans e4) (fun ts => compl_empty hE) _ _
        · rw [show (((keepM told ps).map tts).map Datum.toD).any (fun z => PyData.eqv z (Datum.toD ([] : List (Tup Int)))) = false from Bool.eq_false_iff.mpr fun z => hE (hany.mp z)]
          refine iteT ?_
          obtain ⟨usb, husb, hAb⟩ := hb.mono (e0.trans (e13.trans e4))
          have hlb := hAb.len
          refine ⟨_, rfl, b, usb, rfl, .inr (Evl.sq_of husb), _, rfl, sz_le (by rw [List.length_append, ← hlb]; show bs.length + 1 ≤ _; omega), fun l3 hl3 => ?_⟩
          have e5 := Ex.new (o := .lst (usb ++ [x])) hl3
          have htv5 := htv.mono (kpE ((e13.trans e4).trans e5))
          have hkl : (keepM told ps).length = ps.length := by simp [keepM]
          refine ⟨_, rfl, l3, Dl, bs ++ [told], keepM told ps, rfl, ⟨_, upd_same, (A2Nu.mono (kpE e5) hAb).snoc htv5⟩, (hleft.mono (e4.trans e5)), by omega, by rw [List.length_append, hkl]; show bs.length + 1 + ps.length ≤ 1000; omega, ?_, fun v H6 e6 hv => ?_⟩
          · intro q hq
            obtain ⟨q', hq', rfl⟩ := List.mem_map.mp hq
            have := h3 q' (List.mem_cons_of_mem _ hq')
            exact ⟨Nat.le_trans (List.length_filter_le _ _) this.1, fun t ht => this.2 t (List.mem_filter.mp ht).1⟩
          · have e06 := ((e13.trans e4).trans e5).trans e6
            refine ⟨_, rfl, rfl, _, rfl, ?_⟩
            rcases hv with ⟨rfl, hv⟩ | ⟨ts, hts, hv⟩
            · refine iteF ?_
              exact hnext _ e06 hv _ _
            · obtain ⟨va, vu, rfl, hva⟩ := hv
              refine iteT ⟨_, rfl, q _ _ (e0.trans e06) (.inr ⟨told :: ts, compl_cons.mpr ⟨told, ts, rfl, List.mem_of_getElem? htold, hts⟩, va, vu, rfl, ?_⟩)⟩
              rw [List.append_cons]
              exact hva
    · obtain ⟨e1, hno, o1, o2, o3, o4, o5, rfl⟩ := pv
      refine q _ _ (e0.trans e1) (.inl ⟨rfl, fun ts hc => ?_⟩)
      obtain ⟨t, ts', rfl, ht, hc⟩ := compl_cons.mp hc
      rw [← hl0, List.take_length] at hno
      exact hno t ht ts' hc
end
end K65
namespace K65
open PySem PySem.Spec PyProof.Rows L2
open Evl (Ex)
open PySem.W (Datum Tup)
theorem nodup_snocA {l : List Addr} {c : Addr} (h : l.Nodup) (n : c ∉ l) : (l ++ [c]).Nodup := by
  rw [List.nodup_append]
  refine ⟨h, by simp, fun a ha b hb e => ?_⟩
  have : b = c := by simpa using hb
  subst this
  exact n (e ▸ ha)
/-- new lists, each with the items c -/
theorem lc_fresh {J : It} {n : Nat} {G : Hp → Prop} {Y : Nat → Hp → V → Hp → Prop} (w : Walk J n G Y) {g : TG} {te : TE} {vs : List Nat} {σ : L2.St} {H1 : Hp} {D : Addr} {Qd : Hp → Prop} (hD : H1 D = none) (c : List V)
    (hn : n < 16000000) (hG : ∀ H, Ex H1 H → G H)
    (hs : ∀ i x H H' (Kt : V → Hp → Prop), i < n → Ex H1 H → Y i H x H' → (∀ q H4, H q = none → Ex H H4 → H4 q = some (.lst c) → Kt (.ref q) H4) → g x (wipe σ vs) H' fun σ2 H2 => wipe σ2 vs = wipe σ vs ∧ te σ2 H2 Kt)
    (hd : ∀ (qs : List Addr) H, Ex H1 H → H D = some (.lst (qs.map V.ref)) → qs.length = n → qs.Nodup → D ∉ qs → (∀ q ∈ qs, H q = some (.lst c) ∧ H1 q = none) → Qd H) :
    ∃ W : Nat → Nat → Hp → Prop, (∃ m, W 0 m (upd H1 D (.lst []))) ∧ ∀ i m H, W i m H →
      (J.stop i H ∧ Qd H) ∨ (J.go i H ∧ ∃ Nx : Hp → Prop, (∀ H', Nx H' → ∃ m', m' < m ∧ W (i + 1) m' H') ∧ ∀ x H', J.yld i H x H' → g x (wipe σ vs) H' fun σ2 H2 => wipe σ2 vs = wipe σ vs ∧ tYes σ2 H2 fun b H3 =>
        if b = true then te σ2 H3 fun y H4 => ∃ acc, H4 D = some (.lst acc) ∧ acc.length < sizeLine ∧ Nx (upd H4 D (.lst (acc ++ [y]))) else Nx H3) := by
  refine lc_it w (fun i H => i ≤ n ∧ Ex H1 H ∧ ∃ qs : List Addr, H D = some (.lst (qs.map V.ref)) ∧ qs.length = i ∧ qs.Nodup ∧ D ∉ qs ∧ (∀ q ∈ qs, H q = some (.lst c) ∧ H1 q = none)) ⟨Nat.zero_le _, Ex.new hD, [], upd_same, rfl, List.nodup_nil, by simp, by simp⟩ (fun i H _ p => hG H p.2.1) (fun i x H H' hi p y => ?_) (fun H p => ?_)
  · obtain ⟨_, e, qs, hq, hl, hnd, hDq, hall⟩ := p
    refine hs i x H H' _ hi e y (fun q H4 nq e4 h4 => ?_)
    have h5 := e4 D _ hq
    have hqD : q ≠ D := Ne.symm (ne_of_none hq nq)
    have hnq : q ∉ qs := fun z => by
      have := (hall q z).1
      rw [nq] at this
      cases this
    refine ⟨_, h5, sz_lt (by rw [List.length_map]; omega), hi, Ex.mut (e.trans e4) hD, qs ++ [q], ?_, by simp [hl], (nodup_snocA hnd hnq), ?_, ?_⟩
    · rw [upd_same, List.map_append]
      rfl
    · rw [List.mem_append, not_or]
      exact ⟨hDq, by simpa using Ne.symm hqD⟩
    · intro q' hq'
      rcases List.mem_append.mp hq' with z | z
      · have hne : q' ≠ D := fun e => hDq (e ▸ z)
        exact ⟨by rw [upd_ne hne]; exact e4 _ _ (hall q' z).1, (hall q' z).2⟩
      · have : q' = q := by simpa using z
        subst this
        exact ⟨by rw [upd_ne hqD]; exact h4, Evl.fresh_back e nq⟩
  · obtain ⟨_, e, qs, hq, hl, hnd, hDq, hall⟩ := p
    exact hd qs H e hq hl hnd hDq hall
section
variable {P : Program} {w : World} {K : PySem.W.Frag} {mg : Str → Option Value} {base : Heap}
theorem parted0 (D : Df K mg "parted" s_parted) : Ca P w K mg base 1 "parted" ["begun", "piles"] (sp_parted K 0) := by
  obtain ⟨f, fd, F, hm⟩ := D
  have no : ∀ vs H Q E, ¬ sp_parted K 0 vs H Q E := fun vs H Q E h => by
    obtain ⟨b, p, bs, ps, _, _, _, h1, _⟩ := h
    omega
  refine ⟨f, fd, ⟨fun vs H Q E h => absurd h (no vs H Q E), fun A outer s H args us vs Q E _ _ _ _ h => absurd h (no vs H Q E)⟩, hm, F.kp, F.binds (fun _ _ _ _ _ _ us hl => match us, hl with | [_, _], _ => rfl)⟩
theorem parted_all (T : Txt K mg) (D : Df K mg "parted" s_parted) (cdo_meet : Ca P w K mg base 1 "do_meet" ["one", "other"] (sp_do_meet K)) : ∀ d, Ca P w K mg base (d + 1) "parted" ["begun", "piles"] (sp_parted K d)
  | 0 => parted0 D
  | d + 1 => ok_parted T D cdo_meet (parted_all T D cdo_meet d)
abbrev s_parting_of_rows : Stmt := topS 43
theorem sc_parting_of_rows : FnScope ["rows", "piles", "told", "row"] ["rows"] (defScope s_parting_of_rows) := ⟨rfl, rfl, rfl, by decide +kernel, rfl, by decide +kernel, by decide +kernel⟩
def sp_parting_of_rows (K : PySem.W.Frag) : Sp := fun vs H Q _ => ∃ (v : V) (n : Nat) (rs : List (List Nat)), vs = [v] ∧ Nuu H rs v ∧ rs.length = n ∧ 1 ≤ n ∧ n ≤ 7 ∧ (∀ r ∈ rs, r.length = n ∧ ∀ x ∈ r, x < n) ∧
  ∀ v H', Ex H H' → ((v = .non ∧ ∀ ts, ¬ IsPart n rs ts) ∨ ∃ ts, IsPart n rs ts ∧ Nuu H' ts v) → Q v H'
theorem crossM_len {n : Nat} {rs : List (List Nat)} (h0 : rs.length = n) (h : ∀ r ∈ rs, r.length = n) : (crossM rs).length ≤ n ^ n := by
  have := crossP_len (n := n) rs [([], [])] h
  unfold crossM crossP
  rw [List.length_map]
  rw [h0] at this
  simpa using this
theorem ok_parting_of_rows (T : Txt K mg) (D : Df K mg "parting_of_rows" s_parting_of_rows) (ccrosses : Ca P w K mg base 2 "crosses" ["rows"] (sp_crosses K)) (cparted : Ca P w K mg base 9 "parted" ["begun", "piles"] (sp_parted K 8)) :
    Ca P w K mg base 10 "parting_of_rows" ["rows"] (sp_parting_of_rows K) := by
  refine ca_mk D sc_parting_of_rows (fun vs H Q E h => ?_) (fun _ _ _ _ _ _ us hl => match us, hl with | [_], _ => rfl) (fun f cdv A outer s H vs Q E hr h => ?_)
  · obtain ⟨v, n, rs, rfl, _⟩ := h
    rfl
  obtain ⟨v, n, rs, rfl, hv, h1, h2, h3, h4, q⟩ := h
  have nd := sc_parting_of_rows.nd
  refine ⟨_, (pss_cons (ps_setLc (i := 1) (own := [("row", 3)]) rfl nd rfl rfl (sw_true rfl rfl rfl (by decide +kernel)) (pi_tupK K (pv 0)) (blkOk_by (N := ["rows", "piles", "told", "row"]) (sc := defScope s_parting_of_rows) (by decide +kernel)) (fun _ _ _ _ _ => (pg_name (i := 3) nd rfl (by first | exact Or.inl rfl | exact Or.inr rfl))) (fun _ _ _ _ _ => pts_nil) (fun _ _ _ _ _ => (pe_lst pa_nil)))
    (pss_cons (ps_for PassesOwn.never rfl (pi_listK K (pe_ca ccrosses hr (pa_cons (pv 0) pa_nil))) (pg_name (i := 2) nd rfl (Or.inl rfl))
      (pss_one (ps_expr (pe_bm PySem.F.plainAttrs_list PySem.F.slot_list_append PySem.F.type_list_append mt_append (pe_ix (ix_listK K) (pv 1) (pe_ix (ix_tupK K) (pv 2) pe_int (fun _ _ => rfl)) (fun _ _ => rfl)) (pa_cons (pv 2) pa_nil)))))
    (pss_one (ps_ret (pe_ca cparted hr (pa_cons (pe_lst pa_nil) (pa_cons (pv 1) pa_nil))))))), ?_⟩
  obtain ⟨a, us, rfl, ha, hus⟩ := id hv
  have hl := hus.len
  have hrow : ∀ r ∈ rs, r.length = n := fun r hr => (h4 r hr).1
  refine ⟨_, rfl, a, rfl, ⟨_, Evl.st_of ha⟩, fun D hD => ?_⟩
  refine lc_fresh walk_tup hD [] (by omega) (fun H3 e => Evl.st_of (e _ _ ha)) (fun i x H1 H2 Kt hi e1 hx k => ?_) (fun qs H1 e1 hq hql hnd hDq hall => ?_)
  · obtain ⟨rfl, hx⟩ := hx
    exact ⟨rfl, (by show 0 ≤ sizeLine; decide), fun p hp => k _ _ hp (Ex.new hp) upd_same⟩
  · refine ⟨_, rfl, .ref a, rs, n, rfl, hv.mono (kpE e1), h1, h3, h4, fun lc H2 cs hlc e2 hcs hA => ?_⟩
    have hcl := hA.len
    have hcM := crossM_len h1 hrow
    have hp7 := pow_le7 h3 h3
    refine ⟨lc, rfl, ⟨_, Evl.sq_of hcs⟩, ?_⟩
    have hlcq : ∀ q ∈ qs, q ≠ lc := fun q hq' z => by
      have := (hall q hq').1
      rw [z, hlc] at this
      cases this
    have hDlc : D ≠ lc := fun z => by rw [z, hlc] at hq; cases hq
    have hDn : H D = none := hD
    refine for_it walk_list (fun i σ H' => Ex H H' ∧ H' lc = some (.lst cs) ∧ A2 (Nu H') (crossM rs) cs ∧ H' D = some (.lst (qs.map V.ref)) ∧ (∀ (k : Nat) q, qs[k]? = some q → LN H' q (((crossM rs).take i).filter fun t => t.getD 0 0 == k)) ∧ ∃ o1 o2, σ = [some (.ref a), some (.ref D), o1, o2])
      ⟨e1.trans e2, hcs, hA, e2 _ _ hq, fun k q hk => ⟨[], e2 _ _ (hall q (List.mem_of_getElem? hk)).1, by simp; trivial⟩, none, none, rfl⟩ (fun i σ H' _ pv => Evl.sq_of pv.2.1) (fun i x σ H3 H4 hi pv y => ?_) (fun σ H3 pv => ?_)
    · obtain ⟨e3, hcs3, hA3, hq3, hLN, o1, o2, rfl⟩ := pv
      obtain ⟨rfl, hx⟩ := y
      obtain ⟨t, ht, ta, rfl, hta⟩ := hA3.get hx
      have htc := (mem_crossM h1 hrow).mp (List.mem_of_getElem? ht)
      have ht0 : t[0]? = some (t.getD 0 0) := getD_of (by rw [htc.1.1]; exact h2)
      have hk : t.getD 0 0 < n := htc.1.2.2 _ (List.mem_of_getElem? ht0)
      obtain ⟨qk, hqk⟩ : ∃ qk, qs[t.getD 0 0]? = some qk := ⟨qs[t.getD 0 0], List.getElem?_eq_getElem (by omega)⟩
      have hqkm := List.mem_of_getElem? hqk
      obtain ⟨ws, hws, hB⟩ := hLN _ _ hqk
      have hBl := hB.len
      refine ⟨_, rfl, _, rfl, ta, _, 0, _, rfl, rfl, Evl.st_of hta, at_n (i := 0) (iv_at ht0), D, _, _, V.ref qk, rfl, rfl, Evl.sq_of hq3, at_n (by rw [List.getElem?_map, hqk]; rfl), .inl ⟨rfl, _, Evl.sq_of hws⟩, _, rfl, qk, ws, _, rfl, rfl, hws, sz_lt ?_, ?_⟩
      · have z1 := List.length_filter_le (fun t' => t'.getD 0 0 == t.getD 0 0) ((crossM rs).take i)
        rw [List.length_take] at z1
        omega
      · have px : Px qk H4 (upd H4 qk (.lst (ws ++ [V.ref ta]))) := Px.upd hws
        refine ⟨Ex.mut e3 (hall qk hqkm).2, ?_, A2Nu.mono (kpP px) hA3, ?_, fun k q hk' => ?_, _, _, rfl⟩
        · rw [upd_ne (Ne.symm (hlcq qk hqkm))]
          exact hcs3
        · rw [upd_ne (fun z => hDq (by rw [z]; exact hqkm))]
          exact hq3
        · by_cases hkk : k = t.getD 0 0
          · subst hkk
            rw [hqk] at hk'
            cases hk'
            refine ⟨_, upd_same, ?_⟩
            rw [List.take_succ, ht, List.filter_append]
            have : [t].filter (fun t' => t'.getD 0 0 == t.getD 0 0) = [t] := by simp
            show A2 _ (_ ++ [t].filter _) _
            rw [this]
            exact (A2Nu.mono (kpP px) hB).snoc ⟨ta, rfl, kpP px _ _ trivial hta⟩
          · have hne : q ≠ qk := fun z => hkk (by
              subst z
              exact (List.getElem?_inj (List.getElem?_eq_some_iff.mp hk').1 hnd).mp (hk'.trans hqk.symm))
            rw [List.take_succ, ht, List.filter_append]
            have : [t].filter (fun t' => t'.getD 0 0 == k) = [] := by rw [List.filter_cons, if_neg (by simpa using Ne.symm hkk)]; rfl
            show LN _ _ (_ ++ [t].filter _)
            rw [this, List.append_nil]
            exact (hLN k q hk').px px hne
    · obtain ⟨e3, hcs3, hA3, hq3, hLN, o1, o2, rfl⟩ := pv
      refine ⟨(by show 0 ≤ sizeLine; decide), fun b hb => ⟨_, rfl, b, D, [], pilesM n (crossM rs), rfl, ⟨[], upd_same, trivial⟩, ?_, ?_, ?_, ?_, fun v H5 e5 hv => ?_⟩⟩
      · refine LL.mono (Ex.new hb) ⟨_, hq3, A2.by_ix (by simp [pilesM, hql, hl, ← h1]) fun i p v hp hv => ?_⟩
        rw [List.getElem?_map] at hv
        cases hz : qs[i]? with
        | none => rw [hz] at hv; cases hv
        | some qi =>
          rw [hz] at hv
          cases hv
          have hi : i < n := by have := (List.getElem?_eq_some_iff.mp hz).1; omega
          unfold pilesM at hp
          rw [List.getElem?_map, List.getElem?_range hi] at hp
          cases hp
          refine ⟨qi, rfl, ?_⟩
          have := hLN i qi hz
          rw [← hcl, List.take_length] at this
          exact this
      · simp [pilesM]; omega
      · simp [pilesM]; omega
      · intro p hp
        obtain ⟨i, _, rfl⟩ := List.mem_map.mp hp
        refine ⟨Nat.le_trans (List.length_filter_le _ _) (by omega), fun t ht => ?_⟩
        have := (mem_crossM h1 hrow).mp (List.mem_filter.mp ht).1
        rw [this.1.1]
        omega
      · refine q _ _ ((e3.trans (Ex.new hb)).trans e5) ?_
        rcases hv with ⟨z1, z2⟩ | ⟨ts, z1, z2⟩
        · exact .inl ⟨z1, fun ts hts => z2 ts ((piles_part h2 h1 hrow).mpr hts)⟩
        · exact .inr ⟨ts, (piles_part h2 h1 hrow).mp z1, z2⟩
end
end K65
namespace K65
open PySem PySem.Spec PyProof.Rows L2 SlX
open Evl (Ex)
open PySem.W (Datum Tup)
/-! ### instances with slots -/
def Tk (H H' : Hp) : Prop := ∀ a xs, H a = some (.tup xs) → H' a = some (.tup xs)
theorem Nu.tk {H H' : Hp} {ns : List Nat} {v : V} (e : Tk H H') (h : Nu H ns v) : Nu H' ns v := by
  obtain ⟨a, rfl, h⟩ := h
  exact ⟨a, rfl, e a _ h⟩
theorem Nuu.tk {H H' : Hp} {rs : List (List Nat)} {v : V} (e : Tk H H') (h : Nuu H rs v) : Nuu H' rs v := by
  obtain ⟨a, us, rfl, h, q⟩ := h
  exact ⟨a, us, rfl, e a _ h, q.mono fun _ _ _ z => z.tk e⟩
theorem slt_mono {H H' : Hp} {a C dx : Addr} {vs : List (Option V)} (e : Kp H H') (h : Slt H a C dx vs) : Slt H' a C dx vs := by
  rcases h with ⟨h, z⟩ | ⟨h, h2⟩
  · exact .inl ⟨e _ _ trivial h, z⟩
  · exact .inr ⟨e _ _ trivial h, e _ _ trivial h2⟩
/-- all but x and dx stays -/
def Rest (x dx : Addr) (H H' : Hp) : Prop := ∀ a o, a ≠ x → a ≠ dx → H a = some o → H' a = some o
theorem Rest.of {x dx : Addr} {H H' : Hp} (e : Ex H H') : Rest x dx H H' := fun a o _ _ h => e a o h
theorem Rest.trans {x dx : Addr} {H H1 H2 : Hp} (a : Rest x dx H H1) (b : Rest x dx H1 H2) : Rest x dx H H2 := fun c o n1 n2 h => b c o n1 n2 (a c o n1 n2 h)
theorem Rest.sl {x dx C : Addr} {H : Hp} {vs : List (Option V)} : Rest x dx H (slH H x C dx vs) := fun a o n1 n2 h => by rw [slH_ne n1 n2]; exact h
theorem slt_dx {H : Hp} {x dx C : Addr} {vs : List (Option V)} (h : Slt H x C dx vs) (hn : H x = some (.ins C dx []) → ∃ o, H dx = some o ∧ ∀ xs, o ≠ .tup xs) : Tk H (upd (upd H dx (.xd [])) x (.own x)) ∨ True := .inr trivial
/-- neither x nor dx is a tuple -/
def NoT (H : Hp) (x dx : Addr) : Prop := (∀ xs, H x ≠ some (.tup xs)) ∧ ∀ xs, H dx ≠ some (.tup xs)
theorem Rest.tk {x dx : Addr} {H H' : Hp} (n : NoT H x dx) (r : Rest x dx H H') : Tk H H' := fun a xs h => r a _ (fun e => n.1 xs (e ▸ h)) (fun e => n.2 xs (e ▸ h)) h
theorem not_sl {H : Hp} {x dx C : Addr} {vs : List (Option V)} (h : dx ≠ x) : NoT (slH H x C dx vs) x dx := by
  constructor
  · intro xs z
    unfold slH at z
    rw [upd_same] at z
    unfold SlO at z
    cases z
  · intro xs z
    unfold slH at z
    rw [upd_ne h, upd_same] at z
    cases z
theorem tk_sl {H : Hp} {x dx C : Addr} {vs : List (Option V)} (n : NoT H x dx) : Tk H (slH H x C dx vs) := Rest.sl.tk n
/-- a table of n rows -/
def TabAt (H : Hp) (a C : Addr) (n : Nat) (rs : List (List Nat)) : Prop := ∃ dx vs r, Slt H a C dx vs ∧ vs[1]? = some (some (iv n)) ∧ vs[3]? = some (some r) ∧ Nuu H rs r
def TabV (H : Hp) (C : Addr) (n : Nat) (rs : List (List Nat)) (v : V) : Prop := ∃ a, v = .ref a ∧ TabAt H a C n rs
def MadeAt (H : Hp) (a C : Addr) (rs : List (List Nat)) : Prop := ∃ dx vs r, Slt H a C dx vs ∧ vs[0]? = some (some r) ∧ Nuu H rs r
theorem TabAt.mono {H H' : Hp} {a C : Addr} {n : Nat} {rs : List (List Nat)} (e : Kp H H') (h : TabAt H a C n rs) : TabAt H' a C n rs := by
  obtain ⟨dx, vs, r, h1, h2, h3, h4⟩ := h
  exact ⟨dx, vs, r, slt_mono e h1, h2, h3, h4.mono e⟩
theorem TabV.mono {H H' : Hp} {C : Addr} {n : Nat} {rs : List (List Nat)} {v : V} (e : Kp H H') (h : TabV H C n rs v) : TabV H' C n rs v := by
  obtain ⟨a, rfl, h⟩ := h
  exact ⟨a, rfl, h.mono e⟩
/-- what the classes are -/
structure Cls2 (K : PySem.W.Frag) (mg : Str → Option Value) (C CM : Addr) : Prop where
  mT : mg "Table" = some (.ref C)
  mM : mg "Made" = some (.ref CM)
  tc : SCls K C
  ti : SIsi K C
  s_order : ∃ p, Slot1 K C "own_order" p 1
  s_rows : ∃ p, Slot1 K C "own_rows" p 3
  s_places : ∃ p, Slot1 K C "own_places" p 2
  s_heads : ∃ p, Slot1 K C "own_heads" p 0
  mc : SCls K CM
  mi : SIsi K CM
  m_rows : ∃ p, Slot1 K CM "own_rows" p 0
  kTM : PySem.W.kitOne K (.type "tuple") (.ref CM) = some false
theorem kit_self (K : PySem.W.Frag) (C : Addr) : PySem.W.kitOne K (.ref C) (.ref C) = some true := by
  unfold PySem.W.kitOne
  rw [if_pos (by simp)]
/-- isinstance, of any value -/
def rIsi2 (K : PySem.W.Frag) (u : Value) : List V → Hp → VK → Prop := fun vs H Q => rIsi K vs H Q ∨ rIsiSl K u vs H Q
theorem call_isi2K {X : Cx} (K : PySem.W.Frag) (u : Value) (h : X.K = K := by rfl) : CallR X (.builtin "isinstance") (rIsi2 K u) := by
  subst h
  intro pins s σ H xs us Q I r q
  rcases q with q | q
  · exact call_isi pins s σ H xs us Q I r q
  · exact call_isiSl u pins s σ H xs us Q I r q
theorem isi_yes {K : PySem.W.Frag} {H : Hp} {Q : VK} {a C dx : Addr} {vs : List (Option V)} (h : Slt H a C dx vs) (c : SCls K C) (i : SIsi K C) (q : Q (.bl true) H) : rIsi2 K (.ref C) [.ref a, .ref C] H Q :=
  .inr ⟨a, C, dx, vs, .ref C, true, rfl, rfl, fun w r => by cases r; rfl, h, c, i, kit_self K C, q⟩
/-- the class at C is called: a new instance, its __init__ at f -/
def CaMk (P : Program) (w : World) (K : PySem.W.Frag) (mg : Str → Option Value) (base : Heap) (k : Nat) (x : Str) (C : Addr) (ps : List Str) (sp : Sp) : Prop :=
  ∃ f fd, Mk K C f ∧ FnOk P w K mg base CX0 k f fd ps sp ∧ mg x = some (.ref C) ∧ Binds K fd ps []
def tMk (C : Addr) (sp : Sp) (t : TA) : TE := fun σ H Q => t σ H fun vs H1 => ∀ x dx, H1 x = none → H1 dx = none → dx ≠ x → sp (.ref x :: vs) (upd (upd H1 dx (.own x)) x (.ins C dx [])) (fun v H2 => v = .non ∧ Q (.ref x) H2) E0
theorem pe_mk {X : Cx} {k j : Nat} {x : Str} {C : Addr} {ps : List Str} {sp : Sp} {e : Expr} {es : List Expr} {t : TA} {p pos : Pos} (M : CaMk X.prog X.w X.K X.mg X.base k x C ps sp) (hr : Room j X.A) (ha : PA X (e :: es) t) (hk : k + 1 ≤ j := by first | decide | omega) (hg : Gl X x := by rfl)
    (hdb : (x == ("__debug__" : Str)) = false := by decide) (he : starEach (e :: es) X.env = (false, eval e X.env) :: starEach es X.env := by rfl) (hpl : (backTo pos (starEach es X.env)).any (·.1) = false := by rfl) :
    PE X (.Call (.Name x p) (e :: es) [] pos) (tMk C sp t) := by
  obtain ⟨f, fd, M, F, hm, hb⟩ := M
  refine ⟨fun pins s σ H Q I h => (pe_make (E := E0) M F (hr.mono hk) hg hm hb .nil pass0 ha hdb he hpl).run pins s σ H Q I ?_⟩
  have e1 : (fun (vs : List V) (H1 : Hp) => ∀ x dx, H1 x = none → H1 dx = none → dx ≠ x → sp (.ref x :: (vs ++ [])) (upd (upd H1 dx (.own x)) x (.ins C dx [])) (fun v H2 => v = .non ∧ Q (.ref x) H2) E0) =
      (fun vs H1 => ∀ x dx, H1 x = none → H1 dx = none → dx ≠ x → sp (.ref x :: vs) (upd (upd H1 dx (.own x)) x (.ins C dx [])) (fun v H2 => v = .non ∧ Q (.ref x) H2) E0) := by
    funext vs H1
    rw [List.append_nil]
  show t σ H (fun (vs : List V) (H1 : Hp) => ∀ x dx, H1 x = none → H1 dx = none → dx ≠ x → sp (.ref x :: (vs ++ [])) (upd (upd H1 dx (.own x)) x (.ins C dx [])) (fun v H2 => v = .non ∧ Q (.ref x) H2) E0)
  rw [e1]
  exact h
/-- what a table is made of -/
def RowsArg (H : Hp) (CM : Addr) (u : V) (n : Nat) (rs : List (List Nat)) : Prop := rs.length = n ∧ 1 ≤ n ∧ n ≤ 24 ∧ (∀ r ∈ rs, r.length = n ∧ ∀ x ∈ r, x < n) ∧ ((Nuu H rs u ∧ Latin n rs) ∨ ∃ a, u = .ref a ∧ MadeAt H a CM rs)
section
variable {P : Program} {w : World} {K : PySem.W.Frag} {mg : Str → Option Value} {base : Heap} {C CM : Addr}
abbrev s_rows_told : Stmt := topS 22
theorem sc_rows_told : FnScope ["rows"] ["rows"] (defScope s_rows_told) := ⟨rfl, rfl, rfl, by decide +kernel, rfl, by decide +kernel, by decide +kernel⟩
def sp_rows_told (K : PySem.W.Frag) (CM : Addr) : Sp := fun vs H Q _ => ∃ (u : V) (n : Nat) (rs : List (List Nat)), vs = [u] ∧ RowsArg H CM u n rs ∧ ∀ v H', Ex H H' → Nuu H' rs v → Q v H'
theorem ok_rows_told (T : Txt K mg) (U : Cls2 K mg C CM) (D : Df K mg "rows_told" s_rows_told) (care_rows : Ca P w K mg base 5 "are_rows" ["value"] (sp_are_rows K)) : Ca P w K mg base 6 "rows_told" ["rows"] (sp_rows_told K CM) := by
  refine ca_mk D sc_rows_told (fun vs H Q E h => ?_) (fun _ _ _ _ _ _ us hl => match us, hl with | [_], _ => rfl) (fun f cdv A outer s H vs Q E hr h => ?_)
  · obtain ⟨u, n, rs, rfl, _⟩ := h
    rfl
  obtain ⟨u, n, rs, rfl, ⟨h1, h2, h3, h4, hu⟩, q⟩ := h
  have nd := sc_rows_told.nd
  refine ⟨_, (pss_cons (ps_if (pt_val (pe_callB (call_isi2K K (.ref CM)) (by rfl) T.m_isinstance (by decide +kernel) (pa_cons (pv 0) (pa_cons (C8.pe_gc (v := .ref CM) rfl ⟨_, U.mM, rfl⟩) pa_nil)))) (pss_one (ps_ret (pe_sl (pv 0)))) pss_nil)
    (pss_cons (ps_if (pt_not (pt_val (pe_ca care_rows hr (pa_cons (pv 0) pa_nil)))) (pss_one ps_never) pss_nil)
    (pss_one (ps_ret (pv 0))))), ?_⟩
  rcases hu with ⟨hu, hL⟩ | ⟨a, rfl, dx, vs, r, hs, hv, hr1⟩
  · obtain ⟨a, us, rfl, ha, hus⟩ := id hu
    refine ⟨_, rfl, .inl ⟨_, _, _, .ref CM, false, rfl, .own CM, .base (.tup ha), U.kTM, _, rfl, iteF ?_⟩⟩
    exact ⟨_, rfl, _, n, rs, rfl, hu, h2, h3, hL, fun H1 e1 => ⟨_, rfl, iteF ⟨_, rfl, q _ _ e1 (hu.mono (kpE e1))⟩⟩⟩
  · obtain ⟨p, hp⟩ := U.m_rows
    refine ⟨_, rfl, isi_yes hs U.mc U.mi ⟨_, rfl, iteT ?_⟩⟩
    exact ⟨_, rfl, a, CM, dx, p, vs, 0, r, rfl, hs, U.mc, hp, hv, q _ _ (Ex.refl H) hr1⟩
end
end K65
namespace K65
open PySem PySem.Spec PyProof.Rows L2 SlX
open Evl (Ex)
open PySem.W (Datum Tup)
section
variable {P : Program} {w : World} {K : PySem.W.Frag} {mg : Str → Option Value} {base : Heap} {C CM : Addr}
/-- the text of a class's __init__ -/
def Di (K : PySem.W.Frag) (mg : Str → Option Value) (cls qual : Str) (C : Addr) (st : Stmt) : Prop := ∃ f fd, Fun K "__init__" qual st f fd ∧ Mk K C f ∧ mg cls = some (.ref C)
theorem init_mk {cls qual : Str} {st : Stmt} {N ps : List Str} {k : Nat} {sp : Sp} (D : Di K mg cls qual C st) (S : FnScope N ps (defScope st)) (len : ∀ vs H Q E, sp vs H Q E → vs.length = ps.length)
    (hb : ∀ (kV doc pm : Value) (an : Option Addr) (cdv ct : Value) (us : List Value), us.length = ps.length → bindArgs (PySem.W.fnOf "__init__" qual (defArgs st) (defBody st) (defScope st) .none kV doc pm an cdv ct) ⟨us, []⟩ = pure (ps.zip us))
    (hbody : ∀ (f : Addr) (cdv : Value) (A : Around) (outer : List Env) (s : Shared) (H : Hp) (vs : List V) (Q : VK) (E : XK), Room k (A.deeper (envOfC qual (defScope st) s.heap.objs.size f cdv)) → sp vs H Q E →
      ∃ t, PSs (cxOf CX0 P w K mg base N qual (defScope st) f cdv A outer s H E).nox (defBody st) t ∧ t { nx := fun _ H' => Q .non H', rt := Q } (start N vs) H) : CaMk P w K mg base (k + 1) cls C ps sp := by
  obtain ⟨f, fd, F, M, hm⟩ := D
  exact ⟨f, fd, M, F.ok S len (fun cdv A outer s H vs Q E hr h => hbody f cdv A outer s H vs Q E hr h), hm, F.binds hb⟩
theorem fnr_mk {x qual : Str} {st : Stmt} {N ps : List Str} {k : Nat} {sp : Sp} {g : Addr} (D : ∃ fd, Fun K x qual st g fd) (S : FnScope N ps (defScope st)) (len : ∀ vs H Q E, sp vs H Q E → vs.length = ps.length)
    (hb : ∀ (kV doc pm : Value) (an : Option Addr) (cdv ct : Value) (us : List Value), us.length = ps.length → bindArgs (PySem.W.fnOf x qual (defArgs st) (defBody st) (defScope st) .none kV doc pm an cdv ct) ⟨us, []⟩ = pure (ps.zip us))
    (hbody : ∀ (f : Addr) (cdv : Value) (A : Around) (outer : List Env) (s : Shared) (H : Hp) (vs : List V) (Q : VK) (E : XK), Room k (A.deeper (envOfC qual (defScope st) s.heap.objs.size f cdv)) → sp vs H Q E →
      ∃ t, PSs (cxOf CX0 P w K mg base N qual (defScope st) f cdv A outer s H E).nox (defBody st) t ∧ t { nx := fun _ H' => Q .non H', rt := Q } (start N vs) H) : FnR P w K mg base CX0 (k + 1) g sp := by
  obtain ⟨fd, F⟩ := D
  have F1 := (F.ok (P := P) (w := w) (mg := mg) (base := base) S len (fun cdv A outer s H vs Q E hr h => hbody g cdv A outer s H vs Q E hr h)).raw (F.binds hb) .nil
  refine F1.imp fun vs H Q E h => ?_
  rw [List.append_nil]
  exact h
abbrev s_Made_init : Stmt := inClass (topS 17) 1
theorem sc_Made_init : FnScope ["self", "rows"] ["self", "rows"] (defScope s_Made_init) := ⟨rfl, rfl, rfl, by decide +kernel, rfl, by decide +kernel, by decide +kernel⟩
def sp_Made_init (CM : Addr) : Sp := fun vs H Q _ => ∃ (x dx : Addr) (u : V) (rs : List (List Nat)), vs = [.ref x, u] ∧ H x = some (.ins CM dx []) ∧ H dx = some (.own x) ∧ dx ≠ x ∧ Nuu H rs u ∧ ∀ H', Rest x dx H H' → MadeAt H' x CM rs → Q .non H'
theorem ok_Made_init (T : Txt K mg) (U : Cls2 K mg C CM) (D : Di K mg "Made" "Made.__init__" CM s_Made_init) : CaMk P w K mg base 1 "Made" CM ["self", "rows"] (sp_Made_init CM) := by
  refine init_mk D sc_Made_init (fun vs H Q E h => ?_) (fun _ _ _ _ _ _ us hl => match us, hl with | [_, _], _ => rfl) (fun f cdv A outer s H vs Q E hr h => ?_)
  · obtain ⟨x, dx, u, rs, rfl, _⟩ := h
    rfl
  obtain ⟨x, dx, u, rs, rfl, hx, hdx, hne, hu, q⟩ := h
  have nd := sc_Made_init.nd
  refine ⟨_, (pss_one (ps_sl (pv 0) (pv 1))), ?_⟩
  obtain ⟨p, hp⟩ := U.m_rows
  refine ⟨_, rfl, _, rfl, x, CM, dx, p, [], 0, rfl, .inl ⟨hx, rfl⟩, U.mc, hp, q _ Rest.sl ⟨dx, _, u, slH_slt hne, putS_get 0 u [], hu.tk (tk_sl ⟨fun xs z => ?_, fun xs z => ?_⟩)⟩⟩
  · rw [hx] at z
    cases z
  · rw [hdx] at z
    cases z
abbrev s_Table_init : Stmt := inClass (topS 24) 1
theorem sc_Table_init : FnScope ["self", "rows"] ["self", "rows"] (defScope s_Table_init) := ⟨rfl, rfl, rfl, by decide +kernel, rfl, by decide +kernel, by decide +kernel⟩
def sp_Table_init (C CM : Addr) : Sp := fun vs H Q _ => ∃ (x dx : Addr) (u : V) (n : Nat) (rs : List (List Nat)), vs = [.ref x, u] ∧ H x = some (.ins C dx []) ∧ H dx = some (.own x) ∧ dx ≠ x ∧ RowsArg H CM u n rs ∧ ∀ H', Rest x dx H H' → TabAt H' x C n rs → Q .non H'
theorem not_sl_ex {H H' : Hp} {x dx C : Addr} {vs : List (Option V)} (h : dx ≠ x) (e : Ex (slH H x C dx vs) H') : NoT H' x dx := by
  have h1 : slH H x C dx vs x = some (SlO x C dx vs) := upd_same
  have h2 : slH H x C dx vs dx = some (.xd []) := by
    unfold slH
    rw [upd_ne h, upd_same]
  exact ⟨fun xs z => (by rw [e _ _ h1] at z; unfold SlO at z; cases z), fun xs z => (by rw [e _ _ h2] at z; cases z)⟩
theorem slt_ex {H H' : Hp} {x dx : Addr} {vs : List (Option V)} (e : Ex H H') (h : Slt H x C dx vs) : Slt H' x C dx vs := slt_mono (kpE e) h
theorem ok_Table_init (T : Txt K mg) (U : Cls2 K mg C CM) (D : Di K mg "Table" "Table.__init__" C s_Table_init) (crows_told : Ca P w K mg base 6 "rows_told" ["rows"] (sp_rows_told K CM))
    (ccolumns_of : Ca P w K mg base 2 "columns_of" ["rows"] (sp_columns_of K)) (crows_of_signs : Ca P w K mg base 2 "rows_of_signs" ["rows"] (sp_rows_of_signs K)) :
    CaMk P w K mg base 7 "Table" C ["self", "rows"] (sp_Table_init C CM) := by
  refine init_mk D sc_Table_init (fun vs H Q E h => ?_) (fun _ _ _ _ _ _ us hl => match us, hl with | [_, _], _ => rfl) (fun f cdv A outer s H vs Q E hr h => ?_)
  · obtain ⟨x, dx, u, n, rs, rfl, _⟩ := h
    rfl
  obtain ⟨x, dx, u, n, rs, rfl, hx, hdx, hne, hA, q⟩ := h
  have nd := sc_Table_init.nd
  refine ⟨_, (pss_cons (ps_sl (pv 0) (pe_ca crows_told hr (pa_cons (pv 1) pa_nil)))
    (pss_cons (ps_sl (pv 0) (pe_callB (call_len_seqK K) (by rfl) T.m_len (by decide +kernel) (pa_cons (pe_sl (pv 0)) pa_nil)))
    (pss_cons (ps_sl (pv 0) (pe_ca ccolumns_of hr (pa_cons (pe_sl (pv 0)) pa_nil)))
    (pss_one (ps_sl (pv 0) (pe_ca crows_of_signs hr (pa_cons (pe_sl (pv 0)) pa_nil))))))), ?_⟩
  obtain ⟨h1, h2, h3, h4, _⟩ := id hA
  obtain ⟨p0, hp0⟩ := U.s_heads
  obtain ⟨p1, hp1⟩ := U.s_order
  obtain ⟨p2, hp2⟩ := U.s_places
  obtain ⟨p3, hp3⟩ := U.s_rows
  refine ⟨_, rfl, u, n, rs, rfl, hA, fun v H1 e1 hv => ?_⟩
  obtain ⟨va, vus, rfl, hva, hvus⟩ := id hv
  have nt1 : NoT H1 x dx := ⟨fun xs z => (by rw [e1 _ _ hx] at z; cases z), fun xs z => (by rw [e1 _ _ hdx] at z; cases z)⟩
  refine ⟨_, rfl, x, C, dx, p3, [], 3, rfl, .inl ⟨e1 _ _ hx, rfl⟩, U.tc, hp3, ?_⟩
  generalize hH2 : slH H1 x C dx (putS 3 (V.ref va) []) = H2
  have s2 : Slt H2 x C dx (putS 3 (V.ref va) []) := hH2 ▸ slH_slt hne
  have r2 : Rest x dx H H2 := (Rest.of e1).trans (hH2 ▸ Rest.sl)
  have v2 : Nuu H2 rs (.ref va) := hv.tk (hH2 ▸ tk_sl nt1)
  have nt2 : NoT H2 x dx := hH2 ▸ not_sl hne
  have g3 : (putS 3 (V.ref va) [])[3]? = some (some (V.ref va)) := putS_get 3 _ []
  obtain ⟨va', us2, hva', ha2, hus2⟩ := id v2
  cases hva'
  have hl2 := hus2.len
  refine ⟨_, rfl, x, C, dx, p3, _, 3, V.ref va, rfl, s2, U.tc, hp3, g3, va, us2, rfl, .inr (Evl.st_of ha2), _, rfl, x, C, dx, p1, _, 1, rfl, s2, U.tc, hp1, ?_⟩
  have hlen : V.int (us2.length : Int) = iv n := by rw [← hl2, h1]; rfl
  rw [hlen]
  generalize hH3 : slH H2 x C dx (putS 1 (iv n) (putS 3 (V.ref va) [])) = H3
  have s3 : Slt H3 x C dx (putS 1 (iv n) (putS 3 (V.ref va) [])) := hH3 ▸ slH_slt hne
  have r3 : Rest x dx H H3 := r2.trans (hH3 ▸ Rest.sl)
  have v3 : Nuu H3 rs (.ref va) := v2.tk (hH3 ▸ tk_sl nt2)
  have nt3 : NoT H3 x dx := hH3 ▸ not_sl hne
  have g33 : (putS 1 (iv n) (putS 3 (V.ref va) []))[3]? = some (some (V.ref va)) := (putS_ne (by decide)).mpr g3
  have g31 : (putS 1 (iv n) (putS 3 (V.ref va) []))[1]? = some (some (iv n)) := putS_get 1 _ _
  generalize putS 1 (iv n) (putS 3 (V.ref va) []) = vs3 at s3 g33 g31
  refine ⟨_, rfl, x, C, dx, p3, _, 3, V.ref va, rfl, s3, U.tc, hp3, g33, .ref va, rs, rfl, v3, by omega, fun r hr => by have := h4 r hr; exact ⟨by omega, fun y hy => by rw [this.1]; exact this.2 y hy⟩, fun cv H4 e4 => ?_⟩
  refine ⟨_, rfl, x, C, dx, p2, _, 2, rfl, slt_ex e4 s3, U.tc, hp2, ?_⟩
  have nt4 : NoT H4 x dx := not_sl_ex hne (hH3.symm ▸ e4)
  generalize hH5 : slH H4 x C dx (putS 2 cv vs3) = H5
  have s5 : Slt H5 x C dx (putS 2 cv vs3) := hH5 ▸ slH_slt hne
  have r5 : Rest x dx H H5 := (r3.trans (Rest.of e4)).trans (hH5 ▸ Rest.sl)
  have v5 : Nuu H5 rs (.ref va) := (v3.mono (kpE e4)).tk (hH5 ▸ tk_sl nt4)
  have nt5 : NoT H5 x dx := hH5 ▸ not_sl hne
  have g53 : (putS 2 cv vs3)[3]? = some (some (V.ref va)) := (putS_ne (by decide)).mpr g33
  have g51 : (putS 2 cv vs3)[1]? = some (some (iv n)) := (putS_ne (by decide)).mpr g31
  generalize putS 2 cv vs3 = vs5 at s5 g53 g51
  refine ⟨_, rfl, x, C, dx, p3, _, 3, V.ref va, rfl, s5, U.tc, hp3, g53, .ref va, rs, rfl, v5, by omega, fun r hr => by rw [h1]; exact h4 r hr, fun cv2 H6 e6 => ?_⟩
  refine ⟨_, rfl, x, C, dx, p0, _, 0, rfl, slt_ex e6 s5, U.tc, hp0, q _ ((r5.trans (Rest.of e6)).trans Rest.sl) ⟨dx, _, V.ref va, slH_slt hne, (putS_ne (by decide)).mpr g51, (putS_ne (by decide)).mpr g53, (v5.mono (kpE e6)).tk (tk_sl (not_sl_ex hne (hH5.symm ▸ e6)))⟩⟩
theorem own_ne {H : Hp} {x dx C : Addr} {a : Addr} {o : HO} (hx : H x = none) (hd : H dx = none) (h : H a = some o) : (upd (upd H dx (.own x)) x (.ins C dx [])) a = some o := by
  rw [upd_ne (ne_of_none h hx), upd_ne (ne_of_none h hd)]
  exact h
theorem rest_ex {H H' : Hp} {x dx C : Addr} (hx : H x = none) (hd : H dx = none) (r : Rest x dx (upd (upd H dx (.own x)) x (.ins C dx [])) H') : Ex H H' := fun a o h => r a o (ne_of_none h hx) (ne_of_none h hd) (own_ne hx hd h)
theorem MadeAt.mono {H H' : Hp} {a C : Addr} {rs : List (List Nat)} (e : Kp H H') (h : MadeAt H a C rs) : MadeAt H' a C rs := by
  obtain ⟨dx, vs, r, h1, h2, h3⟩ := h
  exact ⟨dx, vs, r, slt_mono e h1, h2, h3.mono e⟩
theorem RowsArg.mono {H H' : Hp} {u : V} {n : Nat} {rs : List (List Nat)} (e : Kp H H') (h : RowsArg H CM u n rs) : RowsArg H' CM u n rs := by
  obtain ⟨h1, h2, h3, h4, h5⟩ := h
  refine ⟨h1, h2, h3, h4, ?_⟩
  rcases h5 with ⟨h5, h6⟩ | ⟨a, rfl, h5⟩
  · exact .inl ⟨h5.mono e, h6⟩
  · exact .inr ⟨a, rfl, h5.mono e⟩
/-- Table(e) -/
theorem tab_at {H1 : Hp} {u : V} {n : Nat} {rs : List (List Nat)} {Q : VK} {x dx : Addr} (hA : RowsArg H1 CM u n rs) (hx : H1 x = none) (hd : H1 dx = none) (hne : dx ≠ x) (k : ∀ H2, Ex H1 H2 → TabV H2 C n rs (.ref x) → Q .non H2) :
    sp_Table_init C CM [.ref x, u] (upd (upd H1 dx (.own x)) x (.ins C dx [])) Q E0 :=
  ⟨x, dx, u, n, rs, rfl, upd_same, by rw [upd_ne hne, upd_same], hne, hA.mono fun a o _ h => own_ne hx hd h, fun H' r ht => k _ (rest_ex hx hd r) ⟨x, rfl, ht⟩⟩
/-- Made(e) -/
theorem made_at {H1 : Hp} {u : V} {rs : List (List Nat)} {Q : VK} {x dx : Addr} (hu : Nuu H1 rs u) (hx : H1 x = none) (hd : H1 dx = none) (hne : dx ≠ x) (k : ∀ H2, Ex H1 H2 → MadeAt H2 x CM rs → Q .non H2) :
    sp_Made_init CM [.ref x, u] (upd (upd H1 dx (.own x)) x (.ins CM dx [])) Q E0 :=
  ⟨x, dx, u, rs, rfl, upd_same, by rw [upd_ne hne, upd_same], hne, hu.mono fun a o _ h => own_ne hx hd h, fun H' r ht => k _ (rest_ex hx hd r) ht⟩
abbrev s_table_with : Stmt := topS 25
theorem sc_table_with : FnScope ["rows"] ["rows"] (defScope s_table_with) := ⟨rfl, rfl, rfl, by decide +kernel, rfl, by decide +kernel, by decide +kernel⟩
def RowsIn (n : Nat) (rs : List (List Nat)) : Prop := rs.length = n ∧ ∀ r ∈ rs, r.length = n ∧ ∀ x ∈ r, x < n
def sp_table_with (C : Addr) : Sp := fun vs H Q _ => ∃ (u : V) (n : Nat) (rs : List (List Nat)), vs = [u] ∧ Nuu H rs u ∧ 1 ≤ n ∧ n ≤ 24 ∧ RowsIn n rs ∧ ∀ v H', Ex H H' → TabV H' C n rs v → Q v H'
theorem ok_table_with (T : Txt K mg) (U : Cls2 K mg C CM) (D : Df K mg "table_with" s_table_with) (cTable : CaMk P w K mg base 7 "Table" C ["self", "rows"] (sp_Table_init C CM)) (cMade : CaMk P w K mg base 1 "Made" CM ["self", "rows"] (sp_Made_init CM)) :
    Ca P w K mg base 9 "table_with" ["rows"] (sp_table_with C) := by
  refine ca_mk D sc_table_with (fun vs H Q E h => ?_) (fun _ _ _ _ _ _ us hl => match us, hl with | [_], _ => rfl) (fun f cdv A outer s H vs Q E hr h => ?_)
  · obtain ⟨u, n, rs, rfl, _⟩ := h
    rfl
  obtain ⟨u, n, rs, rfl, hu, h1, h2, h3, q⟩ := h
  have nd := sc_table_with.nd
  refine ⟨_, (pss_one (ps_ret (pe_mk cTable hr (pa_cons (pe_mk cMade hr (pa_cons (pv 0) pa_nil)) pa_nil)))), ?_⟩
  refine ⟨_, rfl, fun x dx hx hd hne => made_at hu hx hd hne fun H1 e1 hm => ⟨rfl, fun y dy hy hdy hne2 => ?_⟩⟩
  exact tab_at (n := n) (rs := rs) ⟨h3.1, h1, h2, h3.2, .inr ⟨x, rfl, hm⟩⟩ hy hdy hne2 fun H2 e2 ht => ⟨rfl, q _ _ (e1.trans e2) ht⟩
abbrev s_require_table : Stmt := topS 26
theorem sc_require_table : FnScope ["value"] ["value"] (defScope s_require_table) := ⟨rfl, rfl, rfl, by decide +kernel, rfl, by decide +kernel, by decide +kernel⟩
def sp_require_table (C : Addr) : Sp := fun vs H Q _ => ∃ (u : V) (n : Nat) (rs : List (List Nat)), vs = [u] ∧ TabV H C n rs u ∧ ∀ H', Ex H H' → Q .non H'
theorem ok_require_table (T : Txt K mg) (U : Cls2 K mg C CM) (D : Df K mg "require_table" s_require_table) : Ca P w K mg base 1 "require_table" ["value"] (sp_require_table C) := by
  refine ca_mk D sc_require_table (fun vs H Q E h => ?_) (fun _ _ _ _ _ _ us hl => match us, hl with | [_], _ => rfl) (fun f cdv A outer s H vs Q E hr h => ?_)
  · obtain ⟨u, n, rs, rfl, _⟩ := h
    rfl
  obtain ⟨u, n, rs, rfl, ⟨a, rfl, dx, vs, r, hs, _⟩, q⟩ := h
  have nd := sc_require_table.nd
  refine ⟨_, (pss_one (ps_if (pt_not (pt_val (pe_callB (call_isi2K K (.ref C)) (by rfl) T.m_isinstance (by decide +kernel) (pa_cons (pv 0) (pa_cons (C8.pe_gc (v := .ref C) rfl ⟨_, U.mT, rfl⟩) pa_nil))))) (pss_one ps_never) pss_nil)), ?_⟩
  exact ⟨_, rfl, isi_yes hs U.tc U.ti ⟨_, rfl, iteF (q _ (Ex.refl H))⟩⟩
abbrev s_require_two_tables : Stmt := topS 27
theorem sc_require_two_tables : FnScope ["one", "other"] ["one", "other"] (defScope s_require_two_tables) := ⟨rfl, rfl, rfl, by decide +kernel, rfl, by decide +kernel, by decide +kernel⟩
def sp_two (C : Addr) : Sp := fun vs H Q _ => ∃ (u u2 : V) (n : Nat) (rs rs2 : List (List Nat)), vs = [u, u2] ∧ TabV H C n rs u ∧ TabV H C n rs2 u2 ∧ ∀ H', Ex H H' → Q .non H'
theorem isi_tab {H : Hp} {Q : VK} {n : Nat} {rs : List (List Nat)} {v : V} (U : Cls2 K mg C CM) (h : TabV H C n rs v) (q : Q (.bl true) H) : rIsi2 K (.ref C) [v, .ref C] H Q := by
  obtain ⟨a, rfl, dx, vs, r, h1, _⟩ := h
  exact isi_yes h1 U.tc U.ti q
theorem ok_two (T : Txt K mg) (U : Cls2 K mg C CM) (D : Df K mg "require_two_tables" s_require_two_tables) (crequire_table : Ca P w K mg base 1 "require_table" ["value"] (sp_require_table C)) : Ca P w K mg base 2 "require_two_tables" ["one", "other"] (sp_two C) := by
  refine ca_mk D sc_require_two_tables (fun vs H Q E h => ?_) (fun _ _ _ _ _ _ us hl => match us, hl with | [_, _], _ => rfl) (fun f cdv A outer s H vs Q E hr h => ?_)
  · obtain ⟨u, u2, n, rs, rs2, rfl, _⟩ := h
    rfl
  obtain ⟨u, u2, n, rs, rs2, rfl, hu, hu2, q⟩ := h
  have nd := sc_require_two_tables.nd
  refine ⟨_, (pss_cons (ps_expr (pe_ca crequire_table hr (pa_cons (pv 0) pa_nil)))
    (pss_one (ps_if (PW.pt (pw_or (pt_not (pt_val (pe_callB (call_isi2K K (.ref C)) (by rfl) T.m_isinstance (by decide +kernel) (pa_cons (pv 1) (pa_cons (C8.pe_gc (v := .ref C) rfl ⟨_, U.mT, rfl⟩) pa_nil))))) (pw_or1 (pt_cmpR op_ne (pe_sl (pv 1)) (pe_sl (pv 0)) (nomark _))))) (pss_one ps_never) pss_nil))), ?_⟩
  obtain ⟨p, hp⟩ := U.s_order
  refine ⟨_, rfl, u, n, rs, rfl, hu, fun H1 e1 => ?_⟩
  obtain ⟨a, rfl, dx, vs, r, z1, z2, z3, z4⟩ := hu.mono (kpE e1)
  obtain ⟨a2, rfl, dx2, vs2, r2, y1, y2, y3, y4⟩ := hu2.mono (kpE e1)
  refine ⟨_, rfl, isi_yes y1 U.tc U.ti ⟨_, rfl, iteF ⟨_, rfl, a2, C, dx2, p, vs2, 1, iv n, rfl, y1, U.tc, hp, y2, _, rfl, a, C, dx, p, vs, 1, iv n, rfl, z1, U.tc, hp, z2, rfl, _, rfl, ?_⟩⟩⟩
  rw [decide_eq_true rfl]
  exact iteF (q _ e1)
abbrev s_require_small : Stmt := topS 28
theorem sc_require_small : FnScope ["table", "most"] ["table", "most"] (defScope s_require_small) := ⟨rfl, rfl, rfl, by decide +kernel, rfl, by decide +kernel, by decide +kernel⟩
def sp_small (C : Addr) : Sp := fun vs H Q _ => ∃ (u : V) (n : Nat) (m : Int) (rs : List (List Nat)), vs = [u, .int m] ∧ TabV H C n rs u ∧ (n : Int) ≤ m ∧ ∀ H', Ex H H' → Q .non H'
theorem ok_small (T : Txt K mg) (U : Cls2 K mg C CM) (D : Df K mg "require_small" s_require_small) : Ca P w K mg base 1 "require_small" ["table", "most"] (sp_small C) := by
  refine ca_mk D sc_require_small (fun vs H Q E h => ?_) (fun _ _ _ _ _ _ us hl => match us, hl with | [_, _], _ => rfl) (fun f cdv A outer s H vs Q E hr h => ?_)
  · obtain ⟨u, n, m, rs, rfl, _⟩ := h
    rfl
  obtain ⟨u, n, m, rs, rfl, hu, hm, q⟩ := h
  have nd := sc_require_small.nd
  refine ⟨_, (pss_one (ps_if (pt_cmpR op_gt (pe_sl (pv 0)) (pv 1) (nomark _)) (pss_one ps_never) pss_nil)), ?_⟩
  obtain ⟨p, hp⟩ := U.s_order
  obtain ⟨a, rfl, dx, vs, r, z1, z2, z3, z4⟩ := hu
  refine ⟨_, rfl, a, C, dx, p, vs, 1, iv n, rfl, z1, U.tc, hp, z2, _, rfl, _, _, rfl, rfl, _, rfl, ?_⟩
  rw [decide_eq_false (by omega)]
  exact iteF (q _ (Ex.refl H))
abbrev s_is_parting : Stmt := topS 41
theorem sc_is_parting : FnScope ["table", "value"] ["table", "value"] (defScope s_is_parting) := ⟨rfl, rfl, rfl, by decide +kernel, rfl, by decide +kernel, by decide +kernel⟩
def sp_is_parting (K : PySem.W.Frag) (C : Addr) : Sp := fun vs H Q _ => ∃ (v u : V) (n : Nat) (rs : List (List Nat)) (d : Dt), vs = [v, u] ∧ TabV H C n rs v ∧ Dr K H u d ∧ rs.length = n ∧ 1 ≤ n ∧ n ≤ 1000 ∧ (∀ r ∈ rs, r.length = n) ∧ ∀ b H', Ex H H' → (b = true ↔ partD n rs d) → Q (.bl b) H'
theorem ok_is_parting (T : Txt K mg) (U : Cls2 K mg C CM) (D : Df K mg "is_parting" s_is_parting) (crequire_table : Ca P w K mg base 1 "require_table" ["value"] (sp_require_table C)) (cis_parted : Ca P w K mg base 5 "is_parted" ["rows", "value"] (sp_is_parted K)) :
    Ca P w K mg base 6 "is_parting" ["table", "value"] (sp_is_parting K C) := by
  refine ca_mk D sc_is_parting (fun vs H Q E h => ?_) (fun _ _ _ _ _ _ us hl => match us, hl with | [_, _], _ => rfl) (fun f cdv A outer s H vs Q E hr h => ?_)
  · obtain ⟨v, u, n, rs, d, rfl, _⟩ := h
    rfl
  obtain ⟨v, u, n, rs, d, rfl, hv, hu, h1, h2, h3, h4, q⟩ := h
  have nd := sc_is_parting.nd
  refine ⟨_, (pss_cons (ps_expr (pe_ca crequire_table hr (pa_cons (pv 0) pa_nil)))
    (pss_one (ps_ret (pe_ca cis_parted hr (pa_cons (pe_sl (pv 0)) (pa_cons (pv 1) pa_nil)))))), ?_⟩
  obtain ⟨p, hp⟩ := U.s_rows
  refine ⟨_, rfl, v, n, rs, rfl, hv, fun H1 e1 => ?_⟩
  obtain ⟨a, rfl, dx, vs, r, z1, z2, z3, z4⟩ := hv.mono (kpE e1)
  exact ⟨_, rfl, a, C, dx, p, vs, 3, r, rfl, z1, U.tc, hp, z3, _, rfl, r, u, n, rs, d, rfl, z4, Dr.mono e1 d u hu, h1, h2, h3, h4, fun b H2 e2 hb => q _ _ (e1.trans e2) hb⟩
abbrev s_parting : Stmt := topS 44
theorem sc_parting : FnScope ["table"] ["table"] (defScope s_parting) := ⟨rfl, rfl, rfl, by decide +kernel, rfl, by decide +kernel, by decide +kernel⟩
def sp_parting (C : Addr) : Sp := fun vs H Q _ => ∃ (v : V) (n : Nat) (rs : List (List Nat)), vs = [v] ∧ TabV H C n rs v ∧ 1 ≤ n ∧ n ≤ 7 ∧ RowsIn n rs ∧
  ∀ v H', Ex H H' → ((v = .non ∧ ∀ ts, ¬ IsPart n rs ts) ∨ ∃ ts, IsPart n rs ts ∧ Nuu H' ts v) → Q v H'
theorem ok_parting (T : Txt K mg) (U : Cls2 K mg C CM) (D : Df K mg "parting" s_parting) (crequire_table : Ca P w K mg base 1 "require_table" ["value"] (sp_require_table C)) (crequire_small : Ca P w K mg base 1 "require_small" ["table", "most"] (sp_small C))
    (cparting_of_rows : Ca P w K mg base 10 "parting_of_rows" ["rows"] (sp_parting_of_rows K)) : Ca P w K mg base 11 "parting" ["table"] (sp_parting C) := by
  refine ca_mk D sc_parting (fun vs H Q E h => ?_) (fun _ _ _ _ _ _ us hl => match us, hl with | [_], _ => rfl) (fun f cdv A outer s H vs Q E hr h => ?_)
  · obtain ⟨v, n, rs, rfl, _⟩ := h
    rfl
  obtain ⟨v, n, rs, rfl, hv, h1, h2, h3, q⟩ := h
  have nd := sc_parting.nd
  refine ⟨_, (pss_cons (ps_expr (pe_ca crequire_table hr (pa_cons (pv 0) pa_nil)))
    (pss_cons (ps_expr (pe_ca crequire_small hr (pa_cons (pv 0) (pa_cons (C8.pe_gc rfl T.cMOST_PARTED) pa_nil))))
    (pss_one (ps_ret (pe_ca cparting_of_rows hr (pa_cons (pe_sl (pv 0)) pa_nil)))))), ?_⟩
  obtain ⟨p, hp⟩ := U.s_rows
  refine ⟨_, rfl, v, n, rs, rfl, hv, fun H1 e1 => ⟨_, rfl, v, n, 7, rs, rfl, hv.mono (kpE e1), by omega, fun H2 e2 => ?_⟩⟩
  obtain ⟨a, rfl, dx, vs, r, z1, z2, z3, z4⟩ := hv.mono (kpE (e1.trans e2))
  exact ⟨_, rfl, a, C, dx, p, vs, 3, r, rfl, z1, U.tc, hp, z3, r, n, rs, rfl, z4, h3.1, h1, h2, h3.2, fun v2 H3 e3 hv2 => q _ _ ((e1.trans e2).trans e3) hv2⟩
end
end K65
namespace K65
open PySem PySem.Spec PyProof.Rows L2 SlX
open Evl (Ex)
open PySem.W (Datum Tup)
def cell (mat : List (List Nat)) (r c : Nat) : Nat := (mat.getD r []).getD c 0
def putM (mat : List (List Nat)) (r c x : Nat) : List (List Nat) := mat.set r ((mat.getD r []).set c x)
theorem putM_row {mat : List (List Nat)} {r c x k : Nat} (hr : r < mat.length) : (putM mat r c x).getD k [] = if k = r then (mat.getD r []).set c x else mat.getD k [] := by
  unfold putM
  by_cases h : k = r
  · subst h
    rw [if_pos rfl, List.getD_eq_getElem?_getD, List.getElem?_set_self hr]
    rfl
  · rw [if_neg h, List.getD_eq_getElem?_getD, List.getElem?_set_ne (Ne.symm h), List.getD_eq_getElem?_getD]
theorem putM_cell {mat : List (List Nat)} {r c x k d : Nat} (hr : r < mat.length) (hc : c < (mat.getD r []).length) : cell (putM mat r c x) k d = if k = r ∧ d = c then x else cell mat k d := by
  unfold cell
  rw [putM_row hr]
  by_cases h : k = r
  · subst h
    rw [if_pos rfl]
    by_cases h2 : d = c
    · subst h2
      rw [if_pos ⟨rfl, rfl⟩, List.getD_eq_getElem?_getD, List.getElem?_set_self hc]
      rfl
    · rw [if_neg (fun z => h2 z.2), List.getD_eq_getElem?_getD, List.getElem?_set_ne (Ne.symm h2), ← List.getD_eq_getElem?_getD]
  · rw [if_neg h, if_neg (fun z => h z.1)]
/-- a matrix of n rows, each in a list of its own -/
def MatOk (n : Nat) (mat : List (List Nat)) : Prop := mat.length = n ∧ ∀ r ∈ mat, r.length = n ∧ ∀ x ∈ r, x < n
theorem MatOk.row {n : Nat} {mat : List (List Nat)} (h : MatOk n mat) {r : Nat} (hr : r < n) : (mat.getD r []).length = n := (h.2 _ (getD_mem [] (by rw [h.1]; exact hr))).1
theorem MatOk.put {n : Nat} {mat : List (List Nat)} (h : MatOk n mat) {r c x : Nat} (hr : r < n) (hx : x < n) : MatOk n (putM mat r c x) := by
  refine ⟨by unfold putM; rw [List.length_set]; exact h.1, fun row hrow => ?_⟩
  unfold putM at hrow
  rcases List.mem_or_eq_of_mem_set hrow with z | z
  · exact h.2 row z
  · have h1 := h.2 _ (getD_mem (l := mat) (i := r) [] (by rw [h.1]; exact hr))
    subst z
    refine ⟨by rw [List.length_set]; exact h1.1, fun y hy => ?_⟩
    rcases List.mem_or_eq_of_mem_set hy with z | z
    · exact h1.2 y z
    · omega
def MatAt (H : Hp) (qs : List Addr) (mat : List (List Nat)) : Prop := ∀ (r : Nat) q, qs[r]? = some q → H q = some (.lst ((mat.getD r []).map iv))
theorem MatAt.put {H : Hp} {qs : List Addr} {mat : List (List Nat)} (nd : qs.Nodup) (h : MatAt H qs mat) {r c x : Nat} {q : Addr} (hq : qs[r]? = some q) (hr : r < mat.length) : MatAt (upd H q (.lst (((mat.getD r []).map iv).set c (iv x)))) qs (putM mat r c x) := by
  intro k q' hk
  rw [putM_row hr]
  by_cases hkr : k = r
  · subst hkr
    rw [hq] at hk
    cases hk
    rw [if_pos rfl, upd_same, List.map_set]
  · rw [if_neg hkr, upd_ne (fun z => hkr (by subst z; exact (List.getElem?_inj (List.getElem?_eq_some_iff.mp hk).1 nd).mp (hk.trans hq.symm)))]
    exact h k q' hk
section
variable {P : Program} {w : World} {K : PySem.W.Frag} {mg : Str → Option Value} {base : Heap} {C CM : Addr}
abbrev s_table_of_parting : Stmt := topS 45
theorem sc_table_of_parting : FnScope ["parted_into", "rows", "index", "told", "row", "column"] ["parted_into"] (defScope s_table_of_parting) := ⟨rfl, rfl, rfl, by decide +kernel, rfl, by decide +kernel, by decide +kernel⟩
def sp_table_of_parting (C : Addr) : Sp := fun vs H Q _ => ∃ (v : V) (n : Nat) (rs ts : List (List Nat)), vs = [v] ∧ Nuu H ts v ∧ IsPart n rs ts ∧ 1 ≤ n ∧ n ≤ 24 ∧ ∀ v H', Ex H H' → (∃ mr, MateOf n ts mr ∧ TabV H' C n mr v) → Q v H'
theorem ok_table_of_parting (T : Txt K mg) (D : Df K mg "table_of_parting" s_table_of_parting) (ctable_with : Ca P w K mg base 9 "table_with" ["rows"] (sp_table_with C)) : Ca P w K mg base 10 "table_of_parting" ["parted_into"] (sp_table_of_parting C) := by
  refine ca_mk D sc_table_of_parting (fun vs H Q E h => ?_) (fun _ _ _ _ _ _ us hl => match us, hl with | [_], _ => rfl) (fun f cdv A outer s H vs Q E hr h => ?_)
  · obtain ⟨v, n, rs, ts, rfl, _⟩ := h
    rfl
  obtain ⟨v, n, rs, ts, rfl, hv, hp, h1, h2, q⟩ := h
  have nd := sc_table_of_parting.nd
  refine ⟨_, (pss_cons (ps_setLc (i := 1) (own := [("told", 3)]) rfl nd rfl rfl (sw_true rfl rfl rfl (by decide +kernel)) (pi_tupK K (pv 0)) (blkOk_by (N := ["parted_into", "rows", "index", "told", "row", "column"]) (sc := defScope s_table_of_parting) (by decide +kernel)) (fun _ _ _ _ _ => (pg_name (i := 3) nd rfl (by first | exact Or.inl rfl | exact Or.inr rfl))) (fun _ _ _ _ _ => pts_nil) (fun _ _ _ _ _ => (pe_op op_rep (pe_lst (pa_cons pe_int pa_nil)) (pe_callB (call_len_seqK K) (by rfl) T.m_len (by decide +kernel) (pa_cons (pv 0) pa_nil)))))
    (pss_cons (ps_for PassesOwn.never rfl (pi_enumTK K (by rfl) T.m_enumerate (pa_cons (pv 0) pa_nil)) (pg_tupK K (n := 2) (by rfl) (pgs_cons (pg_name (i := 2) nd rfl (Or.inl rfl)) (pgs_cons (pg_name (i := 3) nd rfl (Or.inl rfl)) pgs_nil)))
      (pss_one (ps_for PassesOwn.never rfl (pi_enumTK K (by rfl) T.m_enumerate (pa_cons (pv 3) pa_nil)) (pg_tupK K (n := 2) (by rfl) (pgs_cons (pg_name (i := 4) nd rfl (Or.inl rfl)) (pgs_cons (pg_name (i := 5) nd rfl (Or.inl rfl)) pgs_nil)))
      (pss_one (ps_asg (pv 2) (pg_sub (pe_ix (ix_listK K) (pv 1) (pv 4) (fun _ _ => rfl)) (pv 5) set_list))))))
    (pss_one (ps_ret (pe_ca ctable_with hr (pa_cons (pe_callTy (call_tuple_ofK K) (by rfl) T.m_tuple (by decide +kernel) (pa_cons (pe_lc (own := [("row", 4)]) rfl nd (pi_listK K (pv 1)) (blkOk_by (N := ["parted_into", "rows", "index", "told", "row", "column"]) (sc := defScope s_table_of_parting) (by decide +kernel)) (fun _ _ _ _ _ => (pg_name (i := 4) nd rfl (by first | exact Or.inl rfl | exact Or.inr rfl))) (fun _ _ _ _ _ => pts_nil) (fun _ _ _ _ _ => (pe_callTy (call_tuple_ofK K) (by rfl) T.m_tuple (by decide +kernel) (pa_cons (pv 4) pa_nil)))) pa_nil)) pa_nil)))))), ?_⟩
  obtain ⟨a, us, rfl, ha, hus⟩ := id hv
  have hl := hus.len
  have hln := hp.1
  refine ⟨_, rfl, a, rfl, ⟨_, Evl.st_of ha⟩, fun D hD => ?_⟩
  refine lc_fresh walk_tup hD ((List.replicate n 0).map iv) (by omega) (fun H3 e => Evl.st_of (e _ _ ha)) (fun i x H1 H2 Kt hi e1 hx k => ?_) (fun qs H1 e1 hq hql hnd hDq hall => ?_)
  · obtain ⟨rfl, hx⟩ := hx
    refine ⟨rfl, (by show 1 ≤ sizeLine; decide), fun l hlz => ⟨_, rfl, a, us, rfl, .inr (Evl.st_of (Ex.new hlz _ _ (e1 _ _ ha))), l, _, _, rfl, rfl, upd_same, by omega, by omega, sz_le (by simp; omega), fun p hp2 => k p _ (Evl.fresh_back (Ex.new hlz) hp2) ((Ex.new hlz).trans (Ex.new hp2)) ?_⟩⟩
    rw [upd_same]
    have : ((us.length : Nat) : Int).toNat = n := by omega
    rw [this]
    simp
    exact .inr rfl
  · have hqn : qs.length = n := by omega
    have hm0 : MatAt H1 qs (List.replicate n (List.replicate n 0)) := fun r q hr => by
      have hlt := (List.getElem?_eq_some_iff.mp hr).1
      rw [(hall q (List.mem_of_getElem? hr)).1, List.getD_eq_getElem?_getD, List.getElem?_replicate, if_pos (by omega)]
      rfl
    have hok0 : MatOk n (List.replicate n (List.replicate n 0)) := ⟨by simp, fun r hr => by
      rw [List.eq_of_mem_replicate hr]
      exact ⟨by simp, fun x hx => by rw [List.eq_of_mem_replicate hx]; omega⟩⟩
    refine ⟨_, rfl, a, us, rfl, Evl.st_of (e1 _ _ ha), ?_⟩
    refine for_it walk_enumT (fun i σ H' => Ex H H' ∧ H' D = some (.lst (qs.map V.ref)) ∧ (∃ mat, MatOk n mat ∧ MatAt H' qs mat ∧ ∀ i' r, i' < i → r < n → cell mat r ((ts.getD i' []).getD r 0) = i') ∧ ∃ o1 o2 o3 o4, σ = [some (.ref a), some (.ref D), o1, o2, o3, o4])
      ⟨e1, hq, ⟨_, hok0, hm0, fun i' r z => absurd z (Nat.not_lt_zero _)⟩, none, none, none, none, rfl⟩ (fun i σ H' _ pv => Evl.st_of (pv.1 _ _ ha)) (fun i x σ H3 H4 hi pv y => ?_) (fun σ H3 pv => ?_)
    · obtain ⟨e3, hq3, ⟨mat, hok, hat, hcell⟩, o1, o2, o3, o4, rfl⟩ := pv
      obtain ⟨T1, x1, x2, rfl, hT1, rfl, hx1, hx2⟩ := y
      cases hx1
      have hin : i < n := by omega
      obtain ⟨t, ht, ta, rfl, hta⟩ := hus.get hx2
      have htd : ts.getD i [] = t := getD_ix ht
      have hcr := part_cross hp hin
      rw [htd] at hcr
      have htl := hcr.1.1
      have e4 := Ex.new (o := .tup [.int (i : Int), .ref ta]) hT1
      have hta4 := e4 _ _ (e3 _ _ hta)
      have html : (t.map iv).length = n := by rw [List.length_map]; exact htl
      refine ⟨T1, _, rfl, Evl.st_of upd_same, rfl, _, _, rfl, _, _, rfl, rfl, ?_⟩
      refine ⟨_, rfl, ta, _, rfl, Evl.st_of hta4, ?_⟩
      refine for_it walk_enumT (fun j σ H' => Ex H H' ∧ H' D = some (.lst (qs.map V.ref)) ∧ (∃ mat, MatOk n mat ∧ MatAt H' qs mat ∧ (∀ i' r, i' < i → r < n → cell mat r ((ts.getD i' []).getD r 0) = i') ∧ ∀ r, r < j → cell mat r (t.getD r 0) = i) ∧ ∃ o3 o4, σ = [some (.ref a), some (.ref D), some (iv i), some (.ref ta), o3, o4])
        ⟨e3.trans e4, e4 _ _ hq3, ⟨mat, hok, fun r q hr => e4 _ _ (hat r q hr), hcell, fun r z => absurd z (Nat.not_lt_zero _)⟩, o3, o4, rfl⟩ (fun j σ H' _ pv => Evl.st_of (pv.1 _ _ hta)) (fun j x σ H5 H6 hj pv y => ?_) (fun σ H5 pv => ?_)
      · obtain ⟨e5, hq5, ⟨mat2, hok2, hat2, hcell2, hrow2⟩, o3, o4, rfl⟩ := pv
        obtain ⟨T2, y1, y2, rfl, hT2, rfl, hy1, hy2⟩ := y
        cases hy1
        obtain ⟨c, hc, rfl⟩ := iv_ix hy2
        have hjn : j < n := by omega
        have hcn : c < n := hcr.1.2.2 c (List.mem_of_getElem? hc)
        have hcd : t.getD j 0 = c := getD_ix hc
        obtain ⟨qj, hqj⟩ : ∃ qj, qs[j]? = some qj := ⟨qs[j], List.getElem?_eq_getElem (by omega)⟩
        have hqjm := List.mem_of_getElem? hqj
        have e6 := Ex.new (o := .tup [.int (j : Int), iv c]) hT2
        have hrl := hok2.row hjn
        have hjl : j < mat2.length := by rw [hok2.1]; exact hjn
        have hat6 : MatAt (upd H5 T2 (.tup [.int (j : Int), iv c])) qs mat2 := fun r q hr => e6 _ _ (hat2 r q hr)
        refine ⟨T2, _, rfl, Evl.st_of upd_same, rfl, _, _, rfl, _, _, rfl, rfl, ?_⟩
        refine ⟨_, rfl, _, rfl, _, rfl, ixL_v (e6 _ _ hq5) (by rw [List.getElem?_map, hqj]; rfl) ⟨_, rfl, qj, _, _, c, rfl, rfl, hat6 j qj hqj, ixN_n (by rw [List.length_map, hrl]; exact hcn), ?_⟩⟩
        refine ⟨Ex.mut (e5.trans e6) (hall qj hqjm).2, ?_, ⟨putM mat2 j c i, hok2.put hjn hin, hat6.put hnd hqj hjl, fun i' r hi' hr => ?_, fun r hr => ?_⟩, _, _, rfl⟩
        · rw [upd_ne (fun z => hDq (by rw [z]; exact hqjm))]
          exact e6 _ _ hq5
        · rw [putM_cell hjl (by rw [hrl]; exact hcn), if_neg]
          · exact hcell2 i' r hi' hr
          · rintro ⟨rfl, z⟩
            have := part_ne hp (i := i') (j := i) (r := r) (by omega) hin hr (by rw [z, htd, hcd])
            omega
        · rw [putM_cell hjl (by rw [hrl]; exact hcn)]
          by_cases hrj : r = j
          · subst hrj
            rw [if_pos ⟨rfl, hcd⟩]
          · rw [if_neg (fun z => hrj z.1)]
            exact hrow2 r (by omega)
      · obtain ⟨e5, hq5, ⟨mat2, hok2, hat2, hcell2, hrow2⟩, o3, o4, rfl⟩ := pv
        refine ⟨e5, hq5, ⟨mat2, hok2, hat2, fun i' r hi' hr => ?_⟩, _, _, _, _, rfl⟩
        by_cases hii : i' = i
        · subst hii
          rw [htd]
          exact hrow2 r (by rw [html]; exact hr)
        · exact hcell2 i' r (by omega) hr
    · obtain ⟨e3, hq3, ⟨mat, hok, hat, hcell⟩, o1, o2, o3, o4, rfl⟩ := pv
      refine ⟨_, rfl, D, rfl, ⟨_, Evl.sq_of hq3⟩, fun D2 hD2 => ?_⟩
      have hqml : (qs.map V.ref).length = n := by rw [List.length_map]; exact hqn
      refine lc_kp walk_list hD2 (fun i y H' => ∀ r, mat[i]? = some r → Nu H' r y) (by omega) (fun H5 e => Evl.sq_of (e _ _ hq3)) (fun i y _ _ e z r hr => (z r hr).mono e) (fun i x H5 H6 Kt hi e5 hx k => ?_) (fun ys H5 e5 hy a2 => ?_)
      · obtain ⟨rfl, hx⟩ := hx
        rw [List.getElem?_map] at hx
        cases hz : qs[i]? with
        | none => rw [hz] at hx; cases hx
        | some qi =>
          rw [hz] at hx
          cases hx
          refine ⟨rfl, _, rfl, qi, _, rfl, .inl ⟨Evl.sq_of (e5 _ _ (hat i qi hz)), fun p hp2 => k _ _ (Ex.new hp2) fun r hr => ⟨p, rfl, ?_⟩⟩⟩
          rw [upd_same, getD_ix hr]
      · refine ⟨D2, ys, rfl, .inl ⟨Evl.sq_of hy, fun p hp2 => ?_⟩⟩
        have eP := Ex.new (o := .tup ys) hp2
        rw [hqml, ← hok.1] at a2
        refine ⟨.ref p, n, mat, rfl, ⟨p, ys, rfl, upd_same, A2Nu.mono (kpE eP) (A2_range a2)⟩, h1, h2, hok, fun v H7 e7 hv7 => q _ _ (((e3.trans e5).trans eP).trans e7) ⟨mat, ⟨hok.1, hok.2, fun i r hi hr => hcell i r (by omega) hr⟩, hv7⟩⟩
abbrev s_mate : Stmt := topS 46
theorem sc_mate : FnScope ["table", "found"] ["table"] (defScope s_mate) := ⟨rfl, rfl, rfl, by decide +kernel, rfl, by decide +kernel, by decide +kernel⟩
def sp_mate (C : Addr) : Sp := fun vs H Q _ => ∃ (v : V) (n : Nat) (rs : List (List Nat)), vs = [v] ∧ TabV H C n rs v ∧ 1 ≤ n ∧ n ≤ 7 ∧ RowsIn n rs ∧
  ∀ v H', Ex H H' → ((v = .non ∧ ∀ ts, ¬ IsPart n rs ts) ∨ ∃ ts mr, IsPart n rs ts ∧ MateOf n ts mr ∧ TabV H' C n mr v) → Q v H'
theorem ok_mate (T : Txt K mg) (U : Cls2 K mg C CM) (D : Df K mg "mate" s_mate) (crequire_table : Ca P w K mg base 1 "require_table" ["value"] (sp_require_table C)) (crequire_small : Ca P w K mg base 1 "require_small" ["table", "most"] (sp_small C))
    (cparting_of_rows : Ca P w K mg base 10 "parting_of_rows" ["rows"] (sp_parting_of_rows K)) (ctable_of_parting : Ca P w K mg base 10 "table_of_parting" ["parted_into"] (sp_table_of_parting C)) : Ca P w K mg base 11 "mate" ["table"] (sp_mate C) := by
  refine ca_mk D sc_mate (fun vs H Q E h => ?_) (fun _ _ _ _ _ _ us hl => match us, hl with | [_], _ => rfl) (fun f cdv A outer s H vs Q E hr h => ?_)
  · obtain ⟨v, n, rs, rfl, _⟩ := h
    rfl
  obtain ⟨v, n, rs, rfl, hv, h1, h2, h3, q⟩ := h
  have nd := sc_mate.nd
  refine ⟨_, (pss_cons (ps_expr (pe_ca crequire_table hr (pa_cons (pv 0) pa_nil)))
    (pss_cons (ps_expr (pe_ca crequire_small hr (pa_cons (pv 0) (pa_cons (C8.pe_gc rfl T.cMOST_PARTED) pa_nil))))
    (pss_cons (ps_set (i := 1) nd rfl (Or.inl rfl) (pe_ca cparting_of_rows hr (pa_cons (pe_sl (pv 0)) pa_nil)))
    (pss_one (ps_ret (pe_ifExp (pt_cmpR op_isN (pv 1) pe_non (nomark _)) pe_non (pe_ca ctable_of_parting hr (pa_cons (pv 1) pa_nil)))))))), ?_⟩
  obtain ⟨p, hp⟩ := U.s_rows
  refine ⟨_, rfl, v, n, rs, rfl, hv, fun H1 e1 => ⟨_, rfl, v, n, 7, rs, rfl, hv.mono (kpE e1), by omega, fun H2 e2 => ?_⟩⟩
  obtain ⟨a, rfl, dx, vs, r, z1, z2, z3, z4⟩ := hv.mono (kpE (e1.trans e2))
  refine ⟨_, rfl, a, C, dx, p, vs, 3, r, rfl, z1, U.tc, hp, z3, r, n, rs, rfl, z4, h3.1, h1, h2, h3.2, fun v2 H3 e3 hv2 => ?_⟩
  have e13 := (e1.trans e2).trans e3
  refine ⟨_, rfl, rfl, _, rfl, ?_⟩
  rcases hv2 with ⟨rfl, hn⟩ | ⟨ts, hts, hv2⟩
  · exact iteT (q _ _ e13 (.inl ⟨rfl, hn⟩))
  · obtain ⟨va, vus, rfl, hva⟩ := id hv2
    refine iteF ⟨_, rfl, _, n, rs, ts, rfl, hv2, hts, h1, by omega, fun v4 H4 e4 h4 => ?_⟩
    obtain ⟨mr, hm, ht⟩ := h4
    exact q _ _ (e13.trans e4) (.inr ⟨ts, mr, hts, hm, ht⟩)
end
end K65
namespace K65
open PySem PySem.Spec PyProof.Rows L2 SlX
open Evl (Ex)
open PySem.W (Datum Tup)
theorem walk_zipN {K : PySem.W.Frag} {a b : Addr} {xs ys : List V} {n : Nat} (hn : n = min xs.length ys.length) : Walk (RZ.ItzT K a b) n (fun H => SqT K H a xs ∧ SqT K H b ys) (YPair (fun i => xs[i]?) (fun i => ys[i]?)) := walk_zipT hn
section
variable {P : Program} {w : World} {K : PySem.W.Frag} {mg : Str → Option Value} {base : Heap} {C CM : Addr}
abbrev s_are_rows_mates : Stmt := topS 37
theorem sc_are_rows_mates : FnScope ["one", "other", "pairs", "left", "right", "pair"] ["one", "other"] (defScope s_are_rows_mates) := ⟨rfl, rfl, rfl, by decide +kernel, rfl, by decide +kernel, by decide +kernel⟩
def Differ (n : Nat) (rs mr : List (List Nat)) : Prop := ∀ p q : Nat × Nat, p.1 < n → p.2 < n → q.1 < n → q.2 < n → pairM rs mr p = pairM rs mr q → p = q
def sp_are_rows_mates : Sp := fun vs H Q _ => ∃ (v v2 : V) (n : Nat) (rs mr : List (List Nat)), vs = [v, v2] ∧ Nuu H rs v ∧ Nuu H mr v2 ∧ n ≤ 7 ∧ rs.length = n ∧ mr.length = n ∧ (∀ r ∈ rs, r.length = n) ∧ (∀ r ∈ mr, r.length = n) ∧ Differ n rs mr ∧ ∀ H', Ex H H' → Q (.bl true) H'
def before (i j : Nat) (p : Nat × Nat) : Prop := p.1 < i ∨ (p.1 = i ∧ p.2 < j)
/-- what the set holds, at (i, j) -/
def SetAt (n : Nat) (rs mr : List (List Nat)) (i j : Nat) (H : Hp) (D : Addr) (L : List (Addr × List Int)) : Prop :=
  L.length = i * n + j ∧ (∀ q ∈ L, q.1 ≠ D ∧ H q.1 = some (.tup (q.2.map V.int)) ∧ ∃ p : Nat × Nat, before i j p ∧ p.2 < n ∧ q.2 = zs (pairM rs mr p))
theorem ok_are_rows_mates (T : Txt K mg) (D : Df K mg "are_rows_mates" s_are_rows_mates) : Ca P w K mg base 1 "are_rows_mates" ["one", "other"] sp_are_rows_mates := by
  refine ca_mk D sc_are_rows_mates (fun vs H Q E h => ?_) (fun _ _ _ _ _ _ us hl => match us, hl with | [_, _], _ => rfl) (fun f cdv A outer s H vs Q E hr h => ?_)
  · obtain ⟨v, v2, n, rs, mr, rfl, _⟩ := h
    rfl
  obtain ⟨v, v2, n, rs, mr, rfl, hv, hv2, hn, h1, h2, h3, h4, hd, q⟩ := h
  have nd := sc_are_rows_mates.nd
  refine ⟨_, (pss_cons (ps_setSc2G (i := 2) (repT _ (room2 hr)) (own := [("left", 3), ("right", 4), ("pair", 5)]) (vs1 := [5]) rfl nd rfl rfl (sw_trueS rfl rfl rfl (by decide +kernel)) (pi_zipAK K (by rfl) T.m_zip (pa_cons (pv 0) (pa_cons (pv 1) pa_nil))) (blkOk_by (N := ["one", "other", "pairs", "left", "right", "pair"]) (sc := defScope s_are_rows_mates) (by decide +kernel)) (by decide) (fun _ _ _ _ _ => (pg_tupK K (n := 2) (by rfl) (pgs_cons (pg_name (i := 3) nd rfl (by first | exact Or.inl rfl | exact Or.inr rfl)) (pgs_cons (pg_name (i := 4) nd rfl (by first | exact Or.inl rfl | exact Or.inr rfl)) pgs_nil)))) (fun _ _ _ _ _ => pts_nil) (fun _ _ _ _ _ => (pi_zipNK K (by rfl) T.m_zip (pa_cons (pv 3) (pa_cons (pv 4) pa_nil)))) (fun _ _ _ _ _ => (pg_name (i := 5) nd rfl (by first | exact Or.inl rfl | exact Or.inr rfl))) (fun _ _ _ _ _ => pts_nil) (fun _ _ _ _ _ => (pv 5)))
    (pss_one (ps_ret (pe_cmpR op_eq (pe_callB call_len_sT (by rfl) T.m_len (by decide +kernel) (pa_cons (pv 2) pa_nil)) (pe_op op_mul (pe_callB (call_len_seqK K) (by rfl) T.m_len (by decide +kernel) (pa_cons (pv 0) pa_nil)) (pe_callB (call_len_seqK K) (by rfl) T.m_len (by decide +kernel) (pa_cons (pv 0) pa_nil))) (nomark _))))), ?_⟩
  obtain ⟨a, us, rfl, ha, hus⟩ := id hv
  obtain ⟨b, us2, rfl, hb, hus2⟩ := id hv2
  have hl := hus.len
  have hl2 := hus2.len
  have hnn : n * n ≤ 7 * 7 := Nat.mul_le_mul hn hn
  refine ⟨_, rfl, _, rfl, a, b, us, us2, rfl, .inr ⟨Evl.st_of ha, Evl.st_of hb, fun D hD => ?_⟩⟩
  have hW := walk_zipT (K := K) (a := a) (b := b) (xs := us) (ys := us2) (n := n) (by omega)
  refine ⟨fun i m H' => m = n - i ∧ i ≤ n ∧ Ex H H' ∧ ∃ L, H' D = some (soT P w D L) ∧ SetAt n rs mr i 0 H' D L, ⟨n, by simp, Nat.zero_le _, Ex.new hD, [], upd_same, by simp [SetAt]⟩, ?_⟩
  rintro i m H1 ⟨rfl, hi, e1, L, hL, hS⟩
  have g1 : SqT K H1 a us ∧ SqT K H1 b us2 := ⟨Evl.st_of (e1 _ _ ha), Evl.st_of (e1 _ _ hb)⟩
  by_cases hlt : i < n
  · refine .inr ⟨hW.goes i H1 hlt g1, fun H' => i + 1 ≤ n ∧ Ex H H' ∧ ∃ L, H' D = some (soT P w D L) ∧ SetAt n rs mr (i + 1) 0 H' D L, fun H' p => ⟨n - (i + 1), by omega, rfl, p⟩, fun x H' y => ?_⟩
    obtain ⟨T1, x1, x2, rfl, hT1, rfl, hx1, hx2⟩ := hW.yields i H1 x H' hlt g1 y
    obtain ⟨r1, hr1, ra, rfl, hra⟩ := hus.get hx1
    obtain ⟨r2, hr2, rb, rfl, hrb⟩ := hus2.get hx2
    have l1 : r1.length = n := h3 r1 (List.mem_of_getElem? hr1)
    have l2 : r2.length = n := h4 r2 (List.mem_of_getElem? hr2)
    have eT := Ex.new (o := .tup [.ref ra, .ref rb]) hT1
    have e2 := e1.trans eT
    have hra2 := e2 _ _ hra
    have hrb2 := e2 _ _ hrb
    refine ⟨T1, _, rfl, Evl.st_of upd_same, rfl, _, _, rfl, _, _, rfl, rfl, rfl, ?_⟩
    refine ⟨_, rfl, _, rfl, ra, rb, _, _, rfl, Evl.st_of hra2, Evl.st_of hrb2, ?_⟩
    have hW2 := walk_zipT (K := K) (a := ra) (b := rb) (xs := r1.map iv) (ys := r2.map iv) (n := n) (by simp [l1, l2])
    refine ⟨fun j m H' => m = n - j ∧ j ≤ n ∧ Ex H H' ∧ ∃ L, H' D = some (soT P w D L) ∧ SetAt n rs mr i j H' D L, ⟨n, by simp, Nat.zero_le _, e2, L, eT _ _ hL, hS.1, fun q hq => ?_⟩, ?_⟩
    · obtain ⟨z1, z2, z3⟩ := hS.2 q hq
      exact ⟨z1, eT _ _ z2, z3⟩
    rintro j m H2 ⟨rfl, hj, e3, L2, hL2, hS2⟩
    have g2 : SqT K H2 ra (r1.map iv) ∧ SqT K H2 rb (r2.map iv) := ⟨Evl.st_of (e3 _ _ hra), Evl.st_of (e3 _ _ hrb)⟩
    by_cases hlt2 : j < n
    · refine .inr ⟨hW2.goes j H2 hlt2 g2, fun H' => j + 1 ≤ n ∧ Ex H H' ∧ ∃ L, H' D = some (soT P w D L) ∧ SetAt n rs mr i (j + 1) H' D L, fun H' p => ⟨n - (j + 1), by omega, rfl, p⟩, fun x H' y => ?_⟩
      obtain ⟨T2, y1, y2, rfl, hT2, rfl, hy1, hy2⟩ := hW2.yields j H2 x H' hlt2 g2 y
      obtain ⟨m1, hm1, rfl⟩ := iv_ix hy1
      obtain ⟨m2, hm2, rfl⟩ := iv_ix hy2
      have eU := Ex.new (o := .tup [iv m1, iv m2]) hT2
      have hTD : T2 ≠ D := Ne.symm (ne_of_none hL2 hT2)
      have hpm : pairM rs mr (i, j) = [m1, m2] := by
        unfold pairM
        rw [getD_ix hr1, getD_ix hr2, getD_ix hm1, getD_ix hm2]
      have hk : (zs (pairM rs mr (i, j))).map V.int = [iv m1, iv m2] := by rw [hpm]; rfl
      have hnew : zs (pairM rs mr (i, j)) ∉ L2.map (·.2) := fun z => by
        obtain ⟨q, hq, hqe⟩ := List.mem_map.mp z
        obtain ⟨_, _, p, hp1, hp2, hp3⟩ := hS2.2 q hq
        rw [hp3] at hqe
        have hp4 : p.1 < n := by rcases hp1 with z | z <;> omega
        have := hd p (i, j) hp4 hp2 hlt hlt2 (zs_inj hqe)
        subst this
        rcases hp1 with z | z
        · exact absurd z (Nat.lt_irrefl i)
        · exact absurd z.2 (Nat.lt_irrefl j)
      have hLL : ∀ q ∈ L2, (upd H2 T2 (.tup [iv m1, iv m2])) q.1 = some (.tup (q.2.map V.int)) := fun q hq => eU _ _ (hS2.2 q hq).2.1
      have hin : i * n + j + 1 ≤ n * n := by
        have : (i + 1) * n ≤ n * n := Nat.mul_le_mul_right n hlt
        rw [Nat.succ_mul] at this
        omega
      refine ⟨rfl, _, rfl, L2, eU _ _ hL2, ⟨T2, zs (pairM rs mr (i, j)), rfl, Evl.st_of (by rw [upd_same, hk]), fun q hq => Evl.st_of (hLL q hq), by rw [hS2.1]; omega⟩, ?_⟩
      rintro L' ⟨x', hx', hall⟩
      cases hx'
      have hno := (hall (zs (pairM rs mr (i, j))) (Evl.st_of (by rw [upd_same, hk]))).2
      have hperm := hno hnew
      refine ⟨hlt2, Ex.mut (e3.trans eU) hD, L', upd_same, ?_, fun q hq => ?_⟩
      · rw [hperm.length_eq, List.length_cons, hS2.1]
        omega
      · rcases List.mem_cons.mp (hperm.mem_iff.mp hq) with rfl | hq
        · refine ⟨hTD, by rw [upd_ne hTD, upd_same, hk], (i, j), .inr ⟨rfl, Nat.lt_succ_self j⟩, hlt2, rfl⟩
        · obtain ⟨z1, z2, p, z3, z4, z5⟩ := hS2.2 q hq
          refine ⟨z1, by rw [upd_ne z1]; exact eU _ _ z2, p, ?_, z4, z5⟩
          rcases z3 with z | z
          · exact .inl z
          · exact .inr ⟨z.1, by omega⟩
    · have ej : j = n := by omega
      refine .inl ⟨by subst ej; exact hW2.stops H2 g2, hlt, e3, L2, hL2, ?_, fun q hq => ?_⟩
      · rw [hS2.1, ej, Nat.succ_mul]
        rfl
      · obtain ⟨z1, z2, p, z3, z4, z5⟩ := hS2.2 q hq
        refine ⟨z1, z2, p, .inl ?_, z4, z5⟩
        rcases z3 with z | z <;> omega
  · have ei : i = n := by omega
    refine .inl ⟨by subst ei; exact hW.stops H1 g1, ?_⟩
    refine ⟨_, rfl, D, L, rfl, hL, _, rfl, a, us, rfl, .inr (Evl.st_of (e1 _ _ ha)), _, rfl, a, us, rfl, .inr (Evl.st_of (e1 _ _ ha)), _, _, rfl, rfl, .inl ⟨by omega, by omega⟩, rfl, ?_⟩
    have : (V.int (L.length : Int)) = V.int ((us.length : Int) * (us.length : Int)) := by
      rw [hS.1, ei, ← hl, h1, Nat.add_zero]
      rfl
    have hdd := decide_eq_true this
    show Q (.bl (decide (V.int (L.length : Int) = V.int ((us.length : Int) * (us.length : Int))))) H1
    rw [hdd]
    exact q _ e1
end
end K65
namespace K65
open PySem PySem.Spec PyProof.Rows L2 SlX
open Evl (Ex)
open PySem.W (Datum Tup)
theorem fmod_nat (a b : Nat) : Int.fmod (a : Int) (b : Int) = ((a % b : Nat) : Int) := by
  rw [Int.fmod_eq_emod_of_nonneg _ (by omega)]
  rfl
/-- a class called by a local name -/
def tMkL (i : Nat) (C : Addr) (sp : Sp) (t : TA) : TE := fun σ H Q => σ[i]? = some (some (.ref C)) ∧ tMk C sp t σ H Q
theorem pe_mkL {X : Cx} {k j i : Nat} {x y : Str} {C : Addr} {ps : List Str} {sp : Sp} {e : Expr} {es : List Expr} {t : TA} {p pos : Pos} (M : CaMk X.prog X.w X.K X.mg X.base k y C ps sp) (hr : Room j X.A) (hN : X.N[i]? = some x) (ha : PA X (e :: es) t)
    (hv : Vis X.env.scope x := by first | exact Or.inl rfl | exact Or.inr (Or.inl rfl)) (hk : k + 1 ≤ j := by first | decide | omega)
    (hd : (x == ("__debug__" : Str)) = false := by decide) (hcd : (x == ("__classdict__" : Str)) = false := by decide)
    (he : starEach (e :: es) X.env = (false, eval e X.env) :: starEach es X.env := by rfl) (hpl : (backTo pos (starEach es X.env)).any (·.1) = false := by rfl) :
    PE X (.Call (.Name x p) (e :: es) [] pos) (tMkL i C sp t) := by
  obtain ⟨f, fd, M, F, hm, hb⟩ := M
  refine ⟨fun pins s σ H Q I h => ?_⟩
  obtain ⟨hs, ht⟩ := h
  refine wpAny_Call_Name_kw (thn ((pe_var (pos := p) hN hv hd hcd).run pins s σ H (fun v H1 => v = .ref C ∧ H1 = H) I ⟨.ref C, hs, rfl, rfl⟩) fun u s1 ⟨v, H1, I1, r1, q1⟩ => ?_)
  obtain ⟨rfl, rfl⟩ := q1
  cases (show u = Value.ref C from r1)
  refine PySem.W.callWith_K (h₀ := X.base) I.ok.mod.kin M.kp (thn (ha.run pos pins s1 σ _ _ I1 ht) fun us s2 ⟨vs, H2, I2, r, q⟩ => ⟨I2.kIn, ?_⟩) he hpl
  exact run_make (ds := []) (dvs := []) (E := E0) M F (hr.mono hk) hb .nil pass0 I2 r (fun x dx h1 h2 h3 => by rw [List.append_nil]; exact q x dx h1 h2 h3)
section
variable {P : Program} {w : World} {K : PySem.W.Frag} {mg : Str → Option Value} {base : Heap} {C CM : Addr}
abbrev s_mated : Stmt := topS 36
theorem sc_mated : FnScope ["one", "other"] ["one", "other"] (defScope s_mated) := ⟨rfl, rfl, rfl, by decide +kernel, rfl, by decide +kernel, by decide +kernel⟩
def sp_mated (C : Addr) : Sp := fun vs H Q _ => ∃ (v v2 : V) (n : Nat) (rs mr : List (List Nat)), vs = [v, v2] ∧ TabV H C n rs v ∧ TabV H C n mr v2 ∧ n ≤ 7 ∧ rs.length = n ∧ mr.length = n ∧ (∀ r ∈ rs, r.length = n) ∧ (∀ r ∈ mr, r.length = n) ∧ Differ n rs mr ∧ ∀ H', Ex H H' → Q (.bl true) H'
theorem ok_mated (T : Txt K mg) (U : Cls2 K mg C CM) (D : Df K mg "mated" s_mated) (care_rows_mates : Ca P w K mg base 1 "are_rows_mates" ["one", "other"] sp_are_rows_mates) : Ca P w K mg base 2 "mated" ["one", "other"] (sp_mated C) := by
  refine ca_mk D sc_mated (fun vs H Q E h => ?_) (fun _ _ _ _ _ _ us hl => match us, hl with | [_, _], _ => rfl) (fun f cdv A outer s H vs Q E hr h => ?_)
  · obtain ⟨v, v2, n, rs, mr, rfl, _⟩ := h
    rfl
  obtain ⟨v, v2, n, rs, mr, rfl, hv, hv2, hn, h1, h2, h3, h4, hd, q⟩ := h
  have nd := sc_mated.nd
  refine ⟨_, (pss_one (ps_ret (pe_ca care_rows_mates hr (pa_cons (pe_sl (pv 0)) (pa_cons (pe_sl (pv 1)) pa_nil))))), ?_⟩
  obtain ⟨p, hp⟩ := U.s_rows
  obtain ⟨a, rfl, dx, vs, r, z1, z2, z3, z4⟩ := hv
  obtain ⟨a2, rfl, dx2, vs2, r2, y1, y2, y3, y4⟩ := hv2
  exact ⟨_, rfl, a, C, dx, p, vs, 3, r, rfl, z1, U.tc, hp, z3, _, rfl, a2, C, dx2, p, vs2, 3, r2, rfl, y1, U.tc, hp, y3, r, r2, n, rs, mr, rfl, z4, y4, hn, h1, h2, h3, h4, hd, fun H1 e1 => q _ e1⟩
abbrev s_are_mates : Stmt := topS 38
theorem sc_are_mates : FnScope ["one", "other"] ["one", "other"] (defScope s_are_mates) := ⟨rfl, rfl, rfl, by decide +kernel, rfl, by decide +kernel, by decide +kernel⟩
theorem ok_are_mates (T : Txt K mg) (U : Cls2 K mg C CM) (D : Df K mg "are_mates" s_are_mates) (crequire_two_tables : Ca P w K mg base 2 "require_two_tables" ["one", "other"] (sp_two C)) (cmated : Ca P w K mg base 2 "mated" ["one", "other"] (sp_mated C)) :
    Ca P w K mg base 3 "are_mates" ["one", "other"] (sp_mated C) := by
  refine ca_mk D sc_are_mates (fun vs H Q E h => ?_) (fun _ _ _ _ _ _ us hl => match us, hl with | [_, _], _ => rfl) (fun f cdv A outer s H vs Q E hr h => ?_)
  · obtain ⟨v, v2, n, rs, mr, rfl, _⟩ := h
    rfl
  obtain ⟨v, v2, n, rs, mr, rfl, hv, hv2, hn, h1, h2, h3, h4, hd, q⟩ := h
  have nd := sc_are_mates.nd
  refine ⟨_, (pss_cons (ps_expr (pe_ca crequire_two_tables hr (pa_cons (pv 0) (pa_cons (pv 1) pa_nil))))
    (pss_one (ps_ret (pe_ca cmated hr (pa_cons (pv 0) (pa_cons (pv 1) pa_nil)))))), ?_⟩
  exact ⟨_, rfl, _, rfl, v, v2, n, rs, mr, rfl, hv, hv2, fun H1 e1 => ⟨_, rfl, _, rfl, v, v2, n, rs, mr, rfl, hv.mono (kpE e1), hv2.mono (kpE e1), hn, h1, h2, h3, h4, hd, fun H2 e2 => q _ (e1.trans e2)⟩⟩
abbrev s_Table_ring : Stmt := inClass (topS 24) 2
theorem sc_Table_ring : FnScope ["cls", "order", "row", "column"] ["cls", "order"] (defScope s_Table_ring) := ⟨rfl, rfl, rfl, by decide +kernel, rfl, by decide +kernel, by decide +kernel⟩
def sp_ring (C : Addr) : Sp := fun vs H Q _ => ∃ (n : Nat), vs = [.ref C, iv n] ∧ 1 ≤ n ∧ n ≤ 24 ∧ ∀ v H', Ex H H' → TabV H' C n (ringM n) v → Q v H'
theorem ok_ring {g : Addr} (T : Txt K mg) (D : ∃ fd, Fun K "ring" "Table.ring" s_Table_ring g fd) (crequire_order : Ca P w K mg base 4 "require_order" ["value"] (sp_require_order K)) (cTable : CaMk P w K mg base 7 "Table" C ["self", "rows"] (sp_Table_init C CM)) :
    FnR P w K mg base CX0 9 g (sp_ring C) := by
  refine fnr_mk D sc_Table_ring (fun vs H Q E h => ?_) (fun _ _ _ _ _ _ us hl => match us, hl with | [_, _], _ => rfl) (fun f cdv A outer s H vs Q E hr h => ?_)
  · obtain ⟨n, rfl, _⟩ := h
    rfl
  obtain ⟨n, rfl, h1, h2, q⟩ := h
  have nd := sc_Table_ring.nd
  refine ⟨_, (pss_cons (ps_expr (pe_ca crequire_order hr (pa_cons (pv 1) pa_nil)))
    (pss_one (ps_ret (pe_mkL (i := 0) cTable hr rfl (pa_cons (pe_callTy (call_tuple_ofK K) (by rfl) T.m_tuple (by decide +kernel) (pa_cons (pe_lc (own := [("row", 2)]) rfl nd (pi_range1 (by rfl) T.m_range (pa_cons (pv 1) pa_nil)) (blkOk_by (N := ["cls", "order", "row", "column"]) (sc := defScope s_Table_ring) (by decide +kernel)) (fun _ _ _ _ _ => (pg_name (i := 2) nd rfl (by first | exact Or.inl rfl | exact Or.inr rfl))) (fun _ _ _ _ _ => pts_nil) (fun _ _ _ _ _ => (pe_callTy (call_tuple_ofK K) (by rfl) T.m_tuple (by decide +kernel) (pa_cons (pe_lc (own := [("column", 3)]) rfl nd (pi_range1 (by rfl) T.m_range (pa_cons (pv 1) pa_nil)) (blkOk_by (by kernel_rfl)) (fun _ _ _ _ _ => (pg_name (i := 3) nd rfl (by first | exact Or.inl rfl | exact Or.inr rfl))) (fun _ _ _ _ _ => pts_nil) (fun _ _ _ _ _ => (pe_op op_modN (pe_op op_add (pv 2) (pv 3)) (pv 1)))) pa_nil)))) pa_nil)) pa_nil))))), ?_⟩
  refine ⟨_, rfl, (n : Int), rfl, by omega, by omega, fun H0 e0 => ⟨rfl, _, rfl, _, rfl, by omega, by omega, fun Dl hD => ?_⟩⟩
  refine lc_kp (walk_rn (n := n) (by omega)) hD (fun i y H' => Nu H' ((List.range n).map fun c => (i + c) % n) y) (by omega) (fun _ _ => trivial) (fun i y _ _ e z => z.mono e) (fun i x H1 H2 Kt hi e1 hx k => ?_) (fun ys H1 e1 hy a2 => ?_)
  · obtain ⟨rfl, rfl⟩ := hx
    refine ⟨rfl, _, rfl, _, rfl, by omega, by omega, fun D2 hD2 => ?_⟩
    refine lc_kp (walk_rn (n := n) (by omega)) hD2 (fun c y H' => y = iv ((i + c) % n)) (by omega) (fun _ _ => trivial) (fun j y _ _ e z => z) (fun c x H3 H4 Kt hc e3 hx k2 => ?_) (fun ys H3 e3 hy a2 => ?_)
    · obtain ⟨rfl, rfl⟩ := hx
      refine ⟨rfl, _, rfl, _, rfl, _, _, rfl, rfl, _, rfl, _, _, rfl, rfl, by show ((n : Nat) : Int) ≠ 0; omega, k2 _ _ (Ex.refl _) ?_⟩
      show V.int (Int.fmod ((i : Int) + (c : Int)) (n : Int)) = iv ((i + c) % n)
      rw [← Int.natCast_add, fmod_nat]
      rfl
    · refine ⟨D2, ys, rfl, .inl ⟨Evl.sq_of hy, fun p hp => k _ _ (e3.trans (Ex.new hp)) ⟨p, rfl, ?_⟩⟩⟩
      rw [upd_same, A2.eqs a2, List.map_map]
      rfl
  · refine ⟨Dl, ys, rfl, .inl ⟨Evl.sq_of hy, fun p hp x dx hx hd hne => ?_⟩⟩
    have hL := kin_latin (permN_range n) h1
    refine tab_at (u := .ref p) (n := n) (rs := ringM n) ⟨hL.1, h1, h2, hL.rows.2, .inl ⟨⟨p, ys, rfl, upd_same, A2Nu.mono (kpE (Ex.new hp)) (A2.map a2)⟩, hL⟩⟩ hx hd hne fun H2 e2 ht => ⟨rfl, q _ _ ((e0.trans (e1.trans (Ex.new hp))).trans e2) ht⟩
abbrev s_Table_rows : Stmt := inClass (topS 24) 5
theorem sc_Table_rows : FnScope ["self"] ["self"] (defScope s_Table_rows) := ⟨rfl, rfl, rfl, by decide +kernel, rfl, by decide +kernel, by decide +kernel⟩
def sp_rows (C : Addr) : Sp := fun vs H Q _ => ∃ (v : V) (n : Nat) (rs : List (List Nat)), vs = [v] ∧ TabV H C n rs v ∧ ∀ r H', Ex H H' → Nuu H' rs r → Q r H'
theorem ok_rows {g : Addr} (T : Txt K mg) (U : Cls2 K mg C CM) (D : ∃ fd, Fun K "rows" "Table.rows" s_Table_rows g fd) : FnR P w K mg base CX0 1 g (sp_rows C) := by
  refine fnr_mk D sc_Table_rows (fun vs H Q E h => ?_) (fun _ _ _ _ _ _ us hl => match us, hl with | [_], _ => rfl) (fun f cdv A outer s H vs Q E hr h => ?_)
  · obtain ⟨v, n, rs, rfl, _⟩ := h
    rfl
  obtain ⟨v, n, rs, rfl, hv, q⟩ := h
  have nd := sc_Table_rows.nd
  refine ⟨_, (pss_one (ps_ret (pe_sl (pv 0)))), ?_⟩
  obtain ⟨p, hp⟩ := U.s_rows
  obtain ⟨a, rfl, dx, vs, r, z1, z2, z3, z4⟩ := hv
  exact ⟨_, rfl, a, C, dx, p, vs, 3, r, rfl, z1, U.tc, hp, z3, q _ _ (Ex.refl H) z4⟩
abbrev s_Table_eq : Stmt := inClass (topS 24) 14
theorem sc_Table_eq : FnScope ["self", "other"] ["self", "other"] (defScope s_Table_eq) := ⟨rfl, rfl, rfl, by decide +kernel, rfl, by decide +kernel, by decide +kernel⟩
def sp_eq (C : Addr) : Sp := fun vs H Q _ => ∃ (v v2 : V) (n n2 : Nat) (rs rs2 : List (List Nat)), vs = [v, v2] ∧ TabV H C n rs v ∧ TabV H C n2 rs2 v2 ∧ ∀ H', Ex H H' → Q (.bl (decide (rs = rs2))) H'
theorem ok_eq {g : Addr} (T : Txt K mg) (U : Cls2 K mg C CM) (D : ∃ fd, Fun K "__eq__" "Table.__eq__" s_Table_eq g fd) : FnR P w K mg base CX0 1 g (sp_eq C) := by
  refine fnr_mk D sc_Table_eq (fun vs H Q E h => ?_) (fun _ _ _ _ _ _ us hl => match us, hl with | [_, _], _ => rfl) (fun f cdv A outer s H vs Q E hr h => ?_)
  · obtain ⟨v, v2, n, n2, rs, rs2, rfl, _⟩ := h
    rfl
  obtain ⟨v, v2, n, n2, rs, rs2, rfl, hv, hv2, q⟩ := h
  have nd := sc_Table_eq.nd
  refine ⟨_, (pss_one (ps_ret (pe_and (pe_callB (call_isi2K K (.ref C)) (by rfl) T.m_isinstance (by decide +kernel) (pa_cons (pv 1) (pa_cons (C8.pe_gc (v := .ref C) rfl ⟨_, U.mT, rfl⟩) pa_nil))) (pe_one (pe_cmpR (op_eqDK K hr.units) (pe_sl (pv 0)) (pe_sl (pv 1)) (nomark _)))))), ?_⟩
  obtain ⟨p, hp⟩ := U.s_rows
  obtain ⟨a, rfl, dx, vs, r, z1, z2, z3, z4⟩ := hv
  obtain ⟨a2, rfl, dx2, vs2, r2, y1, y2, y3, y4⟩ := hv2
  refine ⟨_, rfl, isi_yes y1 U.tc U.ti ⟨_, rfl, iteT ⟨_, rfl, a, C, dx, p, vs, 3, r, rfl, z1, U.tc, hp, z3, _, rfl, a2, C, dx2, p, vs2, 3, r2, rfl, y1, U.tc, hp, y3, ?_⟩⟩⟩
  refine eqD_of (a := Tup.mk (tts rs)) (b := Tup.mk (tts rs2)) lay_tti z4.dp y4.dp ?_
  have : decide (Tup.mk (tts rs) = Tup.mk (tts rs2)) = decide (rs = rs2) := decide_eq_decide.mpr ⟨fun h => tts_inj (Tup.mk.inj h), fun h => by rw [h]⟩
  rw [this]
  exact q _ (Ex.refl H)
end
end K65
namespace K65
open PySem PySem.Spec PyProof.Rows L2 SlX
open Evl (Ex)
open PySem.W (Datum Tup)
def Pot (H : Hp) (p : Addr) : Prop := ∃ a b c : Int, H p = some (.lst [.int a, .int b, .int c])
theorem upd_upd {H : Hp} {p : Addr} {x y : HO} : upd (upd H p x) p y = upd H p y := by
  funext q
  by_cases h : q = p
  · rw [h, upd_same, upd_same]
  · rw [upd_ne h, upd_ne h, upd_ne h]
theorem Pot.px {H : Hp} {p : Addr} {a b c : Int} (h : Pot H p) : Px p H (upd H p (.lst [.int a, .int b, .int c])) := by
  obtain ⟨x, y, z, h⟩ := h
  exact Px.upd h
theorem Pot.new {H : Hp} {p : Addr} {a b c : Int} : Pot (upd H p (.lst [.int a, .int b, .int c])) p := ⟨a, b, c, upd_same⟩
theorem Pot.ex {H H' : Hp} {p : Addr} (e : Ex H H') (h : Pot H p) : Pot H' p := by
  obtain ⟨x, y, z, h⟩ := h
  exact ⟨x, y, z, e _ _ h⟩
theorem Pot.lst {H : Hp} {p : Addr} (h : Pot H p) : ∃ xs, H p = some (.lst xs) := by
  obtain ⟨x, y, z, h⟩ := h
  exact ⟨_, h⟩
theorem Px.mut {p q : Addr} {H H1 : Hp} {o : HO} (x : Px p H H1) (n : H q = none) (hne : q ≠ p) : Px p H (L2.upd H1 q o) := by
  obtain ⟨h1, ⟨xs, h2⟩, h3⟩ := x
  refine ⟨h1, ⟨xs, by rw [upd_ne (Ne.symm hne)]; exact h2⟩, fun a u ha hu => ?_⟩
  rw [upd_ne (ne_of_none hu n)]
  exact h3 a u ha hu
theorem cut_take1 {xs : List V} : cutV xs none (some 1) = xs.take 1 := by
  cases xs with
  | nil => rfl
  | cons x xs => exact cut_take (i := 1) (by simp)
theorem px_t {K : PySem.W.Frag} {p : Addr} {H H' : Hp} (x : Px p H H') {a : Addr} {xs : List V} (h : SqT K H a xs) : SqT K H' a xs := kp_t (kpP x) h
section
variable {P : Program} {w : World} {K : PySem.W.Frag} {mg : Str → Option Value} {base : Heap} {C CM : Addr}
abbrev s__law_pot : Stmt := topS 48
theorem sc__law_pot : FnScope ["_law_script", "_law_turn", "_law_cell", "_law_great"] ["_law_script", "_law_turn"] (defScope s__law_pot) := ⟨rfl, rfl, rfl, by decide +kernel, rfl, by decide +kernel, by decide +kernel⟩
def sp_pot (K : PySem.W.Frag) : Sp := fun vs H Q _ => ∃ (a : Addr) (ns : List Int) (t : Nat), vs = [.ref a, iv t] ∧ SqL K H a (ns.map V.int) ∧ ns.length ≤ 63 ∧ ∀ p H', H p = none → Ex H H' → Pot H' p → Q (.ref p) H'
theorem ok_pot (T : Txt K mg) (D : Df K mg "_law_pot" s__law_pot) : Ca P w K mg base 1 "_law_pot" ["_law_script", "_law_turn"] (sp_pot K) := by
  refine ca_mk D sc__law_pot (fun vs H Q E h => ?_) (fun _ _ _ _ _ _ us hl => match us, hl with | [_, _], _ => rfl) (fun f cdv A outer s H vs Q E hr h => ?_)
  · obtain ⟨a, ns, t, rfl, _⟩ := h
    rfl
  obtain ⟨a, ns, t, rfl, hs, hl, q⟩ := h
  have nd := sc__law_pot.nd
  refine ⟨_, (Evl.pss_cut (ps_set (i := 2) nd rfl (Or.inl rfl) (pe_ifExp (pt_cmpR op_lt (pv 1) (pe_callB (call_len_seqK K) (by rfl) T.m_len (by decide +kernel) (pa_cons (pv 0) pa_nil)) (nomark _)) (pe_callTy call_int1 (by rfl) T.m_int (by decide +kernel) (pa_cons (pe_ix (ix_listK K) (pv 0) (pv 1) (fun _ _ => rfl)) pa_nil)) (pe_op op_add (pe_op op_add (pe_op op_mul pe_int (pv 1)) pe_int) (pe_op op_modN (pe_callTy call_int1 (by rfl) T.m_int (by decide +kernel) (pa_cons (pe_callB (cr_sumK K) (by rfl) T.m_sum (by decide +kernel) (pa_cons (pe_slice (sl_listK K) (pv 0) po_none (po_some pe_int)) pa_nil)) pa_nil)) pe_int))))
    (pss_cons (ps_set (i := 3) nd rfl (Or.inl rfl) (pe_op op_modN (pe_callB call_abs (by rfl) T.m_abs (by decide +kernel) (pa_cons (pv 2) pa_nil)) (pe_op op_powB (pe_op op_pow pe_int pe_int) pe_int)))
    (pss_one (ps_ret (pe_lst (pa_cons (pe_callB (call_max2 rfl) (by rfl) T.m_max (by decide +kernel) (pa_cons pe_int (pa_cons (pe_op op_sub (pv 3) (pe_op op_pow pe_int pe_int)) pa_nil))) (pa_cons (pe_op op_add (pe_op op_add (pe_op op_add (pe_op op_mul (pe_op op_modN (pv 3) pe_int) pe_int) (pe_op op_mul pe_int (pv 1))) (pe_op op_mul pe_int (pe_callTy call_int1 (by rfl) T.m_int (by decide +kernel) (pa_cons (pe_cmpR op_lt (pv 2) pe_int (nomark _)) pa_nil)))) pe_int) (pa_cons pe_int pa_nil)))))))), ?_⟩
  have hlen : (ns.map V.int).length = ns.length := List.length_map _
  refine ⟨fun σ H1 => Ex H H1 ∧ ∃ cell : Int, σ = [some (.ref a), some (iv t), some (.int cell), none], ?_, ?_⟩
  · refine ⟨_, rfl, _, rfl, a, _, rfl, .inl hs, _, _, rfl, rfl, _, rfl, ?_⟩
    refine ite2 (fun c => ?_) (fun c => ?_)
    · have c' : ((t : Nat) : Int) < ((ns.map V.int).length : Int) := of_decide_eq_true c
      have ht : t < ns.length := by rw [hlen] at c'; omega
      exact ⟨_, rfl, _, rfl, a, _, _, _, rfl, rfl, hs, at_n (show (ns.map V.int)[t]? = some (V.int ns[t]) by rw [List.getElem?_map, List.getElem?_eq_getElem ht]; rfl), .inl ⟨_, rfl, Ex.refl H, _, rfl⟩⟩
    · refine ⟨_, rfl, _, _, rfl, rfl, .inl ⟨by decide, by decide⟩, _, _, rfl, rfl, _, rfl, 1, rfl, a, _, rfl, hs, fun l hl2 => ⟨l, ns.take 1, rfl, ?_, .inl ⟨_, rfl, _, _, rfl, rfl, (show (1000003 : Int) ≠ 0 by decide), _, _, rfl, rfl, Ex.new hl2, _, rfl⟩⟩⟩
      refine Evl.sq_of ?_
      rw [upd_same, cut_take1, List.map_take]
  · rintro σ H1 ⟨e1, cell, rfl⟩
    refine ⟨_, rfl, _, rfl, _, _, rfl, rfl, ⟨by decide, by decide, by decide⟩, _, _, rfl, rfl, ⟨by decide, by decide +kernel⟩, _, _, rfl, rfl, (show (((10 : Int) ^ Int.toNat 57) ^ Int.toNat 5) ≠ 0 by decide +kernel), ?_⟩
    refine ⟨_, rfl, _, _, rfl, rfl, ⟨by decide, by decide, by decide⟩, _, _, rfl, rfl, _, _, rfl, ?_⟩
    refine ⟨_, rfl, _, _, rfl, rfl, (show (1000000000063 : Int) ≠ 0 by decide), _, _, rfl, rfl, .inr ⟨by decide, by decide⟩, _, rfl, _, _, rfl, rfl, .inl ⟨by decide, by decide⟩, _, _, rfl, rfl, ?_⟩
    refine ⟨_, rfl, _, _, rfl, rfl, .inr ⟨_, rfl, _, _, rfl, rfl, .inl ⟨by decide, by decide⟩, _, _, rfl, rfl, _, _, rfl, rfl, ?_⟩⟩
    exact ⟨(by show 3 ≤ sizeLine; decide), fun p hp => q p _ (Evl.fresh_back e1 hp) (e1.trans (Ex.new hp)) ⟨_, _, _, upd_same⟩⟩
abbrev s__law_ladle : Stmt := topS 49
theorem sc__law_ladle : FnScope ["_law_pot_here", "_law_many", "_law_found", "_law_one", "_law_two"] ["_law_pot_here", "_law_many"] (defScope s__law_ladle) := ⟨rfl, rfl, rfl, by decide +kernel, rfl, by decide +kernel, by decide +kernel⟩
def sp_ladle : Sp := fun vs H Q _ => ∃ (p : Addr) (m : Nat), vs = [.ref p, iv m] ∧ Pot H p ∧ 0 < m ∧ m < 1000000 ∧ ∀ (k : Nat) (a b c : Int), k < m → Q (iv k) (upd H p (.lst [.int a, .int b, .int c]))
theorem ok_ladle (T : Txt K mg) (D : Df K mg "_law_ladle" s__law_ladle) : Ca P w K mg base 1 "_law_ladle" ["_law_pot_here", "_law_many"] sp_ladle := by
  refine ca_mk D sc__law_ladle (fun vs H Q E h => ?_) (fun _ _ _ _ _ _ us hl => match us, hl with | [_, _], _ => rfl) (fun f cdv A outer s H vs Q E hr h => ?_)
  · obtain ⟨p, m, rfl, _⟩ := h
    rfl
  obtain ⟨p, m, rfl, ⟨a, b, c, hp⟩, h1, h2, q⟩ := h
  have nd := sc__law_ladle.nd
  refine ⟨_, (pss_cons (ps_if (pt_cmpR op_gt (pe_ix (ix_listK K) (pv 0) pe_int (fun _ _ => rfl)) pe_int (nomark _)) (pss_cons (ps_set (i := 2) nd rfl (Or.inl rfl) (pe_op op_modN (pe_callTy call_int1 (by rfl) T.m_int (by decide +kernel) (pa_cons (pe_ix (ix_listK K) (pv 0) pe_int (fun _ _ => rfl)) pa_nil)) (pv 1)))
    (pss_cons (ps_asg (pe_op op_fdivN (pe_callTy call_int1 (by rfl) T.m_int (by decide +kernel) (pa_cons (pe_ix (ix_listK K) (pv 0) pe_int (fun _ _ => rfl)) pa_nil)) (pv 1)) (pg_sub (pv 0) pe_int set_list))
    (pss_one (ps_ret (pv 2))))) pss_nil)
    (pss_cons (ps_asg (pe_op op_add (pe_ix (ix_listK K) (pv 0) pe_int (fun _ _ => rfl)) pe_int) (pg_sub (pv 0) pe_int set_list))
    (pss_cons (ps_set (i := 3) nd rfl (Or.inl rfl) (pe_op op_modN (pe_callTy call_int1 (by rfl) T.m_int (by decide +kernel) (pa_cons (pe_op op_add (pe_ix (ix_listK K) (pv 0) pe_int (fun _ _ => rfl)) (pe_op op_mul pe_int (pe_ix (ix_listK K) (pv 0) pe_int (fun _ _ => rfl)))) pa_nil)) pe_int))
    (pss_cons (ps_set (i := 4) nd rfl (Or.inl rfl) (pe_op op_modN (pe_callTy call_int1 (by rfl) T.m_int (by decide +kernel) (pa_cons (pe_op op_add (pe_op op_add (pe_op op_mul (pv 3) (pv 3)) (pe_op op_mul pe_int (pe_ix (ix_listK K) (pv 0) pe_int (fun _ _ => rfl)))) pe_int) pa_nil)) pe_int))
    (pss_one (ps_ret (pe_op op_modN (pe_callTy call_int1 (by rfl) T.m_int (by decide +kernel) (pa_cons (pe_op op_fdivN (pe_op op_mul (pv 4) (pe_op op_add (pe_op op_modN (pv 3) pe_int) pe_int)) pe_int) pa_nil)) (pv 1)))))))), ?_⟩
  have hm0 : ((m : Nat) : Int) ≠ 0 := by omega
  have hm1 : (0 : Int) < ((m : Nat) : Int) := by omega
  have hq : ∀ (k : Int) H', (∃ x y z : Int, H' = upd H p (.lst [.int x, .int y, .int z])) → Q (.int (k.fmod ((m : Nat) : Int))) H' := by
    rintro k H' ⟨x, y, z, rfl⟩
    have g1 := Int.fmod_nonneg_of_pos k hm1
    have g2 := Int.fmod_lt_of_pos k hm1
    have := q (k.fmod (m : Int)).toNat x y z (by omega)
    unfold iv at this
    rw [Int.toNat_of_nonneg g1] at this
    exact this
  have at0 : ∀ {x y z : V}, atI [x, y, z] 0 = some x := fun {x y z} => rfl
  have at1 : ∀ {x y z : V}, atI [x, y, z] 1 = some y := fun {x y z} => rfl
  have at2 : ∀ {x y z : V}, atI [x, y, z] 2 = some z := fun {x y z} => rfl
  refine ⟨_, rfl, p, _, 0, _, rfl, rfl, Evl.sq_of hp, at0, _, _, rfl, rfl, _, rfl, ?_⟩
  refine ite2 (fun c1 => ?_) (fun c1 => ?_)
  · refine ⟨_, rfl, p, _, 0, _, rfl, rfl, Evl.sq_of hp, at0, .inl ⟨_, rfl, _, rfl, _, _, rfl, rfl, hm0, ?_⟩⟩
    refine ⟨_, rfl, p, _, 0, _, rfl, rfl, Evl.sq_of hp, at0, .inl ⟨_, rfl, _, rfl, _, _, rfl, rfl, ⟨hm0, by show (m : Int).natAbs < _; omega⟩, _, rfl, p, _, 0, 0, rfl, rfl, hp, rfl, _, rfl, ?_⟩⟩
    exact hq _ _ ⟨_, _, _, rfl⟩
  · refine ⟨_, rfl, p, _, 2, _, rfl, rfl, Evl.sq_of hp, at2, _, _, rfl, rfl, _, rfl, p, _, 2, 2, rfl, rfl, hp, rfl, ?_⟩
    have hp2 : (upd H p (.lst ([V.int a, V.int b, V.int c].set 2 (V.int (c + 1))))) p = some (.lst [V.int a, V.int b, V.int (c + 1)]) := upd_same
    refine ⟨_, rfl, p, _, 1, _, rfl, rfl, Evl.sq_of hp2, at1, _, rfl, p, _, 2, _, rfl, rfl, Evl.sq_of hp2, at2, _, _, rfl, rfl, .inl ⟨by decide, by decide⟩, _, _, rfl, rfl, .inl ⟨_, rfl, _, _, rfl, rfl, (show (2305843009213693951 : Int) ≠ 0 by decide), ?_⟩⟩
    have g1 := Int.fmod_nonneg_of_pos (b + 122949823 * (c + 1)) (show (0 : Int) < 2305843009213693951 by decide)
    have g2 := Int.fmod_lt_of_pos (b + 122949823 * (c + 1)) (show (0 : Int) < 2305843009213693951 by decide)
    refine ⟨_, rfl, _, rfl, _, _, rfl, rfl, .inl ⟨by omega, by omega⟩, _, rfl, p, _, 2, _, rfl, rfl, Evl.sq_of hp2, at2, _, _, rfl, rfl, .inl ⟨by decide, by decide⟩, _, _, rfl, rfl, _, _, rfl, rfl, .inl ⟨_, rfl, _, _, rfl, rfl, (show (1152921504606846883 : Int) ≠ 0 by decide), ?_⟩⟩
    refine ⟨_, rfl, _, rfl, _, _, rfl, rfl, (show (1019 : Int) ≠ 0 by decide), _, _, rfl, rfl, _, _, rfl, rfl, ?_, _, _, rfl, rfl, ⟨by decide, by decide⟩, .inl ⟨_, rfl, _, rfl, _, _, rfl, rfl, hm0, hq _ _ ⟨_, _, _, rfl⟩⟩⟩
    refine .inr ?_
    have g3 := Int.fmod_nonneg_of_pos (Int.fmod (b + 122949823 * (c + 1)) 2305843009213693951) (show (0 : Int) < 1019 by decide)
    have g4 := Int.fmod_lt_of_pos (Int.fmod (b + 122949823 * (c + 1)) 2305843009213693951) (show (0 : Int) < 1019 by decide)
    constructor
    · omega
    · omega
abbrev s__law_one_of : Stmt := topS 50
theorem sc__law_one_of : FnScope ["_law_pot_here", "_law_items"] ["_law_pot_here", "_law_items"] (defScope s__law_one_of) := ⟨rfl, rfl, rfl, by decide +kernel, rfl, by decide +kernel, by decide +kernel⟩
def sp_one_of : Sp := fun vs H Q _ => ∃ (p l : Addr) (ns : List Nat), vs = [.ref p, .ref l] ∧ Pot H p ∧ l ≠ p ∧ H l = some (.lst (ns.map iv)) ∧ 0 < ns.length ∧ ns.length ≤ 1000 ∧ ∀ (n : Nat) (a b c : Int), n ∈ ns → Q (iv n) (upd H p (.lst [.int a, .int b, .int c]))
theorem ok_one_of (T : Txt K mg) (D : Df K mg "_law_one_of" s__law_one_of) (c_law_ladle : Ca P w K mg base 1 "_law_ladle" ["_law_pot_here", "_law_many"] sp_ladle) : Ca P w K mg base 2 "_law_one_of" ["_law_pot_here", "_law_items"] sp_one_of := by
  refine ca_mk D sc__law_one_of (fun vs H Q E h => ?_) (fun _ _ _ _ _ _ us hl => match us, hl with | [_, _], _ => rfl) (fun f cdv A outer s H vs Q E hr h => ?_)
  · obtain ⟨p, l, ns, rfl, _⟩ := h
    rfl
  obtain ⟨p, l, ns, rfl, hp, hne, hl, h1, h2, q⟩ := h
  have nd := sc__law_one_of.nd
  refine ⟨_, (pss_one (ps_ret (pe_ix (ix_listK K) (pv 1) (pe_ca c_law_ladle hr (pa_cons (pv 0) (pa_cons (pe_callB (call_len_seqK K) (by rfl) T.m_len (by decide +kernel) (pa_cons (pv 1) pa_nil)) pa_nil))) (fun _ _ => rfl)))), ?_⟩
  have hlen : (ns.map iv).length = ns.length := List.length_map _
  refine ⟨_, rfl, _, rfl, _, rfl, l, _, rfl, .inl (Evl.sq_of hl), p, ns.length, by rw [hlen]; rfl, hp, h1, by omega, fun k a b c hk => ?_⟩
  exact ⟨l, _, _, _, rfl, rfl, Evl.sq_of (by rw [upd_ne hne]; exact hl), at_n (iv_at (List.getElem?_eq_getElem hk)), q _ a b c (List.getElem_mem hk)⟩
abbrev s__law_mixed : Stmt := topS 51
theorem sc__law_mixed : FnScope ["_law_pot_here", "_law_many", "_law_waits", "_law_found", "_law_turn"] ["_law_pot_here", "_law_many"] (defScope s__law_mixed) := ⟨rfl, rfl, rfl, by decide +kernel, rfl, by decide +kernel, by decide +kernel⟩
def sp_mixed : Sp := fun vs H Q _ => ∃ (p : Addr) (n : Nat), vs = [.ref p, iv n] ∧ Pot H p ∧ n ≤ 1000 ∧ ∀ v (L : List Nat) H', PermN n L → Px p H H' → Pot H' p → Nu H' L v → Q v H'
theorem perm_erase {ws : List Nat} {k y : Nat} (h : ws[k]? = some y) (fs : List Nat) : ((fs ++ [y]) ++ ws.eraseIdx k).Perm (fs ++ ws) := by
  have hk := (List.getElem?_eq_some_iff.mp h).1
  have e1 : ws.eraseIdx k = ws.take k ++ ws.drop (k + 1) := List.eraseIdx_eq_take_drop_succ ..
  have e2 : ws = ws.take k ++ y :: ws.drop (k + 1) := by
    have e3 : y = ws[k] := by rw [List.getElem?_eq_getElem hk] at h; exact (Option.some.inj h).symm
    rw [e3, ← List.drop_eq_getElem_cons hk, List.take_append_drop]
  rw [List.append_assoc]
  refine List.Perm.append_left fs ?_
  rw [e1]
  conv => rhs; rw [e2]
  show (y :: (ws.take k ++ ws.drop (k + 1))).Perm _
  exact List.perm_middle.symm
theorem ok_mixed (T : Txt K mg) (D : Df K mg "_law_mixed" s__law_mixed) (c_law_ladle : Ca P w K mg base 1 "_law_ladle" ["_law_pot_here", "_law_many"] sp_ladle) : Ca P w K mg base 2 "_law_mixed" ["_law_pot_here", "_law_many"] sp_mixed := by
  refine ca_mk D sc__law_mixed (fun vs H Q E h => ?_) (fun _ _ _ _ _ _ us hl => match us, hl with | [_, _], _ => rfl) (fun f cdv A outer s H vs Q E hr h => ?_)
  · obtain ⟨p, n, rfl, _⟩ := h
    rfl
  obtain ⟨p, n, rfl, hp, hn, q⟩ := h
  have nd := sc__law_mixed.nd
  refine ⟨_, (pss_cons (ps_par (i := 2) (j := 3) (by rfl) nd rfl rfl (by decide) rfl rfl (pa_cons (pe_listRg rfl (by rfl) T.m_list (prg_1 (by rfl) T.m_range (pv 1))) (pa_cons (pe_lst pa_nil) pa_nil)) (by rfl))
    (pss_cons (ps_for PassesOwn.never rfl (pi_range1 (by rfl) T.m_range (pa_cons (pv 1) pa_nil)) (pg_name (i := 4) nd rfl (Or.inl rfl))
      (pss_one (ps_expr (pe_bm PySem.F.plainAttrs_list PySem.F.slot_list_append PySem.F.type_list_append mt_append (pv 3) (pa_cons (pe_bm PySem.F.plainAttrs_list PySem.F.slot_list_pop PySem.F.type_list_pop mt_popAt (pv 2) (pa_cons (pe_ca c_law_ladle hr (pa_cons (pv 0) (pa_cons (pe_callB (call_len_seqK K) (by rfl) T.m_len (by decide +kernel) (pa_cons (pv 2) pa_nil)) pa_nil))) pa_nil)) pa_nil)))))
    (pss_one (ps_ret (pe_callTy (call_tuple_ofK K) (by rfl) T.m_tuple (by decide +kernel) (pa_cons (pv 3) pa_nil)))))), ?_⟩
  refine ⟨_, rfl, _, rfl, ⟨by omega, by omega, by omega, by omega, by omega⟩, fun wl hwl => ⟨(by show 0 ≤ sizeLine; decide), fun fl hfl => ⟨_, _, rfl, ?_⟩⟩⟩
  rw [rgV_n] at hfl ⊢
  obtain ⟨px, hpx⟩ := hp.lst
  have hwp : wl ≠ p := Ne.symm (ne_of_none hpx hwl)
  have hfn : H fl = none := Evl.fresh_back (Ex.new hwl) hfl
  have hfp : fl ≠ p := Ne.symm (ne_of_none hpx hfn)
  have hfw : fl ≠ wl := Ne.symm (ne_of_none upd_same hfl)
  have hw0 : (zs (List.range n)).map V.int = (List.range n).map iv := by unfold zs; rw [List.map_map]; rfl
  refine ⟨_, rfl, _, rfl, by omega, by omega, for_it (walk_rn (n := n) (by omega)) (fun i σ H' => Px p H H' ∧ Pot H' p ∧ (∃ ws fs : List Nat, H' wl = some (.lst (ws.map iv)) ∧ H' fl = some (.lst (fs.map iv)) ∧ (fs ++ ws).Perm (List.range n) ∧ fs.length = i) ∧ ∃ o, σ = [some (.ref p), some (iv n), some (.ref wl), some (.ref fl), o])
    ⟨Px.of hp.lst ((Ex.new hwl).trans (Ex.new hfl)), hp.ex ((Ex.new hwl).trans (Ex.new hfl)), ⟨List.range n, [], by rw [upd_ne (Ne.symm hfw), upd_same, hw0], upd_same, List.Perm.refl _, rfl⟩, none, rfl⟩ (fun _ _ _ _ _ => trivial) (fun i x σ H1 H2 hi pv y => ?_) (fun σ H1 pv => ?_)⟩
  · obtain ⟨x1, hp1, ⟨ws, fs, hws, hfs, hpm, hfl1⟩, o, rfl⟩ := pv
    obtain ⟨rfl, rfl⟩ := y
    have hlw : ws.length = n - i := by
      have := hpm.length_eq
      rw [List.length_append, List.length_range] at this
      omega
    have hlen : (ws.map iv).length = ws.length := List.length_map _
    refine ⟨_, rfl, .inl ⟨rfl, _, Evl.sq_of hfs⟩, _, rfl, .inl ⟨rfl, _, Evl.sq_of hws⟩, _, rfl, _, rfl, wl, _, rfl, .inl (Evl.sq_of hws), p, ws.length, by rw [hlen]; rfl, hp1, by omega, by omega, fun k a b c hk => ?_⟩
    obtain ⟨y, hy⟩ : ∃ y, ws[k]? = some y := ⟨ws[k], List.getElem?_eq_getElem hk⟩
    have hw3 : (upd H2 p (.lst [.int a, .int b, .int c])) wl = some (.lst (ws.map iv)) := by rw [upd_ne hwp]; exact hws
    have hf3 : (upd (upd H2 p (.lst [.int a, .int b, .int c])) wl (.lst ((ws.map iv).eraseIdx k))) fl = some (.lst (fs.map iv)) := by rw [upd_ne hfw, upd_ne hfp]; exact hfs
    refine ⟨wl, _, (k : Int), k, iv y, rfl, rfl, hw3, by omega, by omega, ?_, iv_at hy, fl, _, iv y, rfl, rfl, hf3, sz_lt (by rw [List.length_map]; omega), ?_⟩
    · have := seqIndex_of (k := (k : Int)) (n := (ws.map iv).length) (by omega) (by omega)
      rw [Int.toNat_natCast] at this
      exact this
    · refine ⟨((x1.trans hp1.px).mut hwl hwp).mut hfn hfp, ?_, ⟨ws.eraseIdx k, fs ++ [y], ?_, ?_, (perm_erase hy fs).trans hpm, by simp [hfl1]⟩, _, rfl⟩
      · exact ⟨a, b, c, by rw [upd_ne (Ne.symm hfp), upd_ne (Ne.symm hwp), upd_same]⟩
      · rw [upd_ne (Ne.symm hfw), upd_same]
        congr 2
        rw [List.eraseIdx_eq_take_drop_succ, List.eraseIdx_eq_take_drop_succ, List.map_append, List.map_take, List.map_drop]
      · rw [upd_same, List.map_append]
        rfl
  · obtain ⟨x1, hp1, ⟨ws, fs, hws, hfs, hpm, hfl1⟩, o, rfl⟩ := pv
    have hw0 : ws = [] := by
      have := hpm.length_eq
      rw [List.length_append, List.length_range] at this
      exact List.eq_nil_of_length_eq_zero (by omega)
    subst hw0
    rw [List.append_nil] at hpm
    exact ⟨_, rfl, fl, _, rfl, .inl ⟨Evl.sq_of hfs, fun r hr' => q _ fs _ (permN_of_perm hpm) (x1.trans (Px.of hp1.lst (Ex.new hr'))) (hp1.ex (Ex.new hr')) ⟨r, rfl, upd_same⟩⟩⟩
end
end K65
namespace K65
open PySem PySem.Spec PyProof.Rows L2 SlX
open Evl (Ex)
open PySem.W (Datum Tup)
theorem eqV_iv (a b : Nat) : eqV (iv a) (iv b) = true ↔ a = b := by
  show ((a : Int) == (b : Int)) = true ↔ a = b
  rw [beq_iff_eq]
  omega
theorem inV_iv {c : Nat} {l : List Nat} : inV (iv c) (l.map iv) = true ↔ c ∈ l := by
  unfold inV
  rw [List.any_map, List.any_eq_true]
  constructor
  · rintro ⟨x, hx, e⟩
    have := (eqV_iv _ _).mp e
    subst this
    exact hx
  · intro h
    exact ⟨c, h, (eqV_iv _ _).mpr rfl⟩
def StP (H : Hp) (p : List Nat × List Nat) (v : V) : Prop := ∃ a t s, v = .ref a ∧ H a = some (.tup [t, s]) ∧ Nu H p.1 t ∧ Nu H p.2 s
theorem StP.mono {H H' : Hp} {p : List Nat × List Nat} {v : V} (e : Kp H H') (h : StP H p v) : StP H' p v := by
  obtain ⟨a, t, s, rfl, h1, h2, h3⟩ := h
  exact ⟨a, t, s, rfl, e a _ trivial h1, h2.mono e, h3.mono e⟩
section
variable {P : Program} {w : World} {K : PySem.W.Frag} {mg : Str → Option Value} {base : Heap} {C CM : Addr}
/-- t + (c,) -/
theorem cat1 {H : Hp} {ta tb : Addr} {l : List Nat} {c : Nat} {Q : VK} (ha : H ta = some (.tup (l.map iv))) (hb : H tb = some (.tup [iv c])) (hl : l.length ≤ 1000) (q : ∀ v H', Ex H H' → Nu H' (l ++ [c]) v → Q v H') : rCatA K (.ref ta) (.ref tb) H Q := by
  refine ⟨ta, tb, _, _, rfl, rfl, Evl.st_of ha, Evl.st_of hb, sz_le (by rw [List.length_map]; show l.length + 1 ≤ _; omega), fun e => ?_, fun _ e => absurd e (by simp), fun _ _ p hp => ?_⟩
  · have : l = [] := by
      cases l with
      | nil => rfl
      | cons => cases e
    subst this
    exact q _ _ (Ex.refl H) ⟨tb, rfl, hb⟩
  · refine q _ _ (Ex.new hp) ⟨p, rfl, ?_⟩
    rw [upd_same, List.map_append]
    rfl
abbrev s__law_crossing : Stmt := topS 55
theorem sc__law_crossing : FnScope ["_law_rows_here", "_law_found", "_law_row", "_law_longer", "_law_columns", "_law_signs", "_law_column", "_law_sign"] ["_law_rows_here"] (defScope s__law_crossing) := ⟨rfl, rfl, rfl, by decide +kernel, rfl, by decide +kernel, by decide +kernel⟩
def sp_crossing : Sp := fun vs H Q _ => ∃ (v : V) (n : Nat) (rs : List (List Nat)), vs = [v] ∧ Nuu H rs v ∧ rs.length = n ∧ n ≤ 7 ∧ (∀ r ∈ rs, r.length = n) ∧ ∀ p H' us, H p = none → Ex H H' → H' p = some (.lst us) → A2 (Nu H') (crossM rs) us → Q (.ref p) H'
theorem ok_crossing (T : Txt K mg) (D : Df K mg "_law_crossing" s__law_crossing) : Ca P w K mg base 1 "_law_crossing" ["_law_rows_here"] sp_crossing := by
  refine ca_mk D sc__law_crossing (fun vs H Q E h => ?_) (fun _ _ _ _ _ _ us hl => match us, hl with | [_], _ => rfl) (fun f cdv A outer s H vs Q E hr h => ?_)
  · obtain ⟨v, n, rs, rfl, _⟩ := h
    rfl
  obtain ⟨v, n, rs, rfl, hv, h1, h2, h3, q⟩ := h
  have nd := sc__law_crossing.nd
  refine ⟨_, (pss_cons (ps_set (i := 1) nd rfl (Or.inl rfl) (pe_lst (pa_cons (pe_tup (pa_cons (pe_tup pa_nil) (pa_cons (pe_tup pa_nil) pa_nil))) pa_nil)))
    (pss_cons (ps_for PassesOwn.never rfl (pi_tupK K (pv 0)) (pg_name (i := 2) nd rfl (Or.inl rfl))
      (pss_cons (ps_set (i := 3) nd rfl (Or.inl rfl) (pe_lst pa_nil))
    (pss_cons (ps_for PassesOwn.never rfl (pi_listK K (pe_callTy (call_list_ofK K) (by rfl) T.m_list (by decide +kernel) (pa_cons (pv 1) pa_nil))) (pg_tupK K (n := 2) (by rfl) (pgs_cons (pg_name (i := 4) nd rfl (Or.inl rfl)) (pgs_cons (pg_name (i := 5) nd rfl (Or.inl rfl)) pgs_nil)))
      (pss_one (ps_for PassesOwn.never rfl (pi_enumTK K (by rfl) T.m_enumerate (pa_cons (pv 2) pa_nil)) (pg_tupK K (n := 2) (by rfl) (pgs_cons (pg_name (i := 6) nd rfl (Or.inl rfl)) (pgs_cons (pg_name (i := 7) nd rfl (Or.inl rfl)) pgs_nil)))
      (pss_one (ps_if (PW.pt (pw_and (pt_cmpR (op_notIn_seqK K) (pv 6) (pv 4) (by rfl)) (pw_and1 (pt_cmpR (op_notIn_seqK K) (pv 7) (pv 5) (by rfl))))) (pss_one (ps_expr (pe_bm PySem.F.plainAttrs_list PySem.F.slot_list_append PySem.F.type_list_append mt_append (pv 3) (pa_cons (pe_tup (pa_cons (pe_op (op_catAK K) (pv 4) (pe_tup (pa_cons (pv 6) pa_nil))) (pa_cons (pe_op (op_catAK K) (pv 5) (pe_tup (pa_cons (pv 7) pa_nil))) pa_nil))) pa_nil)))) pss_nil)))))
    (pss_one (ps_set (i := 1) nd rfl (Or.inl rfl) (pv 3))))))
    (pss_one (ps_ret (pe_lc (own := [("_law_columns", 4), ("_law_signs", 5)]) rfl nd (pi_listK K (pv 1)) (blkOk_by (N := ["_law_rows_here", "_law_found", "_law_row", "_law_longer", "_law_columns", "_law_signs", "_law_column", "_law_sign"]) (sc := defScope s__law_crossing) (by decide +kernel)) (fun _ _ _ _ _ => (pg_tupK K (n := 2) (by rfl) (pgs_cons (pg_name (i := 4) nd rfl (by first | exact Or.inl rfl | exact Or.inr rfl)) (pgs_cons (pg_name (i := 5) nd rfl (by first | exact Or.inl rfl | exact Or.inr rfl)) pgs_nil)))) (fun _ _ _ _ _ => pts_nil) (fun _ _ _ _ _ => (pv 4))))))), ?_⟩
  obtain ⟨a, us, rfl, ha, hus⟩ := id hv
  have hl := hus.len
  refine ⟨(by show 0 ≤ sizeLine; decide), fun t0 ht0 => ⟨(by show 0 ≤ sizeLine; decide), fun s0 hs0 => ⟨(by show 2 ≤ sizeLine; decide), fun t1 ht1 => ⟨(by show 1 ≤ sizeLine; decide), fun b0 hb0 => ?_⟩⟩⟩⟩
  have e2 : Ex H _ := ((Ex.new (o := .tup []) ht0).trans (Ex.new (o := .tup []) hs0)).trans ((Ex.new (o := .tup [.ref t0, .ref s0]) ht1).trans (Ex.new (o := .lst [.ref t1]) hb0))
  refine ⟨_, rfl, a, rfl, ⟨_, Evl.st_of (e2 _ _ ha)⟩, for_it walk_tup (fun i σ H' => Ex H H' ∧ ∃ b us' o1 o2 o3 o4 o5 o6, σ = [some (.ref a), some (.ref b), o1, o2, o3, o4, o5, o6] ∧ H b = none ∧ H' b = some (.lst us') ∧ A2 (StP H') (crossP (rs.take i)) us')
    ⟨e2, b0, _, none, none, none, none, none, none, rfl, ?_, upd_same, ⟨t1, .ref t0, .ref s0, rfl, Ex.new hb0 _ _ upd_same, ⟨t0, rfl, ((Ex.new hs0).trans ((Ex.new ht1).trans (Ex.new hb0))) _ _ upd_same⟩, ⟨s0, rfl, ((Ex.new ht1).trans (Ex.new hb0)) _ _ upd_same⟩⟩, trivial⟩ (fun i σ H' _ pv => Evl.st_of (pv.1 _ _ ha)) (fun i x σ H3 H4 hi pv y => ?_) (fun σ H3 pv => ?_)⟩
  · exact Evl.fresh_back ((Ex.new (o := .tup []) ht0).trans ((Ex.new (o := .tup []) hs0).trans (Ex.new (o := .tup [.ref t0, .ref s0]) ht1))) hb0
  · obtain ⟨e, b, us', o1, o2, o3, o4, o5, o6, rfl, hbn, hb, hA⟩ := pv
    obtain ⟨rfl, hx⟩ := y
    obtain ⟨r, hr2, hr3⟩ := hus.get hx
    obtain ⟨ra, rfl, hra⟩ := id hr3
    have hrl := h3 r (List.mem_of_getElem? hr2)
    have hrml : (r.map iv).length = n := by rw [List.length_map]; exact hrl
    have hrt : ∀ r' ∈ rs.take i, r'.length = n := fun r' hr' => h3 r' (List.mem_of_mem_take hr')
    have hi' : i < rs.length := by omega
    have hlen : (crossP (rs.take i)).length ≤ 823543 / 7 := by
      have := crossP_len (n := n) (rs.take i) [([], [])] hrt
      rw [List.length_take, Nat.min_eq_left (by omega)] at this
      refine Nat.le_trans this ?_
      rw [List.length_singleton, Nat.one_mul]
      refine Nat.le_trans (Nat.pow_le_pow_left h2 i) ?_
      exact Nat.le_trans (Nat.pow_le_pow_right (by decide) (by omega : i ≤ 6)) (by decide)
    have hln : (crossP (rs.take i)).length * n ≤ 1000000 := Nat.le_trans (Nat.mul_le_mul hlen h2) (by decide)
    have hAl := hA.len
    have hl1000 : ∀ p ∈ crossP (rs.take i), p.1.length ≤ 1000 ∧ p.2.length ≤ 1000 := fun p hp => by
      have z1 := len_fold (rs.take i) [([], [])] 0 (by simp) p hp
      have z2 := crossP_sg hrt hp
      rw [List.length_take] at z1
      have z3 : p.2.length ≤ (rs.take i).length := by
        rw [z2]
        unfold sg
        rw [List.length_zipWith]
        exact Nat.min_le_left _ _
      rw [List.length_take] at z3
      exact ⟨by omega, by omega⟩
    have hnext : crossP (rs.take (i + 1)) = longerM r (crossP (rs.take i)) := crossP_take hr2
    generalize crossP (rs.take i) = l at hA hlen hln hAl hl1000 hnext
    refine ⟨(by show 0 ≤ sizeLine; decide), fun f hf => ?_⟩
    have eF := Ex.new (o := .lst []) hf
    have hfn : H f = none := Evl.fresh_back e hf
    refine ⟨_, rfl, b, us', rfl, .inl (Evl.sq_of (eF _ _ hb)), fun cp hcp => ⟨cp, rfl, ⟨_, Evl.sq_of upd_same⟩, ?_⟩⟩
    have eC := Ex.new (o := .lst us') hcp
    have hcf : cp ≠ f := Ne.symm (ne_of_none upd_same hcp)
    have eFC := eF.trans eC
    refine for_it walk_list (fun j σ H' => Ex H H' ∧ H' cp = some (.lst us') ∧ A2 (StP H') l us' ∧ (∃ vs, H' f = some (.lst vs) ∧ A2 (StP H') (longerM r (l.take j)) vs) ∧ ∃ o3 o4 o5 o6, σ = [some (.ref a), some (.ref b), some (.ref ra), some (.ref f), o3, o4, o5, o6])
      ⟨e.trans eFC, upd_same, hA.mono (fun p v _ z => z.mono (kpE eFC)), ⟨[], eC _ _ upd_same, trivial⟩, _, _, _, _, rfl⟩ (fun j σ H' _ pv => Evl.sq_of pv.2.1) (fun j x σ H5 H6 hj pv y => ?_) (fun σ H5 pv => ?_)
    · obtain ⟨e5, hcp5, hA5, ⟨vs, hvs, hB⟩, o3, o4, o5, o6, rfl⟩ := pv
      obtain ⟨rfl, hx⟩ := y
      obtain ⟨pr, hpr, ta, t, sv, rfl, hta, ⟨tt, rfl, htt⟩, ⟨ss, rfl, hss⟩⟩ := hA5.get hx
      obtain ⟨hp1, hp2⟩ := hl1000 pr (List.mem_of_getElem? hpr)
      refine ⟨ta, _, rfl, Evl.st_of hta, rfl, _, _, rfl, _, _, rfl, rfl, ?_⟩
      refine ⟨_, rfl, ra, _, rfl, Evl.st_of (e5 _ _ hra), for_it walk_enumT (fun k σ H' => Ex H H' ∧ H' cp = some (.lst us') ∧ A2 (StP H') l us' ∧ H' tt = some (.tup (pr.1.map iv)) ∧ H' ss = some (.tup (pr.2.map iv)) ∧ H' ra = some (.tup (r.map iv)) ∧ (∃ vs, H' f = some (.lst vs) ∧ A2 (StP H') (longerM r (l.take j) ++ ext1 r pr k) vs) ∧ ∃ o5 o6, σ = [some (.ref a), some (.ref b), some (.ref ra), some (.ref f), some (.ref tt), some (.ref ss), o5, o6])
        ⟨e5, hcp5, hA5, htt, hss, e5 _ _ hra, ⟨vs, hvs, by simpa [ext1] using hB⟩, o5, o6, rfl⟩ (fun k σ H' _ pv => Evl.st_of pv.2.2.2.2.2.1) (fun k x σ H7 H8 hk pv y => ?_) (fun σ H7 pv => ?_)⟩
      · obtain ⟨e7, hcp7, hA7, htt7, hss7, hra7, ⟨ws, hws, hB7⟩, o5, o6, rfl⟩ := pv
        obtain ⟨T1, x1, x2, rfl, hT1, rfl, hx1, hx2⟩ := y
        cases hx1
        obtain ⟨sgn, hs, rfl⟩ := iv_ix hx2
        have hkn : k < n := by rw [← hrml]; exact hk
        have hgd : r.getD k 0 = sgn := getD_ix hs
        have eT := Ex.new (o := .tup [.int (k : Int), iv sgn]) hT1
        have hnx : ¬ (k ∉ pr.1 ∧ r.getD k 0 ∉ pr.2) → ∃ vs, (upd H7 T1 (.tup [.int (k : Int), iv sgn])) f = some (.lst vs) ∧ A2 (StP (upd H7 T1 (.tup [.int (k : Int), iv sgn]))) (longerM r (l.take j) ++ ext1 r pr (k + 1)) vs := fun c => by
          refine ⟨ws, eT _ _ hws, ?_⟩
          rw [ext1_succ, if_neg c, List.append_nil]
          exact hB7.mono fun p v _ z => z.mono (kpE eT)
        have hnext2 : ∀ (H9 : Hp), Kp H7 H9 → Ex H H9 → H9 cp = some (.lst us') → (∃ vs, H9 f = some (.lst vs) ∧ A2 (StP H9) (longerM r (l.take j) ++ ext1 r pr (k + 1)) vs) → Ex H H9 ∧ H9 cp = some (.lst us') ∧ A2 (StP H9) l us' ∧ H9 tt = some (.tup (pr.1.map iv)) ∧ H9 ss = some (.tup (pr.2.map iv)) ∧ H9 ra = some (.tup (r.map iv)) ∧ (∃ vs, H9 f = some (.lst vs) ∧ A2 (StP H9) (longerM r (l.take j) ++ ext1 r pr (k + 1)) vs) ∧ ∃ o5 o6, [some (.ref a), some (.ref b), some (.ref ra), some (.ref f), some (.ref tt), some (.ref ss), some (iv k), some (iv sgn)] = [some (.ref a), some (.ref b), some (.ref ra), some (.ref f), some (.ref tt), some (.ref ss), o5, o6] :=
          fun H9 kp ex hc hv => ⟨ex, hc, hA7.mono (fun p v _ z => z.mono kp), kp _ _ trivial htt7, kp _ _ trivial hss7, kp _ _ trivial hra7, hv, _, _, rfl⟩
        refine ⟨T1, _, rfl, Evl.st_of upd_same, rfl, _, _, rfl, _, _, rfl, rfl, ?_⟩
        refine ⟨_, rfl, _, rfl, tt, _, rfl, .inr (Evl.st_of (eT _ _ htt7)), rfl, iv_all, _, rfl, ?_⟩
        refine ite2 (fun c1 => ?_) (fun c1 => ?_)
        · have c1' : k ∉ pr.1 := fun z => by
            have := inV_iv.mpr z
            rw [show inV (V.int (k : Int)) (pr.1.map iv) = true from this] at c1
            simp at c1
          refine ⟨_, rfl, _, rfl, ss, _, rfl, .inr (Evl.st_of (eT _ _ hss7)), rfl, iv_all, _, rfl, ?_⟩
          refine ite2 (fun c2 => ?_) (fun c2 => ?_)
          · have c2' : sgn ∉ pr.2 := fun z => by
              have := inV_iv.mpr z
              rw [this] at c2
              simp at c2
            refine ⟨_, rfl, .inl ⟨rfl, _, Evl.sq_of (eT _ _ hws)⟩, _, rfl, _, rfl, (by show 1 ≤ sizeLine; decide), fun q1 hq1 => ?_⟩
            have e1 := Ex.new (o := .tup [V.int (k : Int)]) hq1
            refine cat1 (c := k) (e1 _ _ (eT _ _ htt7)) upd_same hp1 fun v1 H9 e9 hv1 => ?_
            refine ⟨_, rfl, _, rfl, (by show 1 ≤ sizeLine; decide), fun q2 hq2 => ?_⟩
            have e2' := Ex.new (o := .tup [iv sgn]) hq2
            refine cat1 (c := sgn) (e2' _ _ (e9 _ _ (e1 _ _ (eT _ _ hss7)))) upd_same hp2 fun v2 H10 e10 hv2 => ?_
            refine ⟨(by show 2 ≤ sizeLine; decide), fun q3 hq3 => ?_⟩
            have e3' := Ex.new (o := .tup [v1, v2]) hq3
            have eAll : Ex H7 (upd H10 q3 (.tup [v1, v2])) := (((eT.trans e1).trans e9).trans (e2'.trans e10)).trans e3'
            have hfA := eAll _ _ hws
            have hlw : ws.length ≤ 1000000 := by
              rw [← hB7.len, List.length_append]
              have z1 := longerM_len r (l.take j)
              have z2 := ext1_len r pr k
              rw [hrl, List.length_take] at z1
              have z3 : (min j l.length + 1) * n ≤ l.length * n := Nat.mul_le_mul_right n (by omega)
              rw [Nat.succ_mul] at z3
              omega
            refine ⟨f, ws, _, rfl, rfl, hfA, sz_lt (by omega), ?_⟩
            have kpA : Kp H7 (upd (upd H10 q3 (.tup [v1, v2])) f (.lst (ws ++ [.ref q3]))) := (kpE eAll).trans (kpP (Px.upd hfA))
            have kp10 : Kp H10 (upd (upd H10 q3 (.tup [v1, v2])) f (.lst (ws ++ [.ref q3]))) := (kpE e3').trans (kpP (Px.upd hfA))
            refine hnext2 _ kpA (Ex.mut (e7.trans eAll) hfn) (by rw [upd_ne hcf]; exact eAll _ _ hcp7) ⟨_, upd_same, ?_⟩
            rw [ext1_succ, if_pos ⟨c1', by rw [hgd]; exact c2'⟩, ← List.append_assoc]
            refine (hB7.mono fun p v _ z => z.mono kpA).snoc ⟨q3, v1, v2, rfl, kpP (Px.upd hfA) q3 _ trivial upd_same, ?_, ?_⟩
            · exact hv1.mono (((kpE e2').trans (kpE e10)).trans kp10)
            · rw [hgd]
              exact hv2.mono kp10
          · exact hnext2 _ (kpE eT) (e7.trans eT) (eT _ _ hcp7) (hnx fun z => c2 (by
              have h0 : inV (iv sgn) (pr.2.map iv) = false := Bool.eq_false_iff.mpr fun h => z.2 (by rw [hgd]; exact inV_iv.mp h)
              rw [h0]
              rfl))
        · exact hnext2 _ (kpE eT) (e7.trans eT) (eT _ _ hcp7) (hnx fun z => c1 (by
            have h0 : inV (V.int (k : Int)) (pr.1.map iv) = false := Bool.eq_false_iff.mpr fun h => z.1 (inV_iv.mp h)
            rw [h0]
            rfl))
      · obtain ⟨e7, hcp7, hA7, htt7, hss7, hra7, ⟨ws, hws, hB7⟩, o5, o6, rfl⟩ := pv
        rw [hrml] at hB7
        refine ⟨e7, hcp7, hA7, ⟨ws, hws, ?_⟩, _, _, _, _, rfl⟩
        rw [longerM_take hpr, hrl]
        exact hB7
    · obtain ⟨e5, hcp5, hA5, ⟨vs, hvs, hB⟩, o3, o4, o5, o6, rfl⟩ := pv
      rw [← hAl, List.take_length] at hB
      refine ⟨_, rfl, e5, f, vs, _, _, _, _, _, _, rfl, hfn, hvs, ?_⟩
      rw [hnext]
      exact hB
  · obtain ⟨e, b, us', o1, o2, o3, o4, o5, o6, rfl, hbn, hb, hA⟩ := pv
    rw [← hl, List.take_length] at hA
    have hlen := crossP_len (n := n) rs [([], [])] h3
    rw [h1, List.length_singleton, Nat.one_mul] at hlen
    have h7 := pow_le7 h2 h2
    have hlA := hA.len
    have hlen' : (crossP rs).length ≤ n ^ n := hlen
    refine ⟨_, rfl, b, rfl, ⟨_, Evl.sq_of hb⟩, fun Dl hD => ?_⟩
    refine lc_kp walk_list hD (fun i y H' => ∀ p, (crossP rs)[i]? = some p → Nu H' p.1 y) (by omega) (fun H3 e => Evl.ex_l e (Evl.sq_of hb)) (fun i y _ _ e z p hp => (z p hp).mono e) (fun i x H4 H5 Kt hi e1 hx k => ?_) (fun ys H4 e4 hy a2 => ?_)
    · obtain ⟨rfl, hx⟩ := hx
      obtain ⟨p, hp, ta, t, s, rfl, hta, htn, hsn⟩ := hA.get hx
      refine ⟨ta, _, rfl, Evl.st_of (e1 _ _ hta), rfl, _, _, rfl, _, _, rfl, rfl, rfl, _, rfl, k _ _ (Ex.refl _) fun p' hp' => ?_⟩
      rw [hp] at hp'
      cases hp'
      exact htn.mono (kpE e1)
    · refine q _ _ ys (Evl.fresh_back e hD) (e.trans e4) hy ?_
      rw [← hlA] at a2
      exact A2.map (A2_range a2)
end
end K65
namespace K65
open PySem PySem.Spec PyProof.Rows L2 SlX
open Evl (Ex)
open PySem.W (Datum Tup)
section
variable {P : Program} {w : World} {K : PySem.W.Frag} {mg : Str → Option Value} {base : Heap} {C CM : Addr}
abbrev s__law_meets : Stmt := topS 57
theorem sc__law_meets : FnScope ["_law_begun", "_law_one", "_law_other", "_law_left", "_law_right_here"] ["_law_begun", "_law_one"] (defScope s__law_meets) := ⟨rfl, rfl, rfl, by decide +kernel, rfl, by decide +kernel, by decide +kernel⟩
def sp_lmeets : Sp := fun vs H Q _ => ∃ (v v2 : V) (bs : List (List Nat)) (t : List Nat), vs = [v, v2] ∧ Nuu H bs v ∧ Nu H t v2 ∧ bs.length ≤ 1000 ∧ (∀ u ∈ bs, u.length ≤ 1000) ∧ ∀ H', Ex H H' → Q (.bl (bs.any fun u => meets u t)) H'
theorem ok_lmeets (T : Txt K mg) (D : Df K mg "_law_meets" s__law_meets) : Ca P w K mg base 1 "_law_meets" ["_law_begun", "_law_one"] sp_lmeets := by
  refine ca_mk D sc__law_meets (fun vs H Q E h => ?_) (fun _ _ _ _ _ _ us hl => match us, hl with | [_, _], _ => rfl) (fun f cdv A outer s H vs Q E hr h => ?_)
  · obtain ⟨v, v2, bs, t, rfl, _⟩ := h
    rfl
  obtain ⟨v, v2, bs, t, rfl, hv, hv2, h1, h2, q⟩ := h
  have nd := sc__law_meets.nd
  refine ⟨_, (pss_cons (ps_for PassesOwn.never rfl (pi_tupK K (pv 0)) (pg_name (i := 2) nd rfl (Or.inl rfl))
      (pss_one (ps_if (pt_cmpR (op_neDK K hr.units) (pe_lc (own := [("_law_left", 3), ("_law_right_here", 4)]) rfl nd (pi_zipAK K (by rfl) T.m_zip (pa_cons (pv 2) (pa_cons (pv 1) pa_nil))) (blkOk_by (N := ["_law_begun", "_law_one", "_law_other", "_law_left", "_law_right_here"]) (sc := defScope s__law_meets) (by decide +kernel)) (fun _ _ _ _ _ => (pg_tupK K (n := 2) (by rfl) (pgs_cons (pg_name (i := 3) nd rfl (by first | exact Or.inl rfl | exact Or.inr rfl)) (pgs_cons (pg_name (i := 4) nd rfl (by first | exact Or.inl rfl | exact Or.inr rfl)) pgs_nil)))) (fun _ _ _ _ _ => (pts_one (pt_cmpR op_eq (pv 3) (pv 4) (nomark _)))) (fun _ _ _ _ _ => pe_int)) (pe_lst pa_nil) (nomark _)) (pss_one (ps_ret pe_bl)) pss_nil)))
    (pss_one (ps_ret pe_bl))), ?_⟩
  obtain ⟨a, us, rfl, ha, hus⟩ := id hv
  obtain ⟨b, rfl, hb⟩ := id hv2
  have hl := hus.len
  refine ⟨_, rfl, a, rfl, ⟨_, Evl.st_of ha⟩, for_it walk_tup (fun i σ H' => Ex H H' ∧ (bs.take i).any (fun u => meets u t) = false ∧ ∃ o1 o2 o3, σ = [some (.ref a), some (.ref b), o1, o2, o3])
    ⟨Ex.refl H, by simp, none, none, none, rfl⟩ (fun i σ H' _ pv => Evl.st_of (pv.1 _ _ ha)) (fun i x σ H1 H2 hi pv y => ?_) (fun σ H1 pv => ?_)⟩
  · obtain ⟨e, hno, o1, o2, o3, rfl⟩ := pv
    obtain ⟨rfl, hx⟩ := y
    obtain ⟨u, hu, ua, rfl, hua⟩ := hus.get hx
    have hul := h2 u (List.mem_of_getElem? hu)
    refine ⟨_, rfl, _, rfl, ua, b, _, _, rfl, .inr ⟨Evl.st_of (e _ _ hua), Evl.st_of (e _ _ hb), fun D1 hD => ?_⟩⟩
    refine lc_gen (walk_zipT (n := (u.zip t).length) (by simp)) hD (fun i => ((u.zip t).getD i (0, 1)).1 == ((u.zip t).getD i (0, 1)).2) (fun i y H' => y = .int 1) (by rw [List.length_zip]; omega) (fun H3 e3 => ⟨Evl.st_of (e3 _ _ (e _ _ hua)), Evl.st_of (e3 _ _ (e _ _ hb))⟩) (fun i y _ _ _ z => z) (fun i x H4 H5 Kt Kf hi e1 _ hx k1 k2 => ?_) (fun ys H4 e4 hy a2 => ?_)
    · obtain ⟨T1, x1, x2, rfl, hT1, rfl, hx1, hx2⟩ := hx
      obtain ⟨m1, hm1, rfl⟩ := iv_ix hx1
      obtain ⟨m2, hm2, rfl⟩ := iv_ix hx2
      have hz : (u.zip t)[i]? = some (m1, m2) := List.getElem?_zip_eq_some.mpr ⟨hm1, hm2⟩
      refine ⟨T1, _, rfl, Evl.st_of upd_same, rfl, _, _, rfl, _, _, rfl, rfl, rfl, _, rfl, _, rfl, rfl, _, rfl, ?_⟩
      refine ite2 (fun c => ?_) (fun c => ?_)
      · have c' : V.int (m1 : Int) = V.int (m2 : Int) := of_decide_eq_true c
        refine k1 _ _ (Ex.new hT1) ?_ rfl
        rw [getD_ix hz]
        have := V.int.inj c'
        show (m1 == m2) = true
        rw [beq_iff_eq]
        omega
      · refine k2 _ (Ex.new hT1) ?_
        rw [getD_ix hz]
        show (m1 == m2) = false
        rw [beq_eq_false_iff_ne]
        exact fun z => c (decide_eq_true (by rw [z]))
    · have hys := A2.eqs (f := fun _ => V.int 1) a2
      generalize hfl : (List.range (u.zip t).length).filter (fun i => ((u.zip t).getD i (0, 1)).1 == ((u.zip t).getD i (0, 1)).2) = fl at hys
      have hm : meets u t = !decide (fl.map (fun _ => (1 : Int)) = []) := by
        rw [Bool.eq_iff_iff, Bool.not_eq_true', decide_eq_false_iff_not]
        unfold meets
        rw [List.any_eq_true]
        constructor
        · rintro ⟨p, hp, he⟩ z
          obtain ⟨i, hi⟩ := List.getElem?_of_mem hp
          have : i ∈ fl := by
            rw [← hfl]
            exact List.mem_filter.mpr ⟨List.mem_range.mpr (List.getElem?_eq_some_iff.mp hi).1, by rw [getD_ix hi]; exact he⟩
          have hf : fl = [] := List.map_eq_nil_iff.mp z
          rw [hf] at this
          cases this
        · intro z
          cases fl with
          | nil => exact absurd rfl z
          | cons i r =>
            have : i ∈ (List.range (u.zip t).length).filter (fun i => ((u.zip t).getD i (0, 1)).1 == ((u.zip t).getD i (0, 1)).2) := by rw [hfl]; exact List.mem_cons_self ..
            obtain ⟨hi, he⟩ := List.mem_filter.mp this
            exact ⟨_, getD_mem (0, 1) (List.mem_range.mp hi), he⟩
      refine ⟨(by show 0 ≤ sizeLine; decide), fun l hl2 => ?_⟩
      have eL := Ex.new (o := .lst []) hl2
      refine neD_of (a := fl.map fun _ => (1 : Int)) (b := ([] : List Int)) lay_li (dp_lst (by rw [eL _ _ hy, hys, List.map_map]; rfl)) (.lst (Evl.sq_of upd_same) .nil) ⟨_, rfl, ?_⟩
      rw [← hm]
      have hE := (e.trans e4).trans eL
      cases hmm : meets u t with
      | true =>
        refine iteT ?_
        have : (bs.any fun u => meets u t) = true := List.any_eq_true.mpr ⟨u, List.mem_of_getElem? hu, hmm⟩
        have hq := q _ hE
        rw [this] at hq
        exact hq
      | false =>
        refine iteF ⟨hE, ?_, _, _, _, rfl⟩
        rw [List.take_succ, hu, List.any_append, hno]
        simp [hmm]
  · obtain ⟨e, hno, o1, o2, o3, rfl⟩ := pv
    rw [← hl, List.take_length] at hno
    have hq := q _ e
    rw [hno] at hq
    exact hq
end
end K65
namespace K65
open PySem PySem.Spec PyProof.Rows L2 SlX
open Evl (Ex)
open PySem.W (Datum Tup)
theorem A2.unsnoc {α : Type} {R : α → V → Prop} : ∀ {l : List α} {a : α} {vs : List V}, A2 R (l ++ [a]) vs → ∃ us v, vs = us ++ [v] ∧ A2 R l us ∧ R a v
  | [], a, [v], h => ⟨[], v, rfl, trivial, h.1⟩
  | [], a, v :: w :: r, h => h.2.elim
  | [], a, [], h => h.elim
  | b :: l, a, v :: vs, h => by
    obtain ⟨us, z, rfl, h2, h3⟩ := A2.unsnoc h.2
    exact ⟨v :: us, z, rfl, ⟨h.1, h2⟩, h3⟩
  | b :: l, a, [], h => h.elim
theorem A2Nuu.mono {H H' : Hp} {ps : List (List (List Nat))} {us : List V} (e : Kp H H') (h : A2 (Nuu H) ps us) : A2 (Nuu H') ps us := h.mono fun _ _ _ q => q.mono e
section
variable {P : Program} {w : World} {K : PySem.W.Frag} {mg : Str → Option Value} {base : Heap} {C CM : Addr}
/-- t + (x,), a tuple of tuples -/
theorem catT1 {H : Hp} {ta tb : Addr} {b : List (List Nat)} {t : List Nat} {bus : List V} {vt : V} {Q : VK} (ha : H ta = some (.tup bus)) (hA : A2 (Nu H) b bus) (hb : H tb = some (.tup [vt])) (ht : Nu H t vt) (hl : b.length ≤ 1000) (q : ∀ v H', Ex H H' → Nuu H' (b ++ [t]) v → Q v H') : rCatA K (.ref ta) (.ref tb) H Q := by
  have hbl := hA.len
  refine ⟨ta, tb, _, _, rfl, rfl, Evl.st_of ha, Evl.st_of hb, sz_le (by show bus.length + 1 ≤ _; omega), fun e => ?_, fun _ e => absurd e (by simp), fun _ _ p hp => ?_⟩
  · subst e
    have : b = [] := List.eq_nil_of_length_eq_zero hbl
    subst this
    exact q _ _ (Ex.refl H) ⟨tb, _, rfl, hb, ht, trivial⟩
  · refine q _ _ (Ex.new hp) ⟨p, _, rfl, upd_same, ?_⟩
    exact (A2Nu.mono (kpE (Ex.new hp)) hA).snoc (ht.mono (kpE (Ex.new hp)))
theorem dpAll_nuu {H : Hp} {ps : List (List (List Nat))} {us : List V} (h : A2 (Nuu H) ps us) : DpAll K H us ((ps.map fun t => Tup.mk (tts t)).map Datum.toD) := dpAll_of (A2.map (h.mono fun _ _ _ q => q.dp))
theorem dp_lnn {H : Hp} {p : Addr} {ps : List (List (List Nat))} {us : List V} (h : H p = some (.lst us)) (a : A2 (Nuu H) ps us) : Dp K H (.ref p) (Datum.toD (ps.map fun t => Tup.mk (tts t))) := .lst (Evl.sq_of h) (dpAll_nuu a)
abbrev s__law_partings : Stmt := topS 56
theorem sc__law_partings : FnScope ["_law_rows_here", "_law_most", "_law_order", "_law_found", "_law_waits", "_law_some", "_law_begun", "_law_one"] ["_law_rows_here", "_law_most"] (defScope s__law_partings) := ⟨rfl, rfl, rfl, by decide +kernel, rfl, by decide +kernel, by decide +kernel⟩
def sp_lpartings : Sp := fun vs H Q _ => ∃ (v : V) (n : Nat) (rs : List (List Nat)), vs = [v, .int 3] ∧ Nuu H rs v ∧ rs.length = n ∧ 1 ≤ n ∧ n ≤ 7 ∧ (∀ r ∈ rs, r.length = n) ∧
  ∀ p H' us ps, H p = none → Ex H H' → H' p = some (.lst us) → A2 (Nuu H') ps us → (∀ t ∈ ps, IsPart n rs t) → (ps = [] ↔ ∀ ts, ¬ IsPart n rs ts) → ps.length ≤ 3 → Q (.ref p) H'
/-- what stands at each turn of the search -/
def Srch (H : Hp) (n : Nat) (rs cs : List (List Nat)) (fl wl sc : Addr) (ws fs : List (List (List Nat))) (H' : Hp) : Prop :=
  Ex H H' ∧ (∃ vs, H' wl = some (.lst vs) ∧ A2 (Nuu H') ws vs) ∧ (∃ vs, H' fl = some (.lst vs) ∧ A2 (Nuu H') fs vs) ∧ LN H' sc cs ∧
  (∀ b ∈ ws, PP n rs b) ∧ (∀ (i : Nat) b, ws[i]? = some b → i ≤ cs.length * b.length) ∧ (∀ b ∈ fs, IsPart n rs b) ∧ fs.length ≤ 3 ∧ (fs ≠ [] ∨ Leads n rs ws)
theorem ok_lpartings (T : Txt K mg) (D : Df K mg "_law_partings" s__law_partings) (c_law_crossing : Ca P w K mg base 1 "_law_crossing" ["_law_rows_here"] sp_crossing) (c_law_meets : Ca P w K mg base 1 "_law_meets" ["_law_begun", "_law_one"] sp_lmeets) :
    Ca P w K mg base 2 "_law_partings" ["_law_rows_here", "_law_most"] sp_lpartings := by
  refine ca_mk D sc__law_partings (fun vs H Q E h => ?_) (fun _ _ _ _ _ _ us hl => match us, hl with | [_, _], _ => rfl) (fun f cdv A outer s H vs Q E hr h => ?_)
  · obtain ⟨v, n, rs, rfl, _⟩ := h
    rfl
  obtain ⟨v, n, rs, rfl, hv, h1, h2, h3, h4, q⟩ := h
  have nd := sc__law_partings.nd
  refine ⟨_, (pss_cons (ps_par3 (i := 2) (j := 3) (l := 4) (by rfl) nd rfl rfl rfl (by decide) (by decide) (by decide) rfl rfl rfl (pa_cons (pe_callB (call_len_seqK K) (by rfl) T.m_len (by decide +kernel) (pa_cons (pv 0) pa_nil)) (pa_cons (pe_lst pa_nil) (pa_cons (pe_lst (pa_cons (pe_tup pa_nil) pa_nil)) pa_nil))) (by rfl))
    (pss_cons (ps_set (i := 5) nd rfl (Or.inl rfl) (pe_ca c_law_crossing hr (pa_cons (pv 0) pa_nil)))
    (pss_cons (ps_while PassesOwn.never (PW.pt (pw_and (pt_cmpR (op_neDK K hr.units) (pv 4) (pe_lst pa_nil) (nomark _)) (pw_and1 (pt_cmpR op_lt (pe_callB (call_len_seqK K) (by rfl) T.m_len (by decide +kernel) (pa_cons (pv 3) pa_nil)) (pv 1) (nomark _))))) (pss_cons (ps_set (i := 6) nd rfl (Or.inl rfl) (pe_bm0 PySem.F.plainAttrs_list PySem.F.slot_list_pop PySem.F.type_list_pop mt_pop (pv 4)))
    (pss_one (ps_if (pt_cmpR op_eq (pe_callB (call_len_seqK K) (by rfl) T.m_len (by decide +kernel) (pa_cons (pv 6) pa_nil)) (pv 2) (nomark _)) (pss_one (ps_expr (pe_bm PySem.F.plainAttrs_list PySem.F.slot_list_append PySem.F.type_list_append mt_append (pv 3) (pa_cons (pv 6) pa_nil)))) (pss_one (ps_for PassesOwn.never rfl (pi_listK K (pe_revLK K (pv 5))) (pg_name (i := 7) nd rfl (Or.inl rfl))
      (pss_one (ps_if (PW.pt (pw_and (pt_cmpR op_eq (pe_ix (ix_tupK K) (pv 7) pe_int (fun _ _ => rfl)) (pe_callB (call_len_seqK K) (by rfl) T.m_len (by decide +kernel) (pa_cons (pv 6) pa_nil)) (nomark _)) (pw_and1 (pt_not (pt_val (pe_ca c_law_meets hr (pa_cons (pv 6) (pa_cons (pv 7) pa_nil)))))))) (pss_one (ps_expr (pe_bm PySem.F.plainAttrs_list PySem.F.slot_list_append PySem.F.type_list_append mt_append (pv 4) (pa_cons (pe_op (op_catAK K) (pv 6) (pe_tup (pa_cons (pv 7) pa_nil))) pa_nil)))) pss_nil))))))))
    (pss_one (ps_ret (pv 3)))))), ?_⟩
  obtain ⟨a, us, rfl, ha, hus⟩ := id hv
  have hl := hus.len
  refine ⟨_, rfl, a, us, rfl, .inr (Evl.st_of ha), (by show 0 ≤ sizeLine; decide), fun fl hfl => ⟨(by show 0 ≤ sizeLine; decide), fun t0 ht0 => ⟨(by show 1 ≤ sizeLine; decide), fun wl hwl => ⟨_, _, _, rfl, ?_⟩⟩⟩⟩
  have hfln : H fl = none := hfl
  have e1 := Ex.new (o := .lst []) hfl
  have e2 := Ex.new (o := .tup []) ht0
  have e3 := Ex.new (o := .lst [.ref t0]) hwl
  have e123 := e1.trans (e2.trans e3)
  have hwln : H wl = none := Evl.fresh_back (e1.trans e2) hwl
  have hfw : fl ≠ wl := ne_of_none (e2 _ _ upd_same) hwl
  refine ⟨_, rfl, _, n, rs, rfl, hv.mono (kpE e123), h1, h3, h4, fun sc H1 cus hsc e4 hscl hcs => ?_⟩
  have hscf : sc ≠ fl := Ne.symm (ne_of_none ((e2.trans e3) _ _ upd_same) hsc)
  have hscw : sc ≠ wl := Ne.symm (ne_of_none upd_same hsc)
  have hscn : H sc = none := Evl.fresh_back e123 hsc
  have hE := e123.trans e4
  have hcsl := hcs.len
  have hcM : (crossM rs).length ≤ 823543 := Nat.le_trans (crossM_len h1 h4) (pow_le7 h3 h3)
  have hmem : ∀ t, t ∈ crossM rs ↔ IsCross n rs t := fun t => mem_crossM h1 h4
  generalize crossM rs = cs at hcs hcsl hcM hmem
  have hlen0 : V.int (us.length : Int) = iv n := by rw [← hl, h1]; rfl
  rw [hlen0]
  refine ⟨fun m σ H' => ∃ ws fs, m = mu cs.length n ws ∧ Srch H n rs cs fl wl sc ws fs H' ∧ ∃ o6 o7, σ = [some (.ref a), some (.int 3), some (iv n), some (.ref fl), some (.ref wl), some (.ref sc), o6, o7], ⟨_, [[]], [], rfl, ⟨hE, ⟨[.ref t0], e4 _ _ upd_same, ⟨⟨t0, [], rfl, (e3.trans e4) _ _ upd_same, trivial⟩, trivial⟩⟩, ⟨[], ((e2.trans e3).trans e4) _ _ upd_same, trivial⟩, ⟨cus, hscl, hcs⟩, ?_, ?_, by simp, by simp, .inr ?_⟩, none, none, rfl⟩, ?_⟩
  · intro b hb
    have : b = [] := by simpa using hb
    subst this
    exact PP.nil
  · intro i b hi
    have := (List.getElem?_eq_some_iff.mp hi).1
    have : i = 0 := by simpa using this
    rw [this]
    exact Nat.zero_le _
  · intro ts hts
    exact ⟨[], by simp, by simp⟩
  rintro m σ H2 ⟨ws, fs, rfl, ⟨hE2, ⟨wv, hwv, hW⟩, ⟨fv, hfv, hF⟩, hLN, hPP, hpos, hfs, hf3, hex⟩, o6, o7, rfl⟩
  have hWl := hW.len
  have hFl := hF.len
  refine ⟨_, rfl, (by show 0 ≤ sizeLine; decide), fun l hl2 => ?_⟩
  have eL := Ex.new (o := .lst []) hl2
  refine neD_of (a := ws.map fun t => Tup.mk (tts t)) (b := ([] : List (Tup (Tup Int)))) lay_ltti (dp_lnn (eL _ _ hwv) (A2Nuu.mono (kpE eL) hW)) (.lst (Evl.sq_of upd_same) .nil) ⟨_, rfl, ?_⟩
  have hdone : ∀ H3, Ex H2 H3 → (ws = [] ∨ 3 ≤ fs.length) → Q (.ref fl) H3 := fun H3 e hd => by
    refine q fl H3 fv fs hfln (hE2.trans e) (e _ _ hfv) (A2Nuu.mono (kpE e) hF) hfs ⟨fun z ts hts => ?_, fun z => ?_⟩ hf3
    · rcases hex with y | y
      · exact y z
      · rcases hd with x | x
        · obtain ⟨b, hb, _⟩ := y ts hts
          rw [x] at hb
          cases hb
        · rw [z] at x
          simp at x
    · cases fs with
      | nil => rfl
      | cons f r => exact absurd (hfs f (List.mem_cons_self ..)) (z f)
  rcases List.eq_nil_or_concat ws with rfl | ⟨ws', b, rfl⟩
  · refine iteF ?_
    exact ⟨_, rfl, hdone _ eL (.inl rfl)⟩
  have hne : decide ((ws' ++ [b]).map (fun t => Tup.mk (tts t)) = ([] : List (Tup (Tup Int)))) = false := decide_eq_false (by simp)
  rw [List.concat_eq_append] at *
  rw [hne]
  refine iteT ⟨_, rfl, fl, _, rfl, .inl (Evl.sq_of (eL _ _ hfv)), _, rfl, _, _, rfl, rfl, _, rfl, ?_⟩
  refine ite2 (fun c => ?_) (fun c => ?_)
  · refine ⟨fun σ' H' => ∃ ws2 fs2, mu cs.length n ws2 < mu cs.length n (ws' ++ [b]) ∧ Srch H n rs cs fl wl sc ws2 fs2 H' ∧ ∃ o6 o7, σ' = [some (.ref a), some (.int 3), some (iv n), some (.ref fl), some (.ref wl), some (.ref sc), o6, o7], fun σ' H' ⟨ws2, fs2, g1, g2, g3⟩ => ⟨_, g1, ws2, fs2, rfl, g2, g3⟩, ?_⟩
    have hc3 : fs.length < 3 := by
      have : ((fv.length : Nat) : Int) < 3 := of_decide_eq_true c
      omega
    obtain ⟨wv', vb, rfl, hW', hvb⟩ := hW.unsnoc
    have hW'l := hW'.len
    have hPb := hPP b (by simp)
    have hposb : ws'.length ≤ cs.length * b.length := hpos ws'.length b (by simp)
    have hwv3 := eL _ _ hwv
    have px : Px wl (upd H2 l (.lst [])) (upd (upd H2 l (.lst [])) wl (.lst (wv' ++ [vb]).dropLast)) := Px.upd hwv3
    refine ⟨_, rfl, .inl ⟨rfl, _, Evl.sq_of hwv3⟩, wl, _, vb, rfl, rfl, hwv3, by simp, ?_⟩
    rw [List.dropLast_concat] at px ⊢
    have kp4 : Kp H2 (upd (upd H2 l (.lst [])) wl (.lst wv')) := (kpE eL).trans (kpP px)
    have hE4 : Ex H (upd (upd H2 l (.lst [])) wl (.lst wv')) := Ex.mut (hE2.trans eL) hwln
    have hwl4 : (upd (upd H2 l (.lst [])) wl (.lst wv')) wl = some (.lst wv') := upd_same
    have hfl4 : (upd (upd H2 l (.lst [])) wl (.lst wv')) fl = some (.lst fv) := by rw [upd_ne hfw]; exact eL _ _ hfv
    have hLN4 : LN (upd (upd H2 l (.lst [])) wl (.lst wv')) sc cs := (hLN.mono eL).px px hscw
    have hvb4 := hvb.mono kp4
    have hW4 := A2Nuu.mono kp4 hW'
    have hF4 := A2Nuu.mono kp4 hF
    generalize upd (upd H2 l (.lst [])) wl (.lst wv') = H4 at hE4 hwl4 hfl4 hLN4 hvb4 hW4 hF4
    obtain ⟨ba, bus, rfl, hba, hbA⟩ := id hvb4
    have hbl := hbA.len
    have hPP' : ∀ x ∈ ws', PP n rs x := fun x hx => hPP x (List.mem_append_left _ hx)
    have hpos' : ∀ (i : Nat) x, ws'[i]? = some x → i ≤ cs.length * x.length := fun i x hx => hpos i x (by rw [List.getElem?_append_left (List.getElem?_eq_some_iff.mp hx).1]; exact hx)
    refine ⟨_, rfl, ba, bus, rfl, .inr (Evl.st_of hba), _, rfl, rfl, _, rfl, ?_⟩
    refine ite2 (fun c2 => ?_) (fun c2 => ?_)
    · have hbn : b.length = n := by
        have := V.int.inj (of_decide_eq_true c2)
        omega
      refine ⟨_, rfl, .inl ⟨rfl, _, Evl.sq_of hfl4⟩, _, rfl, fl, fv, _, rfl, rfl, hfl4, sz_lt (by omega), ws', fs ++ [b], mu_pop, ?_, _, _, rfl⟩
      have px5 : Px fl H4 (upd H4 fl (.lst (fv ++ [.ref ba]))) := Px.upd hfl4
      refine ⟨Ex.mut hE4 hfln, ⟨wv', by rw [upd_ne (Ne.symm hfw)]; exact hwl4, A2Nuu.mono (kpP px5) hW4⟩, ⟨_, upd_same, (A2Nuu.mono (kpP px5) hF4).snoc (hvb4.mono (kpP px5))⟩, hLN4.px px5 hscf, hPP', hpos', fun x hx => ?_, by simp; omega, .inl (by simp)⟩
      rcases List.mem_append.mp hx with z | z
      · exact hfs x z
      · have : x = b := by simpa using z
        subst this
        exact hPb.part hbn
    · have hbn : b.length < n := by
        have := hPb.1
        have h9 : b.length ≠ n := fun z => c2 (decide_eq_true (by rw [← hbl, z]; rfl))
        omega
      obtain ⟨cus4, hcus4, hcsA⟩ := id hLN4
      have hcl := hcsA.len
      refine ⟨_, rfl, sc, cus4, rfl, Evl.sq_of hcus4, fun rp hrp => ⟨rp, rfl, ⟨_, Evl.sq_of upd_same⟩, ?_⟩⟩
      have eR := Ex.new (o := .lst cus4.reverse) hrp
      have hrw : rp ≠ wl := Ne.symm (ne_of_none hwl4 hrp)
      refine for_it walk_list (fun j σ H' => Ex H H' ∧ (∃ vs, H' wl = some (.lst vs) ∧ A2 (Nuu H') (ws' ++ ((cs.reverse.take j).filter (goodM b)).map fun t => b ++ [t]) vs) ∧ (∃ vs, H' fl = some (.lst vs) ∧ A2 (Nuu H') fs vs) ∧ LN H' sc cs ∧ (H' rp = some (.lst cus4.reverse) ∧ A2 (Nu H') cs.reverse cus4.reverse) ∧ Nuu H' b (.ref ba) ∧ ∃ o7, σ = [some (.ref a), some (.int 3), some (iv n), some (.ref fl), some (.ref wl), some (.ref sc), some (.ref ba), o7])
        ⟨hE4.trans eR, ⟨wv', eR _ _ hwl4, by simpa using A2Nuu.mono (kpE eR) hW4⟩, ⟨fv, eR _ _ hfl4, A2Nuu.mono (kpE eR) hF4⟩, hLN4.mono eR, ⟨upd_same, (A2Nu.mono (kpE eR) hcsA).rev⟩, hvb4.mono (kpE eR), o7, rfl⟩ (fun j σ H' _ pv => Evl.sq_of pv.2.2.2.2.1.1) (fun j x σ H5 H6 hj pv y => ?_) (fun σ H5 pv => ?_)
      · obtain ⟨hE5, ⟨wv5, hwl5, hW5⟩, ⟨fv5, hfl5, hF5⟩, hLN5, ⟨hrp5, hrA5⟩, hvb5, o7', rfl⟩ := pv
        obtain ⟨rfl, hx⟩ := y
        obtain ⟨t, ht, ta, rfl, hta⟩ := hrA5.get hx
        have htc : IsCross n rs t := (hmem t).mp (List.mem_reverse.mp (List.mem_of_getElem? ht))
        have ht0 : t[0]? = some (t.getD 0 0) := getD_of (by rw [htc.1.1]; exact h2)
        obtain ⟨ba', bus5, hbe, hba5, hbA5⟩ := id hvb5
        cases hbe
        have hbl5 := hbA5.len
        have hW5l := hW5.len
        have htk : (cs.reverse.take (j + 1)).filter (goodM b) = (cs.reverse.take j).filter (goodM b) ++ (if goodM b t = true then [t] else []) := by
          rw [List.take_succ, ht, List.filter_append]
          congr 1
          show [t].filter (goodM b) = _
          rw [List.filter_cons]
          rfl
        have hskip : ∀ H7 o7', Ex H6 H7 → goodM b t = false → Ex H H7 ∧ (∃ vs, H7 wl = some (.lst vs) ∧ A2 (Nuu H7) (ws' ++ ((cs.reverse.take (j + 1)).filter (goodM b)).map fun t => b ++ [t]) vs) ∧ (∃ vs, H7 fl = some (.lst vs) ∧ A2 (Nuu H7) fs vs) ∧ LN H7 sc cs ∧ (H7 rp = some (.lst cus4.reverse) ∧ A2 (Nu H7) cs.reverse cus4.reverse) ∧ Nuu H7 b (.ref ba) ∧ ∃ o7, [some (.ref a), some (.int 3), some (iv n), some (.ref fl), some (.ref wl), some (.ref sc), some (.ref ba), o7'] = [some (.ref a), some (.int 3), some (iv n), some (.ref fl), some (.ref wl), some (.ref sc), some (.ref ba), o7] := fun H7 o7' e7 hg => by
          refine ⟨hE5.trans e7, ⟨wv5, e7 _ _ hwl5, ?_⟩, ⟨fv5, e7 _ _ hfl5, A2Nuu.mono (kpE e7) hF5⟩, hLN5.mono e7, ⟨e7 _ _ hrp5, A2Nu.mono (kpE e7) hrA5⟩, hvb5.mono (kpE e7), _, rfl⟩
          rw [htk, hg]
          simpa using A2Nuu.mono (kpE e7) hW5
        refine ⟨_, rfl, ta, _, 0, _, rfl, rfl, Evl.st_of hta, at_n (i := 0) (iv_at ht0), _, rfl, ba, bus5, rfl, .inr (Evl.st_of hba5), rfl, _, rfl, ?_⟩
        refine ite2 (fun c3 => ?_) (fun c3 => ?_)
        · have hd0 : t.getD 0 0 = b.length := by
            have : ((t.getD 0 0 : Nat) : Int) = (bus5.length : Int) := V.int.inj (of_decide_eq_true c3)
            omega
          refine ⟨_, rfl, _, rfl, _, _, b, t, rfl, hvb5, ⟨ta, rfl, hta⟩, by omega, fun u hu => ?_, fun H7 e7 => ⟨_, rfl, ?_⟩⟩
          · obtain ⟨i, hi⟩ := List.getElem?_of_mem hu
            rw [(hPb.2.1 i u hi).1.1.1]
            omega
          cases hany : b.any (fun u => meets u t) with
          | true => exact hskip H7 _ e7 (by unfold goodM; rw [hany]; exact Bool.and_false _)
          | false =>
            have hg : goodM b t = true := by
              unfold goodM
              rw [hany, hd0, beq_self_eq_true]
              rfl
            refine ⟨_, rfl, .inl ⟨rfl, _, Evl.sq_of (e7 _ _ hwl5)⟩, _, rfl, _, rfl, (by show 1 ≤ sizeLine; decide), fun q1 hq1 => ?_⟩
            have e8 := Ex.new (o := .tup [.ref ta]) hq1
            have e78 := e7.trans e8
            refine catT1 (b := b) (t := t) (e78 _ _ hba5) (A2Nu.mono (kpE e78) hbA5) upd_same ⟨ta, rfl, e78 _ _ hta⟩ (by omega) fun v9 H9 e9 hv9 => ?_
            have e79 := e78.trans e9
            have hwl9 := e79 _ _ hwl5
            have hwN : wv5.length ≤ 10000000 := by
              rw [← hW5l, List.length_append, List.length_map]
              have z1 := List.length_filter_le (goodM b) (cs.reverse.take j)
              rw [List.length_take, List.length_reverse] at z1
              have z2 : cs.length * b.length ≤ 823543 * 7 := Nat.mul_le_mul hcM (by omega)
              omega
            refine ⟨wl, wv5, v9, rfl, rfl, hwl9, sz_lt (by omega), ?_⟩
            have px9 : Px wl H9 (upd H9 wl (.lst (wv5 ++ [v9]))) := Px.upd hwl9
            have kp9 := (kpE e79).trans (kpP px9)
            refine ⟨Ex.mut (hE5.trans e79) hwln, ⟨_, upd_same, ?_⟩, ⟨fv5, by rw [upd_ne hfw]; exact e79 _ _ hfl5, A2Nuu.mono kp9 hF5⟩, (hLN5.mono e79).px px9 hscw, ⟨by rw [upd_ne hrw]; exact e79 _ _ hrp5, A2Nu.mono kp9 hrA5⟩, hvb5.mono kp9, _, rfl⟩
            rw [htk, hg, if_pos rfl, List.map_append, ← List.append_assoc]
            exact (A2Nuu.mono kp9 hW5).snoc (hv9.mono (kpP px9))
        · refine hskip H6 _ (Ex.refl _) ?_
          unfold goodM
          have : (t.getD 0 0 == b.length) = false := by
            rw [beq_eq_false_iff_ne]
            exact fun z => c3 (decide_eq_true (by rw [z, hbl5]; rfl))
          rw [this]
          rfl
      · obtain ⟨hE5, ⟨wv5, hwl5, hW5⟩, ⟨fv5, hfl5, hF5⟩, hLN5, ⟨hrp5, hrA5⟩, hvb5, o7', rfl⟩ := pv
        have hrl : cus4.reverse.length = cs.reverse.length := by rw [List.length_reverse, List.length_reverse, hcl]
        rw [hrl, List.take_length] at hW5
        refine ⟨ws' ++ kidsM cs b, fs, mu_less hbn, ⟨hE5, ⟨wv5, hwl5, hW5⟩, ⟨fv5, hfl5, hF5⟩, hLN5, fun x hx => ?_, fun i x hi => ?_, hfs, hf3, ?_⟩, _, _, rfl⟩
        · rcases List.mem_append.mp hx with z | z
          · exact hPP' x z
          · obtain ⟨t, ht, rfl⟩ := List.mem_map.mp z
            obtain ⟨ht1, ht2⟩ := List.mem_filter.mp ht
            exact hPb.snoc hbn ((hmem t).mp (List.mem_reverse.mp ht1)) h2 ht2
        · by_cases hi2 : i < ws'.length
          · rw [List.getElem?_append_left hi2] at hi
            exact hpos' i x hi
          · rw [List.getElem?_append_right (by omega)] at hi
            have z1 := (List.getElem?_eq_some_iff.mp hi).1
            have z2 := kids_len cs b
            obtain ⟨t, ht, rfl⟩ := List.mem_map.mp (List.mem_of_getElem? hi)
            rw [List.length_append, List.length_singleton, Nat.mul_succ]
            omega
        · rcases hex with z | z
          · exact .inl z
          · refine .inr fun ts hts => ?_
            obtain ⟨x, hx, hxe⟩ := z ts hts
            rcases List.mem_append.mp hx with y | y
            · exact ⟨x, List.mem_append_left _ y, hxe⟩
            · have : x = b := by simpa using y
              subst this
              obtain ⟨k, hk, hke⟩ := take_kid hts hmem hxe hbn
              exact ⟨k, List.mem_append_right _ hk, hke⟩
  · have : ¬ ((fv.length : Nat) : Int) < 3 := fun z => c (decide_eq_true z)
    exact ⟨_, rfl, hdone _ eL (.inr (by omega))⟩
end
end K65
namespace K65
open PySem PySem.Spec PyProof.Rows L2 SlX
open Evl (Ex)
open PySem.W (Datum Tup)
theorem perm_sorted_eq {α : Type} {r : α → Int} : ∀ {xs ys : List α}, ys.Perm xs → ys.Pairwise (fun x y => r x ≤ r y) → xs.Pairwise (fun x y => r x < r y) → ys = xs
  | [], ys, p, _, _ => p.eq_nil
  | x :: xs, [], p, _, _ => by simpa using p.length_eq
  | x :: xs, y :: ys, p, h1, h2 => by
    rw [List.pairwise_cons] at h1 h2
    have hx : y = x := by
      have m1 : x ∈ y :: ys := p.mem_iff.mpr (List.mem_cons_self ..)
      have m2 : y ∈ x :: xs := p.mem_iff.mp (List.mem_cons_self ..)
      rcases List.mem_cons.mp m1 with z | z
      · exact z.symm
      · rcases List.mem_cons.mp m2 with w | w
        · exact w
        · have a := h1.1 x z
          have b := h2.1 y w
          omega
    subst hx
    rw [perm_sorted_eq ((List.perm_cons y).mp p) h1.2 h2.2]
def rankV (H : Hp) (v : V) : Int := match v with
  | .ref t => match H t with
    | some (.tup vs) => TS.code 64 (vs.map fun u => match u with | .int i => i | _ => 0)
    | _ => 0
  | _ => 0
theorem rank_nu {H : Hp} {t : List Nat} {v : V} (h : Nu H t v) : rankV H v = TS.code 64 (zs t) := by
  obtain ⟨a, rfl, h⟩ := h
  unfold rankV
  simp only [h]
  congr 1
  unfold zs
  rw [List.map_map]
  rfl
theorem bd_zs {t : List Nat} {n : Nat} (h : ∀ x ∈ t, x < n) (hn : n ≤ 64) : TS.Bd 64 (zs t) := fun m hm => by
  obtain ⟨x, hx, rfl⟩ := List.mem_map.mp hm
  have := h x hx
  omega
theorem ivs_int' {ns : List Nat} : (zs ns).map V.int = ns.map iv := by unfold zs; rw [List.map_map]; rfl
theorem refs_of {α : Type} {R : α → Addr → Prop} : ∀ {l : List α} {ys : List V}, A2 (fun a y => ∃ T, y = .ref T ∧ R a T) l ys → ∃ ps : List Addr, ys = ps.map V.ref ∧ ps.length = l.length ∧ ∀ (i : Nat) a p, l[i]? = some a → ps[i]? = some p → R a p
  | [], [], _ => ⟨[], rfl, rfl, by simp⟩
  | a :: l, y :: ys, h => by
    obtain ⟨T, rfl, hT⟩ := h.1
    obtain ⟨ps, rfl, h1, h2⟩ := refs_of h.2
    refine ⟨T :: ps, rfl, by simp [h1], fun i b p hb hp => ?_⟩
    cases i with
    | zero =>
      simp only [List.getElem?_cons_zero, Option.some.injEq] at hb hp
      subst hb; subst hp
      exact hT
    | succ i => exact h2 i b p (by simpa using hb) (by simpa using hp)
  | [], _ :: _, h => h.elim
  | _ :: _, [], h => h.elim
theorem paired_of {α β : Type} {F : Addr → β → Prop} {f : α → β} : ∀ {l : List α} {ps : List Addr}, ps.length = l.length → (∀ (i : Nat) a p, l[i]? = some a → ps[i]? = some p → F p (f a)) → Paired F ps (l.map f)
  | [], [], _, _ => .nil
  | a :: l, p :: ps, h, k => .cons (k 0 a p rfl rfl) (paired_of (by simpa using h) fun i b q hb hq => k (i + 1) b q (by simpa using hb) (by simpa using hq))
  | [], _ :: _, h, _ => by simp at h
  | _ :: _, [], h, _ => by simp at h
theorem mergeK_nodup : ∀ (kvs acc : List (Key × V)), (kvs.map (·.1)).Nodup → (∀ k ∈ kvs.map (·.1), k ∉ acc.map (·.1)) → mergeK acc kvs = acc ++ kvs
  | [], acc, _, _ => by simp [mergeK]
  | kv :: r, acc, h, hd => by
    rw [List.map_cons, List.nodup_cons] at h
    have hk : putK acc kv.1 kv.2 = acc ++ [kv] := by
      unfold putK
      rw [if_neg]
      intro z
      obtain ⟨x, hx, e⟩ := List.any_eq_true.mp z
      exact hd kv.1 (by simp) (List.mem_map.mpr ⟨x, hx, of_decide_eq_true e⟩)
    have ih := mergeK_nodup r (acc ++ [kv]) h.2 (fun k hk2 z => by
      rw [List.map_append, List.mem_append] at z
      rcases z with z | z
      · exact hd k (by rw [List.map_cons]; exact List.mem_cons_of_mem _ hk2) z
      · have : k = kv.1 := by simpa using z
        subst this
        exact h.1 hk2)
    show mergeK (putK acc kv.1 kv.2) r = _
    rw [hk, ih, List.append_assoc]
    rfl
section
variable {P : Program} {w : World} {K : PySem.W.Frag} {mg : Str → Option Value} {base : Heap} {C CM : Addr}
/-- a list's sorted copy is the range -/
theorem sort_range {n : Nat} {l : List Nat} {ms : List Int} (hp : PermN n l) (pm : ms.Perm (zs l)) (pw : ms.Pairwise (· ≤ ·)) : ms = zs (List.range n) := by
  have hz : ∃ k : List Nat, ms = zs k ∧ k.Perm l := by
    have : ∀ x ∈ ms, 0 ≤ x := fun x hx => by
      obtain ⟨y, _, rfl⟩ := List.mem_map.mp (pm.mem_iff.mp hx)
      omega
    refine ⟨ms.map Int.toNat, ?_, ?_⟩
    · unfold zs
      rw [List.map_map]
      conv => lhs; rw [← List.map_id ms]
      apply List.map_congr_left
      intro x hx
      have := this x hx
      show x = ((x.toNat : Nat) : Int)
      omega
    · have := pm.map Int.toNat
      unfold zs at this
      rw [List.map_map] at this
      have e : l.map (Int.toNat ∘ fun n : Nat => (n : Int)) = l := by
        conv => rhs; rw [← List.map_id l]
        apply List.map_congr_left
        intro x _
        show ((x : Int)).toNat = x
        omega
      rw [e] at this
      exact this
  obtain ⟨k, rfl, pl⟩ := hz
  have pw' : k.Pairwise (· ≤ ·) := by
    unfold zs at pw
    rw [List.pairwise_map] at pw
    exact pw.imp fun h => by omega
  rw [(sorted_range pl pw').mpr hp]
theorem rs_ints : V.int (64 : Int) = V.int 64 := rfl
abbrev s__law_is_parting : Stmt := topS 58
theorem sc__law_is_parting : FnScope ["_law_rows_here", "_law_value", "_law_order", "_law_one", "_law_at", "_law_row"] ["_law_rows_here", "_law_value"] (defScope s__law_is_parting) := ⟨rfl, rfl, rfl, by decide +kernel, rfl, by decide +kernel, by decide +kernel⟩
def sp_lis : Sp := fun vs H Q _ => ∃ (v v2 : V) (n : Nat) (rs ts : List (List Nat)), vs = [v, v2] ∧ Nuu H rs v ∧ Nuu H ts v2 ∧ rs.length = n ∧ 1 ≤ n ∧ n ≤ 7 ∧ (∀ r ∈ rs, r.length = n) ∧ IsPart n rs ts ∧ ∀ H', Ex H H' → Q (.bl true) H'
theorem ok_lis (T : Txt K mg) (D : Df K mg "_law_is_parting" s__law_is_parting) : Ca P w K mg base 1 "_law_is_parting" ["_law_rows_here", "_law_value"] sp_lis := by
  refine ca_mk D sc__law_is_parting (fun vs H Q E h => ?_) (fun _ _ _ _ _ _ us hl => match us, hl with | [_, _], _ => rfl) (fun f cdv A outer s H vs Q E hr h => ?_)
  · obtain ⟨v, v2, n, rs, ts, rfl, _⟩ := h
    rfl
  obtain ⟨v, v2, n, rs, ts, rfl, hv, hv2, h1, h2, h3, h4, hp, q⟩ := h
  have hd : 1 ≤ n := h2
  let dd := n
  have nd := sc__law_is_parting.nd
  refine ⟨_, (pss_cons (ps_set (i := 2) nd rfl (Or.inl rfl) (pe_callB (call_len_seqK K) (by rfl) T.m_len (by decide +kernel) (pa_cons (pv 0) pa_nil)))
    (pss_cons (ps_if (PW.pt (pw_or (pt_not (pt_val (pe_callB (call_isiK K) (by rfl) T.m_isinstance (by decide +kernel) (pa_cons (pv 1) (pa_cons (pe_bltn (v := .ty "tuple") (by rfl) T.m_tuple (by decide +kernel) rfl) pa_nil))))) (pw_or (pt_cmpR op_ne (pe_callB (call_len_seqK K) (by rfl) T.m_len (by decide +kernel) (pa_cons (pv 1) pa_nil)) (pv 2) (nomark _)) (pw_or1 (pt_cmpR (op_neDK K hr.units) (pe_callTy (call_list_ofK K) (by rfl) T.m_list (by decide +kernel) (pa_cons (pv 1) pa_nil)) (pe_callB (cr_sortTTK K (d := dd) (B := 64) hd) (by rfl) T.m_sorted (by decide +kernel) (pa_cons (pv 1) pa_nil)) (nomark _)))))) (pss_one (ps_ret pe_bl)) pss_nil)
    (pss_cons (ps_for PassesOwn.never rfl (pi_tupK K (pv 1)) (pg_name (i := 3) nd rfl (Or.inl rfl))
      (pss_one (ps_if (PW.pt (pw_or (pt_cmpR (op_neDK K hr.units) (pe_callB (cr_sortedTIK K) (by rfl) T.m_sorted (by decide +kernel) (pa_cons (pv 3) pa_nil)) (pe_listRg rfl (by rfl) T.m_list (prg_1 (by rfl) T.m_range (pv 2))) (nomark _)) (pw_or1 (pt_cmpR op_ne (pe_callB call_lenD (by rfl) T.m_len (by decide +kernel) (pa_cons (pe_callTy (call_dictPK K) (by rfl) T.m_dict (by decide +kernel) (pa_cons (pe_lc (own := [("_law_row", 5), ("_law_at", 4)]) rfl nd (pi_zipAK K (by rfl) T.m_zip (pa_cons (pv 0) (pa_cons (pv 3) pa_nil))) (blkOk_by (N := ["_law_rows_here", "_law_value", "_law_order", "_law_one", "_law_at", "_law_row"]) (sc := defScope s__law_is_parting) (by decide +kernel)) (fun _ _ _ _ _ => (pg_tupK K (n := 2) (by rfl) (pgs_cons (pg_name (i := 5) nd rfl (by first | exact Or.inl rfl | exact Or.inr rfl)) (pgs_cons (pg_name (i := 4) nd rfl (by first | exact Or.inl rfl | exact Or.inr rfl)) pgs_nil)))) (fun _ _ _ _ _ => pts_nil) (fun _ _ _ _ _ => (pe_tup (pa_cons (pe_ix (ix_tupK K) (pv 5) (pv 4) (fun _ _ => rfl)) (pa_cons pe_int pa_nil))))) pa_nil)) pa_nil)) (pv 2) (nomark _))))) (pss_one (ps_ret pe_bl)) pss_nil)))
    (pss_cons (ps_for PassesOwn.never rfl (pi_range1 (by rfl) T.m_range (pa_cons (pv 2) pa_nil)) (pg_name (i := 4) nd rfl (Or.inr rfl))
      (pss_one (ps_if (pt_cmpR (op_neDK K hr.units) (pe_callB (cr_sortedIK K) (by rfl) T.m_sorted (by decide +kernel) (pa_cons (pe_lc (own := [("_law_one", 3)]) rfl nd (pi_tupK K (pv 1)) (blkOk_by (N := ["_law_rows_here", "_law_value", "_law_order", "_law_one", "_law_at", "_law_row"]) (sc := defScope s__law_is_parting) (by decide +kernel)) (fun _ _ _ _ _ => (pg_name (i := 3) nd rfl (by first | exact Or.inl rfl | exact Or.inr rfl))) (fun _ _ _ _ _ => pts_nil) (fun _ _ _ _ _ => (pe_ix (ix_tupK K) (pv 3) (pv 4) (fun _ _ => rfl)))) pa_nil)) (pe_listRg rfl (by rfl) T.m_list (prg_1 (by rfl) T.m_range (pv 2))) (nomark _)) (pss_one (ps_ret pe_bl)) pss_nil)))
    (pss_one (ps_ret pe_bl)))))), ?_⟩
  obtain ⟨a, us, rfl, ha, hus⟩ := id hv
  obtain ⟨b, xs, rfl, hb, hxs⟩ := id hv2
  have hl := hus.len
  have hlx := hxs.len
  have hpl := hp.1
  have hlen0 : V.int (us.length : Int) = iv n := by rw [← hl, h1]; rfl
  refine ⟨_, rfl, a, us, rfl, .inr (Evl.st_of ha), ?_⟩
  rw [hlen0]
  refine ⟨_, rfl, _, _, _, _, true, rfl, .ty _, .base (.tup hb), kit_ty (by decide +kernel), true, rfl, iteF ?_⟩
  refine ⟨_, rfl, b, xs, rfl, .inr (Evl.st_of hb), _, rfl, rfl, _, rfl, ?_⟩
  rw [show decide (V.int (xs.length : Int) = iv n) = true from decide_eq_true (by rw [← hlx, hpl]; rfl)]
  refine iteF ⟨_, rfl, b, xs, rfl, .inr (Evl.st_of hb), fun l1 hl1 => ?_⟩
  have e1 := Ex.new (o := .lst xs) hl1
  have hxs1 := A2Nu.mono (kpE e1) hxs
  have hcr : ∀ (i : Nat) t, ts[i]? = some t → IsCross n rs t ∧ t[0]? = some i := hp.2.1
  refine ⟨_, rfl, b, xs, rfl, Evl.st_of (e1 _ _ hb), by omega, fun x hx => ?_, fun ys p2 pm pw hp2 => ?_⟩
  · obtain ⟨t, ht, ta, rfl, hta⟩ := A2_mem hxs1 hx
    obtain ⟨i, hi⟩ := List.getElem?_of_mem ht
    have htc := (hcr i t hi).1.1
    exact ⟨zs t, ⟨ta, rfl, Evl.st_of (by rw [ivs_int] at hta; exact hta)⟩, by simp [zs, htc.1, dd], bd_zs htc.2.2 (by omega)⟩
  have hys : ys = xs := by
    refine perm_sorted_eq (r := rankV (upd H l1 (.lst xs))) pm ?_ ?_
    · refine List.Pairwise.imp_of_mem ?_ pw
      intro x y hx hy hle
      obtain ⟨t, ht, hxt⟩ := A2_mem hxs1 (pm.mem_iff.mp hx)
      obtain ⟨u, hu, hyu⟩ := A2_mem hxs1 (pm.mem_iff.mp hy)
      rw [rank_nu hxt, rank_nu hyu]
      obtain ⟨ta, rfl, hta⟩ := hxt
      obtain ⟨ua, rfl, hua⟩ := hyu
      rw [ivs_int] at hta hua
      exact hle _ _ ⟨ta, rfl, Evl.st_of hta⟩ ⟨ua, rfl, Evl.st_of hua⟩
    · rw [List.pairwise_iff_getElem]
      intro i j hi hj hij
      obtain ⟨t, ht, hxt⟩ := hxs1.get (List.getElem?_eq_getElem hi)
      obtain ⟨u, hu, hyu⟩ := hxs1.get (List.getElem?_eq_getElem hj)
      rw [rank_nu hxt, rank_nu hyu]
      obtain ⟨ht1, ht2⟩ := hcr i t ht
      obtain ⟨hu1, hu2⟩ := hcr j u hu
      have hbt := bd_zs ht1.1.2.2 (by omega : n ≤ 64)
      have hbu := bd_zs hu1.1.2.2 (by omega : n ≤ 64)
      have hlt := ht1.1.1
      have hlu := hu1.1.1
      cases t with
      | nil => simp at ht2
      | cons t0 t =>
        cases u with
        | nil => simp at hu2
        | cons u0 u =>
          have q1 : t0 = i := by simpa using ht2
          have q2 : u0 = j := by simpa using hu2
          simp only [List.length_cons] at hlt hlu
          exact TS.code_lt (by simp only [List.length_map]; omega) hbt.tail hbu.tail (by show ((t0 : Nat) : Int) < ((u0 : Nat) : Int); omega)
  subst hys
  have e2 := Ex.new (o := .lst ys) hp2
  have h12 := e1.trans e2
  have hxs2 := A2Nu.mono (kpE e2) hxs1
  refine neD_of (a := tts ts) (b := tts ts) lay_lti (.lst (Evl.sq_of (e2 _ _ upd_same)) (dpAll_nu hxs2)) (.lst (Evl.sq_of upd_same) (dpAll_nu hxs2)) ⟨_, rfl, ?_⟩
  rw [decide_eq_true rfl]
  refine iteF ?_
  have hsr : ∀ {H9 : Hp} {p : Addr}, H9 p = some (.lst ((zs (List.range n)).map V.int)) → Dp K H9 (.ref p) (Datum.toD (zs (List.range n))) := fun h => dp_lst h
  refine ⟨_, rfl, b, rfl, ⟨_, Evl.st_of (h12 _ _ hb)⟩, for_it walk_tup (fun i σ H' => Ex H H' ∧ ∃ o3 o4 o5, σ = [some (.ref a), some (.ref b), some (iv n), o3, o4, o5])
    ⟨h12, none, none, none, rfl⟩ (fun i σ H' _ pv => Evl.st_of (pv.1 _ _ hb)) (fun i x σ H1 H2 hi pv y => ?_) (fun σ H1 pv => ?_)⟩
  · obtain ⟨eH, o3, o4, o5, rfl⟩ := pv
    obtain ⟨rfl, hx⟩ := y
    obtain ⟨t, ht, ta, rfl, hta⟩ := hxs.get hx
    have htc := (hcr i t ht).1
    have hta2 := eH _ _ hta
    refine ⟨_, rfl, ta, zs t, rfl, Evl.st_of (by rw [ivs_int']; exact hta2), fun ms p3 pm3 pw3 hp3 => ?_⟩
    have hms := sort_range htc.1 pm3 pw3
    subst hms
    have e3 := Ex.new (o := .lst ((zs (List.range n)).map V.int)) hp3
    refine ⟨_, rfl, _, rfl, ⟨by omega, by omega, by omega, by omega, by omega⟩, fun p4 hp4 => ?_⟩
    rw [rgV_n]
    have e4 := Ex.new (o := .lst ((zs (List.range n)).map V.int)) hp4
    refine neD_of (a := zs (List.range n)) (b := zs (List.range n)) lay_li (hsr (e4 _ _ upd_same)) (hsr upd_same) ⟨_, rfl, ?_⟩
    rw [decide_eq_true rfl]
    refine iteF ?_
    have e34 := eH.trans (e3.trans e4)
    have ha4 := e34 _ _ ha
    have hta4 := (e3.trans e4) _ _ hta2
    generalize upd (upd H2 p3 (.lst ((zs (List.range n)).map V.int))) p4 (.lst ((zs (List.range n)).map V.int)) = H4 at e34 ha4 hta4
    have hsl : (sg rs t).length = n := by
      unfold sg
      rw [List.length_zipWith, h1, htc.1.1, Nat.min_self]
    refine ⟨_, rfl, _, rfl, a, ta, us, t.map iv, rfl, .inr ⟨Evl.st_of ha4, Evl.st_of hta4, fun Dl hD => ?_⟩⟩
    refine lc_kp (walk_zipT (n := n) (by rw [List.length_map, htc.1.1, ← hl, h1, Nat.min_self])) hD (fun i y H' => ∀ s, (sg rs t)[i]? = some s → ∃ T, y = .ref T ∧ H' T = some (.tup [iv s, .int 1])) (by omega) (fun H3 e => ⟨Evl.st_of (e _ _ ha4), Evl.st_of (e _ _ hta4)⟩) (fun i y _ _ e z s hs => by obtain ⟨T, rfl, hT⟩ := z s hs; exact ⟨T, rfl, e _ _ trivial hT⟩) (fun i x H5 H6 Kt hi e5 hx k => ?_) (fun ys H5 e5 hy a2 => ?_)
    · obtain ⟨T1, x1, x2, rfl, hT1, rfl, hx1, hx2⟩ := hx
      obtain ⟨r, hr2, c, rfl, hc⟩ := hus.get hx1
      obtain ⟨m, hm, rfl⟩ := iv_ix hx2
      have hml : m < r.length := by rw [h4 r (List.mem_of_getElem? hr2)]; exact htc.1.2.2 m (List.mem_of_getElem? hm)
      refine ⟨T1, _, rfl, Evl.st_of upd_same, rfl, _, _, rfl, _, _, rfl, rfl, rfl, _, rfl, _, rfl, ixT_n (Ex.new hT1 _ _ (e5 _ _ (e34 _ _ hc))) (getD_of hml) ⟨(by show 2 ≤ sizeLine; decide), fun q1 hq1 => k _ _ ((Ex.new hT1).trans (Ex.new hq1)) fun s hs => ⟨q1, rfl, ?_⟩⟩⟩
      have : (sg rs t)[i]? = some (r.getD m 0) := by
        unfold sg
        rw [List.getElem?_zipWith, hr2, hm]
      rw [this] at hs
      cases hs
      exact upd_same
    · rw [← hsl] at a2
      have a3 := A2_range (R := fun s y => ∃ T, y = .ref T ∧ H5 T = some (.tup [iv s, .int 1])) a2
      obtain ⟨ps, rfl, hps⟩ := refs_of a3
      refine ⟨Dl, ps, (sg rs t).map fun (s : Nat) => ((Sum.inl (s : Int) : Key), V.int 1), rfl, Evl.sq_of hy, ?_, fun p5 hp5 => ?_⟩
      · refine paired_of hps.1 fun i s p hs hp => ?_
        exact Evl.st_of (hps.2 i s p hs hp)
      · have hkeys : (((sg rs t).map fun (s : Nat) => ((Sum.inl (s : Int) : Key), V.int 1)).map (·.1)).Nodup := by
          rw [List.map_map]
          have := htc.2
          unfold List.Nodup at this ⊢
          rw [List.pairwise_map]
          refine this.imp fun {x y} h => ?_
          intro z
          have : ((x : Nat) : Int) = (y : Int) := Sum.inl.inj z
          omega
        rw [mergeK_nodup _ [] hkeys (by simp), List.nil_append]
        refine ⟨p5, _, rfl, upd_same, _, rfl, rfl, _, rfl, ?_⟩
        rw [List.length_map, hsl]
        show if (!decide (iv n = iv n)) = true then _ else _
        rw [decide_eq_true rfl]
        exact iteF ⟨(e34.trans e5).trans (Ex.new hp5), _, _, _, rfl⟩
  · obtain ⟨eH, o3, o4, o5, rfl⟩ := pv
    refine ⟨_, rfl, _, rfl, by omega, by omega, for_it (walk_rn (n := n) (by omega)) (fun i σ H' => Ex H H' ∧ ∃ o3 o4 o5, σ = [some (.ref a), some (.ref b), some (iv n), o3, o4, o5])
      ⟨eH, o3, o4, o5, rfl⟩ (fun _ _ _ _ _ => trivial) (fun r x σ H2 H3 hr2 pv y => ?_) (fun σ H2 pv => ?_)⟩
    · obtain ⟨e2, o3, o4, o5, rfl⟩ := pv
      obtain ⟨rfl, rfl⟩ := y
      have hb3 := e2 _ _ hb
      refine ⟨_, rfl, b, rfl, ⟨_, Evl.st_of hb3⟩, fun Dl hD => ?_⟩
      refine lc_kp walk_tup hD (fun i y H' => ∀ t, ts[i]? = some t → y = iv (t.getD r 0)) (by omega) (fun H5 e => Evl.st_of (e _ _ hb3)) (fun i y _ _ _ z => z) (fun i x H5 H6 Kt hi e5 hx k => ?_) (fun zs1 H5 e5 hy a2 => ?_)
      · obtain ⟨rfl, hx⟩ := hx
        obtain ⟨t, ht, ta, rfl, hta⟩ := hxs.get hx
        have htc := (hcr i t ht).1.1
        refine ⟨rfl, _, rfl, _, rfl, ixT_n (e5 _ _ (e2 _ _ hta)) (getD_of (by rw [htc.1]; exact hr2)) (k _ _ (Ex.refl _) fun t' ht' => ?_)⟩
        rw [ht] at ht'
        cases ht'
        rfl
      · rw [← hlx] at a2
        have hz := A2.eqs (A2_range (R := fun (t : List Nat) y => y = iv (t.getD r 0)) a2)
        have hz2 : zs1 = (zs (ts.map fun t => t.getD r 0)).map V.int := by
          rw [hz, ivs_int', List.map_map]
          rfl
        subst hz2
        refine ⟨Dl, _, rfl, Evl.sq_of hy, fun ms p3 pm3 pw3 hp3 => ?_⟩
        have hms := sort_range (part_col hp hr2) pm3 pw3
        subst hms
        have e3 := Ex.new (o := .lst ((zs (List.range n)).map V.int)) hp3
        refine ⟨_, rfl, _, rfl, ⟨by omega, by omega, by omega, by omega, by omega⟩, fun p4 hp4 => ?_⟩
        rw [rgV_n]
        have e4 := Ex.new (o := .lst ((zs (List.range n)).map V.int)) hp4
        refine neD_of (a := zs (List.range n)) (b := zs (List.range n)) lay_li (hsr (e4 _ _ upd_same)) (hsr upd_same) ⟨_, rfl, ?_⟩
        rw [decide_eq_true rfl]
        exact iteF ⟨e2.trans (e5.trans (e3.trans e4)), _, _, _, rfl⟩
    · obtain ⟨e2, o3, o4, o5, rfl⟩ := pv
      exact q _ e2
end
end K65
namespace K65
open PySem PySem.Spec PyProof.Rows L2 SlX
open Evl (Ex)
open PySem.W (Datum Tup)
theorem room4 {A : Around} {k : Nat} (hr : Room k A) : A.units + 4 < cLine := by
  have := hr.un
  omega
theorem kp2_inj {a b c d : Nat} (h : kp2 a b = kp2 c d) : a = c ∧ b = d := by
  unfold kp2 at h
  simp only [List.cons.injEq, Sum.inl.injEq, and_true] at h
  omega
def kM (rs mr : List (List Nat)) (p : Nat × Nat) : List Key := kp2 ((rs.getD p.1 []).getD p.2 0) ((mr.getD p.1 []).getD p.2 0)
theorem kM_pair {rs mr : List (List Nat)} {p q : Nat × Nat} (h : kM rs mr p = kM rs mr q) : pairM rs mr p = pairM rs mr q := by
  have := kp2_inj h
  unfold pairM
  rw [this.1, this.2]
section
variable {P : Program} {w : World} {K : PySem.W.Frag} {mg : Str → Option Value} {base : Heap} {C CM : Addr}
abbrev s__law_are_mates : Stmt := topS 54
theorem sc__law_are_mates : FnScope ["_law_rows_here", "_law_others", "_law_found", "_law_row", "_law_other", "_law_pair"] ["_law_rows_here", "_law_others"] (defScope s__law_are_mates) := ⟨rfl, rfl, rfl, by decide +kernel, rfl, by decide +kernel, by decide +kernel⟩
def sp_lmates : Sp := fun vs H Q _ => ∃ (v v2 : V) (n : Nat) (rs mr : List (List Nat)), vs = [v, v2] ∧ Nuu H rs v ∧ Nuu H mr v2 ∧ n ≤ 7 ∧ RowsIn n rs ∧ RowsIn n mr ∧ Differ n rs mr ∧ ∀ H', Ex H H' → Q (.bl true) H'
theorem ok_lmates (T : Txt K mg) (D : Df K mg "_law_are_mates" s__law_are_mates) : Ca P w K mg base 1 "_law_are_mates" ["_law_rows_here", "_law_others"] sp_lmates := by
  refine ca_mk D sc__law_are_mates (fun vs H Q E h => ?_) (fun _ _ _ _ _ _ us hl => match us, hl with | [_, _], _ => rfl) (fun f cdv A outer s H vs Q E hr h => ?_)
  · obtain ⟨v, v2, n, rs, mr, rfl, _⟩ := h
    rfl
  obtain ⟨v, v2, n, rs, mr, rfl, hv, hv2, hn, ⟨h1, h3⟩, ⟨h2, h4⟩, hd, q⟩ := h
  have nd := sc__law_are_mates.nd
  refine ⟨_, (pss_cons (ps_set (i := 2) nd rfl (Or.inl rfl) pe_dnewT)
    (pss_cons (ps_for PassesOwn.never rfl (pi_zipAK K (by rfl) T.m_zip (pa_cons (pv 0) (pa_cons (pv 1) pa_nil))) (pg_tupK K (n := 2) (by rfl) (pgs_cons (pg_name (i := 3) nd rfl (Or.inl rfl)) (pgs_cons (pg_name (i := 4) nd rfl (Or.inl rfl)) pgs_nil)))
      (pss_one (ps_expr (pe_bm PySem.F.plainAttrs_dict PySem.F.slot_dict_update type_dict_update (mt_update (room2 hr)) (pv 2) (pa_cons (pe_callTy (call_dictPTK K (room4 hr)) (by rfl) T.m_dict (by decide +kernel) (pa_cons (pe_lc (own := [("_law_pair", 5)]) rfl nd (pi_zipNK K (by rfl) T.m_zip (pa_cons (pv 3) (pa_cons (pv 4) pa_nil))) (blkOk_by (N := ["_law_rows_here", "_law_others", "_law_found", "_law_row", "_law_other", "_law_pair"]) (sc := defScope s__law_are_mates) (by decide +kernel)) (fun _ _ _ _ _ => (pg_name (i := 5) nd rfl (by first | exact Or.inl rfl | exact Or.inr rfl))) (fun _ _ _ _ _ => pts_nil) (fun _ _ _ _ _ => (pe_tup (pa_cons (pv 5) (pa_cons pe_bl pa_nil))))) pa_nil)) pa_nil)))))
    (pss_one (ps_ret (pe_cmpR op_eq (pe_callB call_len_dT (by rfl) T.m_len (by decide +kernel) (pa_cons (pv 2) pa_nil)) (pe_op op_mul (pe_callB (call_len_seqK K) (by rfl) T.m_len (by decide +kernel) (pa_cons (pv 0) pa_nil)) (pe_callB (call_len_seqK K) (by rfl) T.m_len (by decide +kernel) (pa_cons (pv 0) pa_nil))) (nomark _)))))), ?_⟩
  obtain ⟨a, us, rfl, ha, hus⟩ := id hv
  obtain ⟨b, us2, rfl, hb, hus2⟩ := id hv2
  have hl := hus.len
  have hl2 := hus2.len
  have hnn : n * n ≤ 7 * 7 := Nat.mul_le_mul hn hn
  refine fun d hdn => ?_
  have e1 := Ex.new (o := .dT []) hdn
  refine ⟨_, rfl, _, rfl, a, b, us, us2, rfl, .inr ⟨Evl.st_of (e1 _ _ ha), Evl.st_of (e1 _ _ hb), ?_⟩⟩
  refine for_it (walk_zipT (n := n) (by omega)) (fun i σ H' => Ex H H' ∧ (∃ acc, H' d = some (.dT acc) ∧ acc.length = i * n ∧ ∀ kv ∈ acc, ∃ p : Nat × Nat, p.1 < i ∧ p.2 < n ∧ kv.1 = kM rs mr p) ∧ ∃ o3 o4 o5, σ = [some (.ref a), some (.ref b), some (.ref d), o3, o4, o5])
    ⟨e1, ⟨[], upd_same, by simp, by simp⟩, none, none, none, rfl⟩ (fun i σ H' _ pv => ⟨Evl.st_of (pv.1 _ _ ha), Evl.st_of (pv.1 _ _ hb)⟩) (fun i x σ H1 H2 hi pv y => ?_) (fun σ H1 pv => ?_)
  · obtain ⟨e2, ⟨acc, hacc, hal, hak⟩, o3, o4, o5, rfl⟩ := pv
    obtain ⟨T1, x1, x2, rfl, hT1, rfl, hx1, hx2⟩ := y
    obtain ⟨r1, hr1, ra, rfl, hra⟩ := hus.get hx1
    obtain ⟨r2, hr2, rb, rfl, hrb⟩ := hus2.get hx2
    obtain ⟨l1, m1⟩ := h3 r1 (List.mem_of_getElem? hr1)
    obtain ⟨l2, m2⟩ := h4 r2 (List.mem_of_getElem? hr2)
    have eT := Ex.new (o := .tup [.ref ra, .ref rb]) hT1
    have e3 := e2.trans eT
    have hacc3 := eT _ _ hacc
    have hzl : (r1.zip r2).length = n := by rw [List.length_zip, l1, l2, Nat.min_self]
    refine ⟨T1, _, rfl, Evl.st_of upd_same, rfl, _, _, rfl, _, _, rfl, rfl, ?_⟩
    refine ⟨_, rfl, .inr (.inr (.inl ⟨rfl, .inr ⟨acc, hacc3⟩⟩)), _, rfl, _, rfl, ra, rb, _, _, rfl, Evl.st_of (e3 _ _ hra), Evl.st_of (e3 _ _ hrb), fun Dl hD => ?_⟩
    refine lc_kp (walk_zipN (n := n) (by simp [l1, l2])) hD (fun j y H' => ∀ pr : Nat × Nat, (r1.zip r2)[j]? = some pr → ∃ T, y = .ref T ∧ ∃ c, H' T = some (.tup [.ref c, .bl true]) ∧ H' c = some (.tup ((kp2 pr.1 pr.2).map kV))) (by omega) (fun H3 e => ⟨Evl.st_of (e _ _ (e3 _ _ hra)), Evl.st_of (e _ _ (e3 _ _ hrb))⟩) (fun j y _ _ e z pr hpr => by obtain ⟨T, rfl, c, g1, g2⟩ := z pr hpr; exact ⟨T, rfl, c, e _ _ trivial g1, e _ _ trivial g2⟩) (fun j x H5 H6 Kt hj e5 hx k => ?_) (fun ys H5 e5 hy a2 => ?_)
    · obtain ⟨T2, y1, y2, rfl, hT2, rfl, hy1, hy2⟩ := hx
      obtain ⟨c1, hc1, rfl⟩ := iv_ix hy1
      obtain ⟨c2, hc2, rfl⟩ := iv_ix hy2
      refine ⟨rfl, _, rfl, (by show 2 ≤ sizeLine; decide), fun q1 hq1 => k _ _ ((Ex.new hT2).trans (Ex.new hq1)) fun pr hpr => ⟨q1, rfl, T2, upd_same, ?_⟩⟩
      rw [List.getElem?_zip_eq_some (z := (c1, c2)) |>.mpr ⟨hc1, hc2⟩] at hpr
      cases hpr
      exact Ex.new hq1 _ _ upd_same
    · rw [← hzl] at a2
      have hrng : A2 (fun (pr : Nat × Nat) y => ∃ T, y = .ref T ∧ ∃ c, H5 T = some (.tup [.ref c, .bl true]) ∧ H5 c = some (.tup ((kp2 pr.1 pr.2).map kV))) (r1.zip r2) ys := A2_range a2
      obtain ⟨ps, rfl, hps⟩ := refs_of hrng
      refine ⟨Dl, ps, (r1.zip r2).map fun pr => (kp2 pr.1 pr.2, V.bl true), rfl, Evl.sq_of hy, paired_of hps.1 fun j pr p hpr hp => ?_, fun p5 hp5 => ?_⟩
      · obtain ⟨c, g1, g2⟩ := hps.2 j pr p hpr hp
        exact ⟨c, Evl.st_of g1, g2⟩
      have hcell : ∀ (j : Nat) (pr : Nat × Nat), (r1.zip r2)[j]? = some pr → j < n ∧ kp2 pr.1 pr.2 = kM rs mr (i, j) ∧ pr.1 < 7 ∧ pr.2 < 7 := fun j pr hpr => by
        obtain ⟨g1, g2⟩ := List.getElem?_zip_eq_some.mp hpr
        have g3 := (List.getElem?_eq_some_iff.mp g1).1
        refine ⟨by omega, ?_, ?_, ?_⟩
        · unfold kM
          rw [getD_ix hr1, getD_ix hr2, getD_ix g1, getD_ix g2]
        · have := m1 _ (List.mem_of_getElem? g1)
          omega
        · have := m2 _ (List.mem_of_getElem? g2)
          omega
      have hdist : ∀ (j k : Nat) (p1 p2 : Nat × Nat), (r1.zip r2)[j]? = some p1 → (r1.zip r2)[k]? = some p2 → kp2 p1.1 p1.2 = kp2 p2.1 p2.2 → j = k := fun j k p1 p2 g1 g2 g => by
        obtain ⟨z1, z2, _⟩ := hcell j p1 g1
        obtain ⟨z3, z4, _⟩ := hcell k p2 g2
        rw [z2, z4] at g
        have := hd (i, j) (i, k) hi z1 hi z3 (kM_pair g)
        exact (Prod.mk.inj this).2
      have hkeys : (((r1.zip r2).map fun pr => (kp2 pr.1 pr.2, V.bl true)).map (·.1)).Nodup := by
        rw [List.map_map]
        unfold List.Nodup
        rw [List.pairwise_map, List.pairwise_iff_getElem]
        intro j k hj hk hjk z
        have := hdist j k _ _ (List.getElem?_eq_getElem hj) (List.getElem?_eq_getElem hk) z
        omega
      have halone : Alone P w ((r1.zip r2).map fun pr => (kp2 pr.1 pr.2, V.bl true)) := alone_of (fun kv hkv => by
        obtain ⟨pr, hpr, rfl⟩ := List.mem_map.mp hkv
        obtain ⟨j, hj⟩ := List.getElem?_of_mem hpr
        obtain ⟨_, _, z1, z2⟩ := hcell j pr hj
        exact ⟨_, _, z1, z2, rfl⟩) hkeys
      have hm0 : mergeT [] ((r1.zip r2).map fun pr => (kp2 pr.1 pr.2, V.bl true)) = (r1.zip r2).map fun pr => (kp2 pr.1 pr.2, V.bl true) := by
        rw [mergeT_nodup _ [] hkeys (by simp), List.nil_append]
      rw [hm0]
      have hm1 : mergeT acc ((r1.zip r2).map fun pr => (kp2 pr.1 pr.2, V.bl true)) = acc ++ (r1.zip r2).map fun pr => (kp2 pr.1 pr.2, V.bl true) := by
        refine mergeT_nodup _ acc hkeys fun k hk z => ?_
        obtain ⟨kv, hkv, rfl⟩ := List.mem_map.mp hk
        obtain ⟨pr, hpr, rfl⟩ := List.mem_map.mp hkv
        obtain ⟨j, hj⟩ := List.getElem?_of_mem hpr
        obtain ⟨kv2, hkv2, e⟩ := List.mem_map.mp z
        obtain ⟨p, g1, g2, g3⟩ := hak kv2 hkv2
        obtain ⟨z1, z2, _⟩ := hcell j pr hj
        rw [g3] at e
        have e' : kM rs mr p = kM rs mr (i, j) := by rw [← z2]; exact e
        have := hd p (i, j) (by omega) g2 hi z1 (kM_pair e')
        rw [this] at g1
        exact Nat.lt_irrefl _ g1
      have e6 := Ex.new (o := .dT ((r1.zip r2).map fun pr => (kp2 pr.1 pr.2, V.bl true))) hp5
      have hacc5 := e5 _ _ hacc3
      have hal2 : acc.length + ((r1.zip r2).map fun pr => (kp2 pr.1 pr.2, V.bl true)).length = (i + 1) * n := by rw [hal, List.length_map, hzl, Nat.succ_mul]
      have hin : (i + 1) * n ≤ n * n := Nat.mul_le_mul_right n hi
      refine ⟨d, p5, acc, _, rfl, rfl, ne_of_none hacc5 hp5, e6 _ _ hacc5, upd_same, .inr halone, sz_le (by rw [hal2]; omega), ?_⟩
      rw [hm1]
      refine ⟨Ex.mut ((e3.trans e5).trans e6) hdn, ⟨_, upd_same, by rw [List.length_append]; exact hal2, fun kv hkv => ?_⟩, _, _, _, rfl⟩
      rcases List.mem_append.mp hkv with z | z
      · obtain ⟨p, g1, g2, g3⟩ := hak kv z
        exact ⟨p, by omega, g2, g3⟩
      · obtain ⟨pr, hpr, rfl⟩ := List.mem_map.mp z
        obtain ⟨j, hj⟩ := List.getElem?_of_mem hpr
        obtain ⟨z1, z2, _⟩ := hcell j pr hj
        exact ⟨(i, j), Nat.lt_succ_self i, z1, z2⟩
  · obtain ⟨e2, ⟨acc, hacc, hal, hak⟩, o3, o4, o5, rfl⟩ := pv
    refine ⟨_, rfl, d, acc, rfl, hacc, _, rfl, a, us, rfl, .inr (Evl.st_of (e2 _ _ ha)), _, rfl, a, us, rfl, .inr (Evl.st_of (e2 _ _ ha)), _, _, rfl, rfl, .inl ⟨by omega, by omega⟩, rfl, ?_⟩
    have : (V.int (acc.length : Int)) = V.int ((us.length : Int) * (us.length : Int)) := by
      rw [hal, ← hl, h1]
      rfl
    have hdd := decide_eq_true this
    show Q (.bl (decide (V.int (acc.length : Int) = V.int ((us.length : Int) * (us.length : Int))))) H1
    rw [hdd]
    exact q _ e2
end
end K65
namespace K65
open PySem PySem.Spec PyProof.Rows L2 SlX
open Evl (Ex)
open PySem.W (Datum Tup)
/-- a list of lists, its addresses of the kind S -/
def LM (S : Addr → Prop) (H : Hp) (p : Addr) (mat : List (List Nat)) : Prop := S p ∧ ∃ us, H p = some (.lst us) ∧ A2 (fun r v => ∃ q, v = .ref q ∧ S q ∧ H q = some (.lst (r.map iv))) mat us
theorem LM.ex {S : Addr → Prop} {H H' : Hp} {p : Addr} {mat : List (List Nat)} (e : Ex H H') (h : LM S H p mat) : LM S H' p mat := by
  obtain ⟨s, us, h1, h2⟩ := h
  exact ⟨s, us, e _ _ h1, h2.mono fun r v _ z => by obtain ⟨q, rfl, s, hq⟩ := z; exact ⟨q, rfl, s, e _ _ hq⟩⟩
theorem LM.imp {S S' : Addr → Prop} {H : Hp} {p : Addr} {mat : List (List Nat)} (k : ∀ a, S a → S' a) (h : LM S H p mat) : LM S' H p mat := by
  obtain ⟨s, us, h1, h2⟩ := h
  exact ⟨k _ s, us, h1, h2.mono fun r v _ z => by obtain ⟨q, rfl, s, hq⟩ := z; exact ⟨q, rfl, k _ s, hq⟩⟩
theorem LM.px {S : Addr → Prop} {H H' : Hp} {p pot : Addr} {mat : List (List Nat)} (k : ∀ a, S a → a ≠ pot) (x : Px pot H H') (h : LM S H p mat) : LM S H' p mat := by
  obtain ⟨s, us, h1, h2⟩ := h
  exact ⟨s, us, x.2.2 _ _ (k _ s) h1, h2.mono fun r v _ z => by obtain ⟨q, rfl, s, hq⟩ := z; exact ⟨q, rfl, s, x.2.2 _ _ (k _ s) hq⟩⟩
theorem lm_at {S : Addr → Prop} {H : Hp} {p : Addr} {mat : List (List Nat)} {n r : Nat} (h : LM S H p mat) (hd : Dims n mat) (hr : r < n) : ∃ us q, H p = some (.lst us) ∧ us[r]? = some (.ref q) ∧ H q = some (.lst ((mat.getD r []).map iv)) ∧ ∀ c, c < n → (mat.getD r [])[c]? = some (cellN mat r c) := by
  obtain ⟨s, us, h1, h2⟩ := h
  obtain ⟨v, hv, q, rfl, _, hq⟩ := h2.ix (ix_getD [] (by rw [hd.1]; exact hr))
  exact ⟨us, q, h1, hv, hq, fun c hc => ix_getD 0 (by rw [hd.row hr]; exact hc)⟩
theorem MatAt.mono {H H' : Hp} {qs : List Addr} {mat : List (List Nat)} (e : Ex H H') (h : MatAt H qs mat) : MatAt H' qs mat := fun r q hr => e _ _ (h r q hr)
/-- new lists, the i-th with the items c i -/
theorem lc_freshN {J : It} {n : Nat} {G : Hp → Prop} {Y : Nat → Hp → V → Hp → Prop} (w : Walk J n G Y) {g : TG} {te : TE} {vs : List Nat} {σ : L2.St} {H1 : Hp} {D : Addr} {Qd : Hp → Prop} (hD : H1 D = none) (c : Nat → List V)
    (hn : n < 16000000) (hG : ∀ H, Ex H1 H → G H)
    (hs : ∀ i x H H' (Kt : V → Hp → Prop), i < n → Ex H1 H → Y i H x H' → (∀ q H4, H q = none → Ex H H4 → H4 q = some (.lst (c i)) → Kt (.ref q) H4) → g x (wipe σ vs) H' fun σ2 H2 => wipe σ2 vs = wipe σ vs ∧ te σ2 H2 Kt)
    (hd : ∀ (qs : List Addr) H, Ex H1 H → H D = some (.lst (qs.map V.ref)) → qs.length = n → qs.Nodup → D ∉ qs → (∀ (i : Nat) q, qs[i]? = some q → H q = some (.lst (c i)) ∧ H1 q = none) → Qd H) :
    ∃ W : Nat → Nat → Hp → Prop, (∃ m, W 0 m (upd H1 D (.lst []))) ∧ ∀ i m H, W i m H →
      (J.stop i H ∧ Qd H) ∨ (J.go i H ∧ ∃ Nx : Hp → Prop, (∀ H', Nx H' → ∃ m', m' < m ∧ W (i + 1) m' H') ∧ ∀ x H', J.yld i H x H' → g x (wipe σ vs) H' fun σ2 H2 => wipe σ2 vs = wipe σ vs ∧ tYes σ2 H2 fun b H3 =>
        if b = true then te σ2 H3 fun y H4 => ∃ acc, H4 D = some (.lst acc) ∧ acc.length < sizeLine ∧ Nx (upd H4 D (.lst (acc ++ [y]))) else Nx H3) := by
  refine lc_it w (fun i H => i ≤ n ∧ Ex H1 H ∧ ∃ qs : List Addr, H D = some (.lst (qs.map V.ref)) ∧ qs.length = i ∧ qs.Nodup ∧ D ∉ qs ∧ (∀ (j : Nat) q, qs[j]? = some q → H q = some (.lst (c j)) ∧ H1 q = none)) ⟨Nat.zero_le _, Ex.new hD, [], upd_same, rfl, List.nodup_nil, by simp, by simp⟩ (fun i H _ p => hG H p.2.1) (fun i x H H' hi p y => ?_) (fun H p => ?_)
  · obtain ⟨_, e, qs, hq, hl, hnd, hDq, hall⟩ := p
    refine hs i x H H' _ hi e y (fun q H4 nq e4 h4 => ?_)
    have h5 := e4 D _ hq
    have hqD : q ≠ D := Ne.symm (ne_of_none hq nq)
    have hnq : q ∉ qs := fun z => by
      obtain ⟨j, hj⟩ := List.getElem?_of_mem z
      have := (hall j q hj).1
      rw [nq] at this
      cases this
    refine ⟨_, h5, sz_lt (by rw [List.length_map]; omega), hi, Ex.mut (e.trans e4) hD, qs ++ [q], ?_, by simp [hl], (nodup_snocA hnd hnq), ?_, ?_⟩
    · rw [upd_same, List.map_append]
      rfl
    · rw [List.mem_append, not_or]
      exact ⟨hDq, by simpa using Ne.symm hqD⟩
    · intro j q' hq'
      by_cases hj : j < qs.length
      · rw [List.getElem?_append_left hj] at hq'
        have hne : q' ≠ D := fun e => hDq (e ▸ List.mem_of_getElem? hq')
        exact ⟨by rw [upd_ne hne]; exact e4 _ _ (hall j q' hq').1, (hall j q' hq').2⟩
      · rw [List.getElem?_append_right (by omega)] at hq'
        have hj2 : j - qs.length < 1 := by
          have := (List.getElem?_eq_some_iff.mp hq').1
          simpa using this
        have hj3 : j = i := by omega
        subst hj3
        rw [show j - qs.length = 0 by omega] at hq'
        have : q = q' := by simpa using hq'
        subst this
        exact ⟨by rw [upd_ne hqD]; exact h4, Evl.fresh_back e nq⟩
  · obtain ⟨_, e, qs, hq, hl, hnd, hDq, hall⟩ := p
    exact hd qs H e hq hl hnd hDq hall
/-- such lists as a matrix -/
theorem lm_of {H0 H : Hp} {D : Addr} {qs : List Addr} {mat : List (List Nat)} (hD : H0 D = none) (hq : H D = some (.lst (qs.map V.ref))) (hl : qs.length = mat.length) (hn : ∀ q ∈ qs, H0 q = none) (h : MatAt H qs mat) : LM (fun a => H0 a = none) H D mat := by
  refine ⟨hD, _, hq, A2.by_ix (by simp [hl]) fun i r v hr hv => ?_⟩
  rw [List.getElem?_map] at hv
  cases hz : qs[i]? with
  | none => rw [hz] at hv; cases hv
  | some q =>
    rw [hz] at hv
    cases hv
    refine ⟨q, rfl, hn q (List.mem_of_getElem? hz), ?_⟩
    rw [h i q hz, getD_ix hr]
section
variable {P : Program} {w : World} {K : PySem.W.Frag} {mg : Str → Option Value} {base : Heap} {C CM : Addr}
abbrev s__law_switched : Stmt := topS 52
theorem sc__law_switched : FnScope ["_law_rows_here", "_law_one", "_law_other", "_law_column", "_law_found", "_law_wish", "_law_here", "_law_turn", "_law_row"] ["_law_rows_here", "_law_one", "_law_other", "_law_column"] (defScope s__law_switched) := ⟨rfl, rfl, rfl, by decide +kernel, rfl, by decide +kernel, by decide +kernel⟩
def sp_switched : Sp := fun vs H Q _ => ∃ (p : Addr) (n one other col : Nat) (mat : List (List Nat)), vs = [.ref p, iv one, iv other, iv col] ∧ LM (fun _ => True) H p mat ∧ Latin n mat ∧ n ≤ 1000 ∧ one < n ∧ other < n ∧ one ≠ other ∧ col < n ∧
  ∀ q H' mat', Ex H H' → LM (fun a => H a = none) H' q mat' → Latin n mat' → Q (.ref q) H'
theorem ok_switched (T : Txt K mg) (D : Df K mg "_law_switched" s__law_switched) : Ca P w K mg base 1 "_law_switched" ["_law_rows_here", "_law_one", "_law_other", "_law_column"] sp_switched := by
  refine ca_mk D sc__law_switched (fun vs H Q E h => ?_) (fun _ _ _ _ _ _ us hl => match us, hl with | [_, _, _, _], _ => rfl) (fun f cdv A outer s H vs Q E hr h => ?_)
  · obtain ⟨p, n, one, other, col, mat, rfl, _⟩ := h
    rfl
  obtain ⟨p, n, one, other, col, mat, rfl, hM, hL, hn, h1, h2, hne, h3, q⟩ := h
  have nd := sc__law_switched.nd
  refine ⟨_, (pss_cons (ps_setLc (i := 4) (own := [("_law_row", 8)]) rfl nd rfl rfl (sw_true rfl rfl rfl (by decide +kernel)) (pi_listK K (pv 0)) (blkOk_by (N := ["_law_rows_here", "_law_one", "_law_other", "_law_column", "_law_found", "_law_wish", "_law_here", "_law_turn", "_law_row"]) (sc := defScope s__law_switched) (by decide +kernel)) (fun _ _ _ _ _ => (pg_name (i := 8) nd rfl (by first | exact Or.inl rfl | exact Or.inr rfl))) (fun _ _ _ _ _ => pts_nil) (fun _ _ _ _ _ => (pe_callTy (call_list_ofK K) (by rfl) T.m_list (by decide +kernel) (pa_cons (pv 8) pa_nil))))
    (pss_cons (ps_par (i := 5) (j := 6) (by rfl) nd rfl rfl (by decide) rfl rfl (pa_cons (pe_ix (ix_listK K) (pe_ix (ix_listK K) (pv 0) (pv 1) (fun _ _ => rfl)) (pv 3) (fun _ _ => rfl)) (pa_cons (pv 3) pa_nil)) (by rfl))
    (pss_cons (ps_for PassesOwn.never rfl (pi_range1 (by rfl) T.m_range (pa_cons (pe_callB (call_len_seqK K) (by rfl) T.m_len (by decide +kernel) (pa_cons (pv 0) pa_nil)) pa_nil)) (pg_name (i := 7) nd rfl (Or.inl rfl))
      (pss_cons (ps_asg (pe_tup (pa_cons (pe_ix (ix_listK K) (pe_ix (ix_listK K) (pv 0) (pv 2) (fun _ _ => rfl)) (pv 6) (fun _ _ => rfl)) (pa_cons (pe_ix (ix_listK K) (pe_ix (ix_listK K) (pv 0) (pv 1) (fun _ _ => rfl)) (pv 6) (fun _ _ => rfl)) pa_nil))) (pg_tupK K (n := 2) (by rfl) (pgs_cons (pg_sub (pe_ix (ix_listK K) (pv 4) (pv 1) (fun _ _ => rfl)) (pv 6) set_list) (pgs_cons (pg_sub (pe_ix (ix_listK K) (pv 4) (pv 2) (fun _ _ => rfl)) (pv 6) set_list) pgs_nil))))
    (pss_cons (ps_if (pt_cmpR op_eq (pe_ix (ix_listK K) (pe_ix (ix_listK K) (pv 0) (pv 2) (fun _ _ => rfl)) (pv 6) (fun _ _ => rfl)) (pv 5) (nomark _)) (pss_one ps_break) pss_nil)
    (pss_one (ps_set (i := 6) nd rfl (Or.inl rfl) (pe_bm PySem.F.plainAttrs_list PySem.F.slot_list_index PySem.F.type_list_index (mt_indexK K) (pe_ix (ix_listK K) (pv 0) (pv 1) (fun _ _ => rfl)) (pa_cons (pe_ix (ix_listK K) (pe_ix (ix_listK K) (pv 0) (pv 2) (fun _ _ => rfl)) (pv 6) (fun _ _ => rfl)) pa_nil)))))))
    (pss_one (ps_ret (pv 4)))))), ?_⟩
  obtain ⟨hdm, hLC⟩ := cells_of_latin hL
  obtain ⟨_, us, hp, hA⟩ := id hM
  have hl := hA.len
  have hml := hdm.1
  refine ⟨_, rfl, p, rfl, ⟨_, Evl.sq_of hp⟩, fun D hD => ?_⟩
  refine lc_freshN walk_list hD (fun i => (mat.getD i []).map iv) (by omega) (fun H3 e => Evl.sq_of (e _ _ hp)) (fun i x H1 H2 Kt hi e1 hx k => ?_) (fun qs H1 e1 hq hql hnd hDq hall => ?_)
  · obtain ⟨rfl, hx⟩ := hx
    obtain ⟨r, hr, qa, rfl, _, hqa⟩ := hA.get hx
    refine ⟨rfl, _, rfl, qa, _, rfl, .inl (Evl.sq_of (e1 _ _ hqa)), fun l hl2 => k l _ hl2 (Ex.new hl2) ?_⟩
    rw [upd_same, getD_ix hr]
  · have hqn : qs.length = n := by omega
    have hfr : ∀ q ∈ qs, H q = none := fun q hq' => by
      obtain ⟨i, hi⟩ := List.getElem?_of_mem hq'
      exact (hall i q hi).2
    have hm0 : MatAt H1 qs mat := fun r q hr => (hall r q hr).1
    have hM1 := hM.ex e1
    obtain ⟨us1, q1, g1, g2, g3, g4⟩ := lm_at hM1 hdm h1
    refine ⟨_, rfl, _, rfl, ixL_v g1 g2 ⟨_, rfl, ixL_n g3 (g4 col h3) ⟨_, rfl, _, _, rfl, ?_⟩⟩⟩
    refine ⟨_, rfl, p, us, rfl, .inl (Evl.sq_of (e1 _ _ hp)), _, rfl, by omega, by omega, ?_⟩
    have hfin : ∀ H5 m2 S, Ex H H5 → H5 D = some (.lst (qs.map V.ref)) → Dims n m2 → MatAt H5 qs m2 → (∀ r c, r < n → c < n → cellN m2 r c = swF (cellN mat) one other S r c) → (∀ x ∈ S, x < n) →
        ((∀ x ∈ S, ∃ e ∈ S, cellN mat other x = cellN mat one e) ∧ ∀ x ∈ S, ∃ e ∈ S, cellN mat one x = cellN mat other e) → Q (.ref D) H5 := fun H5 m2 S e5 hq5 hd2 hm2 hc hS hcl => by
      refine q D H5 m2 e5 (lm_of hD hq5 (by rw [hd2.1]; exact hqn) hfr hm2) (latin_of_cells hd2 ?_)
      exact (hLC.swap h1 h2 hne hS hcl.1 hcl.2).congr hc
    refine for_it (walk_rn (n := n) (by omega)) (fun k σ H' => Ex H H' ∧ H' D = some (.lst (qs.map V.ref)) ∧ ∃ vis here, vis.length = k ∧ Chain (cellN mat) one other vis here ∧ (vis ++ [here]).getD 0 0 = col ∧ (∀ x ∈ vis ++ [here], x < n) ∧ (∃ m2, Dims n m2 ∧ MatAt H' qs m2 ∧ ∀ r c, r < n → c < n → cellN m2 r c = swF (cellN mat) one other vis r c) ∧
        ∃ o7 o8, σ = [some (.ref p), some (iv one), some (iv other), some (iv col), some (.ref D), some (iv (cellN mat one col)), some (iv here), o7, o8])
      ⟨e1, hq, [], col, rfl, Chain.start .., rfl, by simpa using h3, ⟨mat, hdm, hm0, fun r c _ _ => by simp [swF]⟩, none, none, rfl⟩ (fun _ _ _ _ _ => trivial) (fun k x σ H2 H3 hk pv y => ?_) (fun σ H2 pv => ?_)
    · obtain ⟨e2, hq2, vis, here, hvl, hch, h0, hlt, ⟨m2, hd2, hm2, hc2⟩, o7, o8, rfl⟩ := pv
      obtain ⟨rfl, rfl⟩ := y
      have hhere : here < n := hlt here (by simp)
      have hM3 := hM.ex e2
      obtain ⟨ua, qa, a1, a2, a3, a4⟩ := lm_at hM3 hdm h2
      obtain ⟨ub, qb, b1, b2, b3, b4⟩ := lm_at hM3 hdm h1
      obtain ⟨q1, hq1⟩ : ∃ q1, qs[one]? = some q1 := ⟨qs[one], List.getElem?_eq_getElem (by omega)⟩
      obtain ⟨q2, hq2'⟩ : ∃ q2, qs[other]? = some q2 := ⟨qs[other], List.getElem?_eq_getElem (by omega)⟩
      have hq1m := List.mem_of_getElem? hq1
      have hq2m := List.mem_of_getElem? hq2'
      have hq12 : q2 ≠ q1 := fun z => hne ((List.getElem?_inj (by omega : one < qs.length) hnd).mp (by rw [hq1, hq2', z]))
      refine ⟨_, rfl, _, rfl, ixL_v a1 a2 ⟨_, rfl, ixL_n a3 (a4 here hhere) ⟨_, rfl, _, rfl, ixL_v b1 b2 ⟨_, rfl, ixL_n b3 (b4 here hhere) ⟨(by show 2 ≤ sizeLine; decide), fun t ht => ?_⟩⟩⟩⟩⟩
      have eT := Ex.new (o := .tup [iv (cellN mat other here), iv (cellN mat one here)]) ht
      have e3 := e2.trans eT
      have hq3 := eT _ _ hq2
      have hm3 := hm2.mono eT
      have hr1 := hd2.row h1
      have hr2 := hd2.row h2
      have hlm : m2.length = n := hd2.1
      refine ⟨t, _, rfl, Evl.st_of upd_same, rfl, _, _, rfl, ?_⟩
      refine ⟨_, rfl, _, rfl, ixL_v hq3 (by rw [List.getElem?_map, hq1]; rfl) ⟨_, rfl, q1, _, _, here, rfl, rfl, hm3 one q1 hq1, ixN_n (by rw [List.length_map, hr1]; exact hhere), ?_⟩⟩
      have hmp := hm3.put hnd (c := here) (x := cellN mat other here) hq1 (by rw [hlm]; exact h1)
      have px1 : Px q1 (upd H3 t (.tup [iv (cellN mat other here), iv (cellN mat one here)])) _ := Px.upd (ys := (((m2.getD one []).map iv).set here (iv (cellN mat other here)))) (hm3 one q1 hq1)
      have hex1 := Ex.mut (o := .lst (((m2.getD one []).map iv).set here (iv (cellN mat other here)))) e3 (hfr q1 hq1m)
      have hq4 : (upd (upd H3 t (.tup [iv (cellN mat other here), iv (cellN mat one here)])) q1 (.lst (((m2.getD one []).map iv).set here (iv (cellN mat other here))))) D = some (.lst (qs.map V.ref)) := by
        rw [upd_ne (fun z => hDq (by rw [z]; exact hq1m))]
        exact hq3
      generalize upd (upd H3 t (.tup [iv (cellN mat other here), iv (cellN mat one here)])) q1 (.lst (((m2.getD one []).map iv).set here (iv (cellN mat other here)))) = H4 at hmp hex1 hq4 px1
      have hd3 : Dims n (putM m2 one here (cellN mat other here)) := by
        refine ⟨by unfold putM; rw [List.length_set]; exact hlm, fun row hrow => ?_⟩
        unfold putM at hrow
        rcases List.mem_or_eq_of_mem_set hrow with z | z
        · exact hd2.2 row z
        · rw [z, List.length_set]
          exact hr1
      have hcell3 := fun k d => putM_cell (mat := m2) (r := one) (c := here) (x := cellN mat other here) (k := k) (d := d) (by rw [hlm]; exact h1) (by rw [hr1]; exact hhere)
      have hr3 := hd3.row h2
      have hlm3 : (putM m2 one here (cellN mat other here)).length = n := hd3.1
      generalize putM m2 one here (cellN mat other here) = m3 at hmp hd3 hcell3 hr3 hlm3
      refine ⟨_, _, rfl, _, rfl, _, rfl, ixL_v hq4 (by rw [List.getElem?_map, hq2']; rfl) ⟨_, rfl, q2, _, _, here, rfl, rfl, hmp other q2 hq2', ixN_n (by rw [List.length_map, hr3]; exact hhere), rfl, ?_⟩⟩
      have hmp5 := hmp.put hnd (c := here) (x := cellN mat one here) hq2' (by rw [hlm3]; exact h2)
      have hex5 := Ex.mut (o := .lst (((m3.getD other []).map iv).set here (iv (cellN mat one here)))) hex1 (hfr q2 hq2m)
      have hq5 : (upd H4 q2 (.lst (((m3.getD other []).map iv).set here (iv (cellN mat one here))))) D = some (.lst (qs.map V.ref)) := by
        rw [upd_ne (fun z => hDq (by rw [z]; exact hq2m))]
        exact hq4
      generalize upd H4 q2 (.lst (((m3.getD other []).map iv).set here (iv (cellN mat one here)))) = H5 at hmp5 hex5 hq5
      have hd4 : Dims n (putM m3 other here (cellN mat one here)) := by
        refine ⟨by unfold putM; rw [List.length_set]; exact hlm3, fun row hrow => ?_⟩
        unfold putM at hrow
        rcases List.mem_or_eq_of_mem_set hrow with z | z
        · exact hd3.2 row z
        · rw [z, List.length_set]
          exact hr3
      have hcell4 : ∀ r c, r < n → c < n → cellN (putM m3 other here (cellN mat one here)) r c = swF (cellN mat) one other (vis ++ [here]) r c := fun r c hr hc => by
        have z1 := putM_cell (mat := m3) (r := other) (c := here) (x := cellN mat one here) (k := r) (d := c) (by rw [hlm3]; exact h2) (by rw [hr3]; exact hhere)
        have z2 := hcell3 r c
        have z3 := hc2 r c hr hc
        have hnv : here ∉ vis := (nodup_snoc.mp hch.1).2
        show cell (putM m3 other here (cellN mat one here)) r c = _
        rw [z1]
        by_cases hce : c = here
        · subst hce
          have z4 : swF (cellN mat) one other (vis ++ [c]) r c = if r = one then cellN mat other c else if r = other then cellN mat one c else cellN mat r c := by
            unfold swF
            rw [if_pos (by simp)]
          rw [z4]
          by_cases q1 : r = other
          · rw [if_pos ⟨q1, rfl⟩, if_neg (fun z : r = one => hne (z.symm.trans q1)), if_pos q1]
          · rw [if_neg (fun z => q1 z.1), z2]
            by_cases q2 : r = one
            · rw [if_pos ⟨q2, rfl⟩, if_pos q2]
            · rw [if_neg (fun z => q2 z.1), if_neg q2, if_neg q1]
              show cellN m2 r c = _
              rw [z3]
              unfold swF
              rw [if_neg hnv]
        · rw [if_neg (fun z => hce z.2), z2, if_neg (fun z => hce z.2)]
          show cellN m2 r c = _
          rw [z3]
          unfold swF
          by_cases hcv : c ∈ vis
          · rw [if_pos hcv, if_pos (List.mem_append_left _ hcv)]
          · rw [if_neg hcv, if_neg (fun z => by
              rcases List.mem_append.mp z with y | y
              · exact hcv y
              · exact hce (by simpa using y))]
      generalize putM m3 other here (cellN mat one here) = m4 at hmp5 hd4 hcell4
      have hM5 := hM.ex hex5
      obtain ⟨uc, qc, c1, c2, c3, c4⟩ := lm_at hM5 hdm h2
      obtain ⟨ud, qd, d1, d2, d3, d4⟩ := lm_at hM5 hdm h1
      refine ⟨_, rfl, _, rfl, ixL_v c1 c2 ⟨_, rfl, ixL_n c3 (c4 here hhere) ⟨_, rfl, rfl, _, rfl, ?_⟩⟩⟩
      by_cases hw : cellN mat other here = cellN mat one col
      · rw [show decide (iv (cellN mat other here) = iv (cellN mat one col)) = true from decide_eq_true (by rw [hw])]
        refine iteT ⟨_, rfl, hfin H5 m4 (vis ++ [here]) hex5 hq5 hd4 hmp5 hcell4 hlt (chain_closed hch (by rw [h0]; exact hw))⟩
      · rw [show decide (iv (cellN mat other here) = iv (cellN mat one col)) = false from decide_eq_false (fun z => hw (by
          have : ((cellN mat other here : Nat) : Int) = (cellN mat one col : Int) := V.int.inj z
          omega))]
        refine iteF ?_
        have hmem : cellN mat other here ∈ mat.getD one [] := (hL.2.1 _ (getD_mem [] (by rw [hml]; exact h1))).mem (hLC.lt other here h2 hhere)
        obtain ⟨j, hj⟩ := List.getElem?_of_mem hmem
        have hjn : j < n := by
          have := (List.getElem?_eq_some_iff.mp hj).1
          rw [hdm.row h1] at this
          exact this
        have hcj : cellN mat one j = cellN mat other here := getD_ix hj
        refine ⟨_, rfl, _, rfl, ixL_v d1 d2 ⟨.inl ⟨rfl, _, Evl.sq_of d3⟩, _, rfl, _, rfl, ixL_v c1 c2 ⟨_, rfl, ixL_n c3 (c4 here hhere) ?_⟩⟩⟩
        refine ⟨qd, _, _, j, iv (cellN mat other here), rfl, rfl, Evl.sq_of d3, rfl, iv_all, iv_at hj, (eqV_iv _ _).mpr rfl, fun m z' hm hz' => ?_, ?_⟩
        · obtain ⟨y, hy, rfl⟩ := iv_ix hz'
          rw [Bool.eq_false_iff]
          intro z
          have hyy := (eqV_iv _ _).mp z
          subst hyy
          have hnd2 := (hL.2.1 _ (getD_mem (l := mat) (i := one) [] (by rw [hml]; exact h1))).2.1
          have := (List.getElem?_inj (List.getElem?_eq_some_iff.mp hy).1 hnd2).mp (hy.trans hj.symm)
          omega
        · refine ⟨hex5, hq5, vis ++ [here], j, by simp [hvl], ?_, ?_, fun x hx => ?_, ⟨m4, hd4, hmp5, hcell4⟩, _, _, rfl⟩
          · exact chain_next hLC h2 hlt hch hcj.symm (by rw [h0]; exact hw)
          · rw [List.getD_eq_getElem?_getD, List.getElem?_append_left (by simp), ← List.getD_eq_getElem?_getD]
            exact h0
          · rcases List.mem_append.mp hx with z | z
            · exact hlt x z
            · have : x = j := by simpa using z
              omega
    · obtain ⟨e2, hq2, vis, here, hvl, hch, h0, hlt, _⟩ := pv
      have := chain_short hch hlt
      omega
end
end K65
namespace K65
open PySem PySem.Spec PyProof.Rows L2 SlX
open Evl (Ex)
open PySem.W (Datum Tup)
theorem latin_trans {n : Nat} {mat : List (List Nat)} (h : Latin n mat) : Latin n ((List.range n).map fun c => mat.map fun r => r.getD c 0) := by
  obtain ⟨hd, hC⟩ := cells_of_latin h
  refine latin_of_cells ⟨by simp, fun r hr => ?_⟩ (hC.trans.congr fun r c hr hc => ?_)
  · obtain ⟨c, _, rfl⟩ := List.mem_map.mp hr
    rw [List.length_map]
    exact hd.1
  · have e1 : ((List.range n).map fun c => mat.map fun r => r.getD c 0).getD r [] = mat.map fun x => x.getD r 0 := by
      rw [List.getD_eq_getElem?_getD, List.getElem?_map, List.getElem?_range hr]
      rfl
    unfold cellN
    rw [e1, List.getD_eq_getElem?_getD, List.getElem?_map, ix_getD [] (by rw [hd.1]; exact hc)]
    rfl
theorem latin_named {n : Nat} {mat : List (List Nat)} {s l : List Nat} (h : Latin n mat) (hs : PermN n s) (hl : PermN n l) : Latin n (l.map fun a => (mat.getD a []).map fun x => s.getD x 0) := by
  obtain ⟨hd, hC⟩ := cells_of_latin h
  obtain ⟨l1, l2⟩ := fn_of_permN hl
  refine latin_of_cells ⟨by rw [List.length_map]; exact hl.1, fun r hr => ?_⟩ ((hC.named hs hl).congr fun r c hr hc => ?_)
  · obtain ⟨a, ha, rfl⟩ := List.mem_map.mp hr
    rw [List.length_map]
    exact hd.row (hl.2.2 a ha)
  · have hr2 := l1 r hr
    have e1 : (l.map fun a => (mat.getD a []).map fun x => s.getD x 0).getD r [] = (mat.getD (l.getD r 0) []).map fun x => s.getD x 0 := by
      rw [List.getD_eq_getElem?_getD, List.getElem?_map, ix_getD 0 (by rw [hl.1]; exact hr)]
      rfl
    unfold cellN
    rw [e1, List.getD_eq_getElem?_getD, List.getElem?_map, ix_getD 0 (by rw [hd.row hr2]; exact hc)]
    rfl
section
variable {P : Program} {w : World} {K : PySem.W.Frag} {mg : Str → Option Value} {base : Heap} {C CM : Addr}
abbrev s__law_rows : Stmt := topS 53
theorem sc__law_rows : FnScope ["_law_pot_here", "_law_order", "_law_rows_here", "_law_turn", "_law_one", "_law_other", "_law_signs", "_law_lines", "_law_row", "_law_column", "_law_at", "_law_sign"] ["_law_pot_here", "_law_order"] (defScope s__law_rows) := ⟨rfl, rfl, rfl, by decide +kernel, rfl, by decide +kernel, by decide +kernel⟩
def sp_lrows : Sp := fun vs H Q _ => ∃ (p : Addr) (n : Nat), vs = [.ref p, iv n] ∧ Pot H p ∧ 1 ≤ n ∧ n ≤ 5 ∧ ∀ v rs H', Latin n rs → Px p H H' → Pot H' p → Nuu H' rs v → Q v H'
/-- what stands between the statements -/
def RwSt (H : Hp) (p : Addr) (n : Nat) (σ : L2.St) (H' : Hp) : Prop := Px p H H' ∧ Pot H' p ∧ ∃ q mat o3 o4 o5 o6 o7 o8 o9 o10 o11, σ = [some (.ref p), some (iv n), some (.ref q), o3, o4, o5, o6, o7, o8, o9, o10, o11] ∧ LM (fun a => a ≠ p) H' q mat ∧ Latin n mat
theorem lm_pot {H1 : Hp} {p q : Addr} {mat : List (List Nat)} {a b c : Int} (hp : Pot H1 p) (h : LM (fun a => a ≠ p) H1 q mat) : LM (fun a => a ≠ p) (upd H1 p (.lst [.int a, .int b, .int c])) q mat := h.px (fun _ z => z) hp.px
theorem lm_fresh {H1 H2 : Hp} {p q : Addr} {mat : List (List Nat)} (hp : Pot H1 p) (h : LM (fun a => H1 a = none) H2 q mat) : LM (fun a => a ≠ p) H2 q mat := h.imp fun a ha e => by
  obtain ⟨x, y, z, hp⟩ := hp
  rw [e, hp] at ha
  cases ha
theorem ok_lrows (T : Txt K mg) (D : Df K mg "_law_rows" s__law_rows) (c_law_ladle : Ca P w K mg base 1 "_law_ladle" ["_law_pot_here", "_law_many"] sp_ladle) (c_law_mixed : Ca P w K mg base 2 "_law_mixed" ["_law_pot_here", "_law_many"] sp_mixed) (c_law_switched : Ca P w K mg base 1 "_law_switched" ["_law_rows_here", "_law_one", "_law_other", "_law_column"] sp_switched) :
    Ca P w K mg base 3 "_law_rows" ["_law_pot_here", "_law_order"] sp_lrows := by
  refine ca_mk D sc__law_rows (fun vs H Q E h => ?_) (fun _ _ _ _ _ _ us hl => match us, hl with | [_, _], _ => rfl) (fun f cdv A outer s H vs Q E hr h => ?_)
  · obtain ⟨p, n, rfl, _⟩ := h
    rfl
  obtain ⟨p, n, rfl, hp, h1, h2, q⟩ := h
  have nd := sc__law_rows.nd
  refine ⟨_, (pss_cons (ps_set (i := 2) nd rfl (Or.inr rfl) (pe_lc (own := [("_law_row", 8)]) rfl nd (pi_range1 (by rfl) T.m_range (pa_cons (pv 1) pa_nil)) (blkOk_by (N := ["_law_pot_here", "_law_order", "_law_rows_here", "_law_turn", "_law_one", "_law_other", "_law_signs", "_law_lines", "_law_row", "_law_column", "_law_at", "_law_sign"]) (sc := defScope s__law_rows) (by decide +kernel)) (fun _ _ _ _ _ => (pg_name (i := 8) nd rfl (by first | exact Or.inl rfl | exact Or.inr rfl))) (fun _ _ _ _ _ => pts_nil) (fun _ _ _ _ _ => (pe_lc (own := [("_law_column", 9)]) rfl nd (pi_range1 (by rfl) T.m_range (pa_cons (pv 1) pa_nil)) (blkOk_by (by kernel_rfl)) (fun _ _ _ _ _ => (pg_name (i := 9) nd rfl (by first | exact Or.inl rfl | exact Or.inr rfl))) (fun _ _ _ _ _ => pts_nil) (fun _ _ _ _ _ => (pe_op op_modN (pe_op op_add (pv 8) (pv 9)) (pv 1)))))))
    (Evl.pss_cut (ps_if (PW.pt (pw_and (pt_cmpR op_eq (pv 1) pe_int (nomark _)) (pw_and1 (pt_cmpR op_eq (pe_ca c_law_ladle hr (pa_cons (pv 0) (pa_cons pe_int pa_nil))) pe_int (nomark _))))) (pss_one (ps_set (i := 2) nd rfl (Or.inr rfl) (pe_lst (pa_cons (pe_lst (pa_cons pe_int (pa_cons pe_int (pa_cons pe_int (pa_cons pe_int pa_nil))))) (pa_cons (pe_lst (pa_cons pe_int (pa_cons pe_int (pa_cons pe_int (pa_cons pe_int pa_nil))))) (pa_cons (pe_lst (pa_cons pe_int (pa_cons pe_int (pa_cons pe_int (pa_cons pe_int pa_nil))))) (pa_cons (pe_lst (pa_cons pe_int (pa_cons pe_int (pa_cons pe_int (pa_cons pe_int pa_nil))))) pa_nil))))))) pss_nil)
    (Evl.pss_cut (ps_for PassesOwn.never rfl (pi_range1 (by rfl) T.m_range (pa_cons (pe_ca c_law_ladle hr (pa_cons (pv 0) (pa_cons pe_int pa_nil))) pa_nil)) (pg_name (i := 3) nd rfl (Or.inl rfl))
      (pss_one (ps_if (PW.pt (pw_and (pt_cmpR op_gt (pv 1) pe_int (nomark _)) (pw_and1 (pt_cmpR op_gt (pe_ca c_law_ladle hr (pa_cons (pv 0) (pa_cons pe_int pa_nil))) pe_int (nomark _))))) (pss_cons (ps_set (i := 4) nd rfl (Or.inl rfl) (pe_ca c_law_ladle hr (pa_cons (pv 0) (pa_cons (pv 1) pa_nil))))
    (pss_cons (ps_set (i := 5) nd rfl (Or.inl rfl) (pe_op op_modN (pe_op op_add (pe_op op_add (pv 4) pe_int) (pe_ca c_law_ladle hr (pa_cons (pv 0) (pa_cons (pe_op op_sub (pv 1) pe_int) pa_nil)))) (pv 1)))
    (pss_one (ps_set (i := 2) nd rfl (Or.inr rfl) (pe_ca c_law_switched hr (pa_cons (pv 2) (pa_cons (pv 4) (pa_cons (pv 5) (pa_cons (pe_ca c_law_ladle hr (pa_cons (pv 0) (pa_cons (pv 1) pa_nil))) pa_nil))))))))) (pss_one (ps_set (i := 2) nd rfl (Or.inr rfl) (pe_lc (own := [("_law_at", 10)]) rfl nd (pi_range1 (by rfl) T.m_range (pa_cons (pv 1) pa_nil)) (blkOk_by (N := ["_law_pot_here", "_law_order", "_law_rows_here", "_law_turn", "_law_one", "_law_other", "_law_signs", "_law_lines", "_law_row", "_law_column", "_law_at", "_law_sign"]) (sc := defScope s__law_rows) (by decide +kernel)) (fun _ _ _ _ _ => (pg_name (i := 10) nd rfl (by first | exact Or.inl rfl | exact Or.inr rfl))) (fun _ _ _ _ _ => pts_nil) (fun _ _ _ _ _ => (pe_lc (own := [("_law_row", 8)]) rfl nd (pi_listK K (pv 2)) (blkOk_by (by kernel_rfl)) (fun _ _ _ _ _ => (pg_name (i := 8) nd rfl (by first | exact Or.inl rfl | exact Or.inr rfl))) (fun _ _ _ _ _ => pts_nil) (fun _ _ _ _ _ => (pe_ix (ix_listK K) (pv 8) (pv 10) (fun _ _ => rfl)))))))))))
    (pss_cons (ps_asg (pe_tup (pa_cons (pe_ca c_law_mixed hr (pa_cons (pv 0) (pa_cons (pv 1) pa_nil))) (pa_cons (pe_ca c_law_mixed hr (pa_cons (pv 0) (pa_cons (pv 1) pa_nil))) pa_nil))) (pg_tupK K (n := 2) (by rfl) (pgs_cons (pg_name (i := 6) nd rfl (Or.inr rfl)) (pgs_cons (pg_name (i := 7) nd rfl (Or.inl rfl)) pgs_nil))))
    (pss_one (ps_ret (pe_callTy (call_tuple_ofK K) (by rfl) T.m_tuple (by decide +kernel) (pa_cons (pe_lc (own := [("_law_at", 10)]) rfl nd (pi_tupK K (pv 7)) (blkOk_by (N := ["_law_pot_here", "_law_order", "_law_rows_here", "_law_turn", "_law_one", "_law_other", "_law_signs", "_law_lines", "_law_row", "_law_column", "_law_at", "_law_sign"]) (sc := defScope s__law_rows) (by decide +kernel)) (fun _ _ _ _ _ => (pg_name (i := 10) nd rfl (by first | exact Or.inl rfl | exact Or.inr rfl))) (fun _ _ _ _ _ => pts_nil) (fun _ _ _ _ _ => (pe_callTy (call_tuple_ofK K) (by rfl) T.m_tuple (by decide +kernel) (pa_cons (pe_lc (own := [("_law_sign", 11)]) rfl nd (pi_listK K (pe_ix (ix_listK K) (pv 2) (pv 10) (fun _ _ => rfl))) (blkOk_by (by kernel_rfl)) (fun _ _ _ _ _ => (pg_name (i := 11) nd rfl (by first | exact Or.inl rfl | exact Or.inr rfl))) (fun _ _ _ _ _ => pts_nil) (fun _ _ _ _ _ => (pe_ix (ix_tupK K) (pv 6) (pv 11) (fun _ _ => rfl)))) pa_nil)))) pa_nil)))))))), ?_⟩
  refine ⟨_, rfl, _, rfl, by omega, by omega, fun D hD => ?_⟩
  refine lc_freshN (walk_rn (n := n) (by omega)) hD (fun i => ((List.range n).map fun c => (i + c) % n).map iv) (by omega) (fun _ _ => trivial) (fun i x H1 H2 Kt hi e1 hx k => ?_) (fun qs H1 e1 hq hql hnd hDq hall => ?_)
  · obtain ⟨rfl, rfl⟩ := hx
    refine ⟨rfl, _, rfl, _, rfl, by omega, by omega, fun D2 hD2 => ?_⟩
    refine lc_kp (walk_rn (n := n) (by omega)) hD2 (fun c y H' => y = iv ((i + c) % n)) (by omega) (fun _ _ => trivial) (fun j y _ _ e z => z) (fun c x H3 H4 Kt2 hc e3 hx k2 => ?_) (fun ys H3 e3 hy a2 => ?_)
    · obtain ⟨rfl, rfl⟩ := hx
      refine ⟨rfl, _, rfl, _, rfl, _, _, rfl, rfl, _, rfl, _, _, rfl, rfl, by show ((n : Nat) : Int) ≠ 0; omega, k2 _ _ (Ex.refl _) ?_⟩
      show V.int (Int.fmod ((i : Int) + (c : Int)) (n : Int)) = iv ((i + c) % n)
      rw [← Int.natCast_add, fmod_nat]
      rfl
    · refine k D2 _ hD2 e3 ?_
      rw [hy, A2.eqs a2, List.map_map]
      rfl
  have hm0 : MatAt H1 qs (ringM n) := fun r q hr => by
    rw [(hall r q hr).1]
    have hlt := (List.getElem?_eq_some_iff.mp hr).1
    unfold ringM kinM
    rw [List.getD_eq_getElem?_getD, List.getElem?_map, List.getElem?_range (by omega)]
    rfl
  have hL0 := kin_latin (permN_range n) h1
  have hLM0 : LM (fun a => a ≠ p) H1 D (ringM n) := lm_fresh hp (lm_of (mat := ringM n) hD hq (by rw [hql]; exact hL0.1.symm) (fun q hq' => by obtain ⟨i, hi⟩ := List.getElem?_of_mem hq'; exact (hall i q hi).2) hm0)
  have hst0 : RwSt H p n [some (.ref p), some (iv n), some (.ref D), none, none, none, none, none, none, none, none, none] H1 := ⟨Px.of hp.lst e1, hp.ex e1, D, ringM n, none, none, none, none, none, none, none, none, none, rfl, hLM0, hL0⟩
  have hp1 := hp.ex e1
  have hx1 := Px.of hp.lst e1
  refine ⟨RwSt H p n, ?_, fun σ H2 hst => ⟨RwSt H p n, ?_, fun σ H3 hst3 => ?_⟩⟩
  · refine ⟨_, rfl, rfl, _, rfl, ?_⟩
    by_cases hn4 : n = 4
    · subst hn4
      refine iteT ?_
      refine ⟨_, rfl, p, 2, rfl, hp1, by decide, by decide, fun k a b c hk => ⟨rfl, _, rfl, ?_⟩⟩
      have hxk := hx1.trans (hp1.px (a := a) (b := b) (c := c))
      have hpk : Pot (upd H1 p (.lst [.int a, .int b, .int c])) p := Pot.new
      have hLk := lm_pot (a := a) (b := b) (c := c) hp1 hLM0
      refine ite2 (fun c1 => ?_) (fun c1 => ?_)
      · generalize upd H1 p (.lst [.int a, .int b, .int c]) = H2 at hxk hpk hLk
        refine ⟨(by show 4 ≤ sizeLine; decide), fun l1 hl1 => ⟨(by show 4 ≤ sizeLine; decide), fun l2 hl2 => ⟨(by show 4 ≤ sizeLine; decide), fun l3 hl3 => ⟨(by show 4 ≤ sizeLine; decide), fun l4 hl4 => ⟨(by show 4 ≤ sizeLine; decide), fun l5 hl5 => ?_⟩⟩⟩⟩⟩
        have x1 := Ex.new (o := .lst [.int 0, .int 1, .int 2, .int 3]) hl1
        have x2 := Ex.new (o := .lst [.int 1, .int 0, .int 3, .int 2]) hl2
        have x3 := Ex.new (o := .lst [.int 2, .int 3, .int 0, .int 1]) hl3
        have x4 := Ex.new (o := .lst [.int 3, .int 2, .int 1, .int 0]) hl4
        have x5 := Ex.new (o := .lst [.ref l1, .ref l2, .ref l3, .ref l4]) hl5
        have xa := x1.trans (x2.trans (x3.trans (x4.trans x5)))
        have f2 := Evl.fresh_back x1 hl2
        have f3 := Evl.fresh_back (x1.trans x2) hl3
        have f4 := Evl.fresh_back (x1.trans (x2.trans x3)) hl4
        have f5 := Evl.fresh_back (x1.trans (x2.trans (x3.trans x4))) hl5
        refine ⟨hxk.trans (Px.of hpk.lst xa), hpk.ex xa, l5, [[0,1,2,3],[1,0,3,2],[2,3,0,1],[3,2,1,0]], none, none, none, none, none, none, none, none, none, rfl, lm_fresh hpk ⟨f5, _, upd_same, ⟨l1, rfl, hl1, (x2.trans (x3.trans (x4.trans x5))) _ _ upd_same⟩, ⟨l2, rfl, f2, (x3.trans (x4.trans x5)) _ _ upd_same⟩, ⟨l3, rfl, f3, (x4.trans x5) _ _ upd_same⟩, ⟨l4, rfl, f4, x5 _ _ upd_same⟩, trivial⟩, kleinC⟩
      · exact ⟨hxk, hpk, D, ringM 4, none, none, none, none, none, none, none, none, none, rfl, hLk, hL0⟩
    · rw [show decide (iv n = V.int 4) = false from decide_eq_false (fun z => hn4 (by have := V.int.inj z; omega))]
      exact iteF hst0
  · obtain ⟨hx, hpt, qq, mat, o3, o4, o5, o6, o7, o8, o9, o10, o11, rfl, hLM, hL⟩ := hst
    refine ⟨_, rfl, p, 7, rfl, hpt, by decide, by decide, fun k a b c hk => ⟨_, rfl, by omega, by omega, ?_⟩⟩
    refine for_it (walk_rn (n := k) (by omega)) (fun i σ H' => RwSt H p n σ H') ⟨hx.trans hpt.px, Pot.new, qq, mat, o3, o4, o5, o6, o7, o8, o9, o10, o11, rfl, lm_pot hpt hLM, hL⟩ (fun _ _ _ _ _ => trivial) (fun i x σ H3 H4 hi pv y => ?_) (fun σ H3 pv => pv)
    obtain ⟨hx3, hp3, q3, mat3, o3, o4, o5, o6, o7, o8, o9, o10, o11, rfl, hLM3, hL3⟩ := pv
    obtain ⟨rfl, rfl⟩ := y
    obtain ⟨hd3, _⟩ := cells_of_latin hL3
    have hother : ∀ (D : Ends) H5, Px p H H5 → Pot H5 p → LM (fun a => a ≠ p) H5 q3 mat3 → (∀ σ' H', RwSt H p n σ' H' → D.nx σ' H') →
        tAsg (tLc (iRng1 (tCons (tVar 1) tNil)) (gName 10) tYes (tLc (iList K (tVar 2)) (gName 8) tYes (tOp (rIxL K) (tVar 8) (tVar 10)) [8]) [10]) (gName 2) D [some (.ref p), some (iv n), some (.ref q3), some (iv i), o4, o5, o6, o7, o8, o9, o10, o11] H5 := fun D H5 hx5 hp5 hL5 hD => by
      refine ⟨_, rfl, _, rfl, by omega, by omega, fun D1 hD1 => ?_⟩
      refine lc_freshN (walk_rn (n := n) (by omega)) hD1 (fun c => (mat3.map fun r => r.getD c 0).map iv) (by omega) (fun _ _ => trivial) (fun c x H6 H7 Kt hc e6 hx k => ?_) (fun qs H6 e6 hq hql hnd hDq hall => ?_)
      · obtain ⟨rfl, rfl⟩ := hx
        obtain ⟨_, us, hus1, hus2⟩ := hL5.ex e6
        have hul := hus2.len
        have hml := hd3.1
        refine ⟨rfl, _, rfl, q3, rfl, ⟨_, Evl.sq_of hus1⟩, fun D2 hD2 => ?_⟩
        refine lc_kp walk_list hD2 (fun r y H' => ∀ row, mat3[r]? = some row → y = iv (row.getD c 0)) (by omega) (fun H8 e => Evl.sq_of (e _ _ hus1)) (fun j y _ _ _ z => z) (fun r x H8 H9 Kt2 hr e8 hx8 k2 => ?_) (fun ys H8 e8 hy a2 => ?_)
        · obtain ⟨rfl, hx8⟩ := hx8
          obtain ⟨row, hrow, qr, rfl, _, hqr⟩ := hus2.get hx8
          refine ⟨rfl, _, rfl, _, rfl, ixL_n (e8 _ _ hqr) (getD_of (by rw [hd3.2 row (List.mem_of_getElem? hrow)]; exact hc)) (k2 _ _ (Ex.refl _) fun row' hrow' => ?_)⟩
          rw [hrow] at hrow'
          cases hrow'
          rfl
        · rw [← hul] at a2
          refine k D2 _ hD2 e8 ?_
          rw [hy, A2.eqs (A2_range (R := fun (row : List Nat) y => y = iv (row.getD c 0)) a2), List.map_map]
          rfl
      · have hm1 : MatAt H6 qs ((List.range n).map fun c => mat3.map fun r => r.getD c 0) := fun r q hr => by
          rw [(hall r q hr).1]
          have hlt := (List.getElem?_eq_some_iff.mp hr).1
          rw [List.getD_eq_getElem?_getD, List.getElem?_map, List.getElem?_range (by omega)]
          rfl
        have hLM6 : LM (fun a => a ≠ p) H6 D1 ((List.range n).map fun c => mat3.map fun r => r.getD c 0) := lm_fresh hp5 (lm_of hD1 hq (by simp [hql]) (fun q hq' => by obtain ⟨i, hi⟩ := List.getElem?_of_mem hq'; exact (hall i q hi).2) hm1)
        exact hD _ _ ⟨hx5.trans (Px.of hp5.lst e6), hp5.ex e6, D1, _, some (iv i), o4, o5, o6, o7, o8, o9, o10, o11, rfl, hLM6, latin_trans hL3⟩
    refine ⟨_, rfl, _, _, rfl, rfl, _, rfl, ?_⟩
    refine ite2 (fun c1 => ?_) (fun c1 => ?_)
    · have hn1 : 1 < n := by
        have : ((n : Nat) : Int) > 1 := of_decide_eq_true c1
        omega
      refine ⟨_, rfl, p, 3, rfl, hp3, by decide, by decide, fun k a b c hk => ⟨_, _, rfl, rfl, _, rfl, ?_⟩⟩
      have hx5 := hx3.trans (hp3.px (a := a) (b := b) (c := c))
      have hp5 : Pot (upd H4 p (.lst [.int a, .int b, .int c])) p := Pot.new
      have hL5 := lm_pot (a := a) (b := b) (c := c) hp3 hLM3
      generalize upd H4 p (.lst [.int a, .int b, .int c]) = H5 at hx5 hp5 hL5
      refine ite2 (fun c2 => ?_) (fun c2 => ?_)
      · refine ⟨_, rfl, _, rfl, p, n, rfl, hp5, by omega, by omega, fun one a b c hone => ?_⟩
        have hx6 := hx5.trans (hp5.px (a := a) (b := b) (c := c))
        have hp6 : Pot (upd H5 p (.lst [.int a, .int b, .int c])) p := Pot.new
        have hL6 := lm_pot (a := a) (b := b) (c := c) hp5 hL5
        generalize upd H5 p (.lst [.int a, .int b, .int c]) = H6 at hx6 hp6 hL6
        refine ⟨_, rfl, _, _, rfl, rfl, _, rfl, _, rfl, _, _, rfl, rfl, p, n - 1, by show [V.ref p, V.int ((n : Int) - 1)] = [V.ref p, iv (n - 1)]; unfold iv; rw [show ((n : Nat) : Int) - 1 = ((n - 1 : Nat) : Int) by omega], hp6, by omega, by omega, fun d a b c hd => ?_⟩
        have hx7 := hx6.trans (hp6.px (a := a) (b := b) (c := c))
        have hp7 : Pot (upd H6 p (.lst [.int a, .int b, .int c])) p := Pot.new
        have hL7 := lm_pot (a := a) (b := b) (c := c) hp6 hL6
        generalize upd H6 p (.lst [.int a, .int b, .int c]) = H7 at hx7 hp7 hL7
        refine ⟨_, _, rfl, rfl, _, rfl, _, _, rfl, rfl, by show ((n : Nat) : Int) ≠ 0; omega, ?_⟩
        have hov : V.int (Int.fmod ((one : Int) + 1 + (d : Int)) (n : Int)) = iv ((one + 1 + d) % n) := by
          rw [show (one : Int) + 1 + (d : Int) = ((one + 1 + d : Nat) : Int) by omega, fmod_nat]
          rfl
        have hon : (one + 1 + d) % n < n := Nat.mod_lt _ (by omega)
        have hoe : one ≠ (one + 1 + d) % n := fun z => by
          have h9 : (one + 0) % n = (one + (1 + d)) % n := by
            rw [Nat.add_zero, Nat.mod_eq_of_lt hone, ← Nat.add_assoc]
            exact z
          have := add_mod_inj (a := one) (by omega : 0 < n) (by omega : 1 + d < n) h9
          omega
        show tSeq _ _ _ _ _
        refine ⟨_, rfl, _, rfl, _, rfl, _, rfl, _, rfl, p, n, rfl, hp7, by omega, by omega, fun col a b c hcol => ?_⟩
        have hx8 := hx7.trans (hp7.px (a := a) (b := b) (c := c))
        have hp8 : Pot (upd H7 p (.lst [.int a, .int b, .int c])) p := Pot.new
        have hL8 := lm_pot (a := a) (b := b) (c := c) hp7 hL7
        generalize upd H7 p (.lst [.int a, .int b, .int c]) = H8 at hx8 hp8 hL8
        refine ⟨q3, n, one, (one + 1 + d) % n, col, mat3, ?_, hL8.imp (fun _ _ => trivial), hL3, by omega, hone, hon, hoe, hcol, fun q9 H9 mat9 e9 hM9 hL9 => ?_⟩
        · rw [← hov]
        · exact ⟨hx8.trans (Px.of hp8.lst e9), hp8.ex e9, q9, mat9, _, _, _, _, _, _, _, _, _, rfl, lm_fresh hp8 hM9, hL9⟩
      · exact hother _ H5 hx5 hp5 hL5 (fun _ _ z => z)
    · exact hother _ H4 hx3 hp3 hLM3 (fun _ _ z => z)
  · obtain ⟨hx, hpt, qq, mat, o3, o4, o5, o6, o7, o8, o9, o10, o11, rfl, hLM, hL⟩ := hst3
    obtain ⟨hdm, hC⟩ := cells_of_latin hL
    refine ⟨_, rfl, _, rfl, p, n, rfl, hpt, by omega, fun v1 S H4 hS hx4 hp4 hv1 => ?_⟩
    have hLM4 := hLM.px (fun _ z => z) hx4
    refine ⟨_, rfl, _, rfl, p, n, rfl, hp4, by omega, fun v2 L H5 hLL hx5 hp5 hv2 => ⟨(by show 2 ≤ sizeLine; decide), fun t ht => ?_⟩⟩
    have eT := Ex.new (o := .tup [v1, v2]) ht
    have hLM5 := (hLM4.px (fun _ z => z) hx5).ex eT
    have hv1' := (hv1.mono (kpP hx5)).mono (kpE eT)
    have hv2' := hv2.mono (kpE eT)
    have hp6 := hp5.ex eT
    have hxA : Px p H (upd H5 t (.tup [v1, v2])) := ((hx.trans hx4).trans hx5).trans (Px.of hp5.lst eT)
    have hT : (upd H5 t (.tup [v1, v2])) t = some (.tup [v1, v2]) := upd_same
    generalize upd H5 t (.tup [v1, v2]) = H6 at hLM5 hv1' hv2' hp6 hxA hT
    obtain ⟨sa, rfl, hsa⟩ := id hv1'
    obtain ⟨la, rfl, hla⟩ := id hv2'
    refine ⟨t, _, rfl, Evl.st_of hT, rfl, _, _, rfl, _, _, rfl, rfl, ?_⟩
    refine ⟨_, rfl, la, rfl, ⟨_, Evl.st_of hla⟩, fun D1 hD1 => ?_⟩
    have hll : (L.map iv).length = n := by rw [List.length_map]; exact hLL.1
    refine lc_kp walk_tup hD1 (fun i y H' => ∀ at_, L[i]? = some at_ → Nu H' ((mat.getD at_ []).map fun x => S.getD x 0) y) (by omega) (fun H7 e => Evl.st_of (e _ _ hla)) (fun i y _ _ e z at_ hat => (z at_ hat).mono e) (fun i x H7 H8 Kt hi e7 hx7 k => ?_) (fun ys H7 e7 hy a2 => ?_)
    · obtain ⟨rfl, hx7⟩ := hx7
      obtain ⟨at_, hat, rfl⟩ := iv_ix hx7
      have hatn : at_ < n := hLL.2.2 at_ (List.mem_of_getElem? hat)
      obtain ⟨us, qa, g1, g2, g3, g4⟩ := lm_at (hLM5.ex e7) hdm hatn
      have hrl := hdm.row hatn
      refine ⟨rfl, _, rfl, _, rfl, ixL_v g1 g2 ⟨qa, rfl, ⟨_, Evl.sq_of g3⟩, fun D2 hD2 => ?_⟩⟩
      refine lc_kp walk_list hD2 (fun j y H' => ∀ s, (mat.getD at_ [])[j]? = some s → y = iv (S.getD s 0)) (by rw [List.length_map, hrl]; omega) (fun H9 e => Evl.sq_of (e _ _ g3)) (fun j y _ _ _ z => z) (fun j x H9 H10 Kt2 hj e9 hx9 k2 => ?_) (fun ys H9 e9 hy a2 => ?_)
      · obtain ⟨rfl, hx9⟩ := hx9
        obtain ⟨s, hs, rfl⟩ := iv_ix hx9
        have hsn : s < S.length := by
          rw [hS.1]
          have := (hL.2.1 _ (getD_mem [] (by rw [hdm.1]; exact hatn))).2.2 s (List.mem_of_getElem? hs)
          exact this
        refine ⟨rfl, _, rfl, _, rfl, ixT_n (e9 _ _ (e7 _ _ hsa)) (getD_of hsn) (k2 _ _ (Ex.refl _) fun s' hs' => ?_)⟩
        rw [hs] at hs'
        cases hs'
        rfl
      · refine ⟨D2, ys, rfl, .inl ⟨Evl.sq_of hy, fun p2 hp2 => k _ _ (e9.trans (Ex.new hp2)) fun at' hat' => ⟨p2, rfl, ?_⟩⟩⟩
        rw [hat] at hat'
        cases hat'
        rw [upd_same]
        rw [List.length_map] at a2
        rw [A2.eqs (A2_range (R := fun (s : Nat) y => y = iv (S.getD s 0)) a2), List.map_map]
        rfl
    · refine ⟨D1, ys, rfl, .inl ⟨Evl.sq_of hy, fun p2 hp2 => ?_⟩⟩
      have e8 := e7.trans (Ex.new (o := .tup ys) hp2)
      rw [List.length_map] at a2
      have hA := A2_range (R := fun (at_ : Nat) y => Nu H7 ((mat.getD at_ []).map fun x => S.getD x 0) y) a2
      exact q _ _ _ (latin_named hL hS hLL) (hxA.trans (Px.of hp6.lst e8)) (hp6.ex e8) ⟨p2, ys, rfl, upd_same, A2Nu.mono (kpE (Ex.new hp2)) (A2.map hA)⟩
end
end K65
namespace K65
open PySem PySem.Spec PyProof.Rows L2 SlX
open Evl (Ex)
open PySem.W (Datum Tup)
section
variable {P : Program} {w : World} {K : PySem.W.Frag} {mg : Str → Option Value} {base : Heap} {C CM : Addr}
mutual
theorem Dr.px {p : Addr} {H H' : Hp} (e : Px p H H') : ∀ (d : Dt) (v : V), Dr K H v d → Dr K H' v d
  | .i n, _, h => by cases h; exact .i _
  | .oth, _, h => by
    cases h with
    | bl b => exact .bl b
    | non => exact .non
    | @lst a _ q =>
      by_cases c : a = p
      · obtain ⟨xs, hx⟩ := e.2.1
        subst c
        exact .lst hx
      · exact .lst (e.2.2 _ _ c q)
    | dK q => exact .dK (kpP e _ _ trivial q)
  | .tup ds, _, h => by
    cases h with
    | tup q a => exact .tup (kpP e _ _ trivial q) (DrAll.px e ds _ a)
theorem DrAll.px {p : Addr} {H H' : Hp} (e : Px p H H') : ∀ (ds : List Dt) (vs : List V), DrAll K H vs ds → DrAll K H' vs ds
  | [], _, h => by cases h; exact .nil
  | d :: ds, _, h => by
    cases h with
    | cons h1 h2 => exact .cons (Dr.px e d _ h1) (DrAll.px e ds _ h2)
end
/-- a value that is no parting -/
def Bd (K : PySem.W.Frag) (n : Nat) (rs : List (List Nat)) (H : Hp) (v : V) : Prop := ∃ d, Dr K H v d ∧ ¬ partD n rs d
theorem Bd.ex {n : Nat} {rs : List (List Nat)} {H H' : Hp} {v : V} (e : Ex H H') (h : Bd K n rs H v) : Bd K n rs H' v := by
  obtain ⟨d, h1, h2⟩ := h
  exact ⟨d, h1.mono e d v, h2⟩
theorem Bd.px {n : Nat} {rs : List (List Nat)} {p : Addr} {H H' : Hp} {v : V} (e : Px p H H') (h : Bd K n rs H v) : Bd K n rs H' v := by
  obtain ⟨d, h1, h2⟩ := h
  exact ⟨d, h1.px e d v, h2⟩
theorem bd_oth {n : Nat} {rs : List (List Nat)} {H : Hp} {v : V} (h : Dr K H v .oth) : Bd K n rs H v := ⟨_, h, fun ⟨ts, e, _⟩ => by cases e⟩
theorem bd_nuu {n : Nat} {rs L : List (List Nat)} {H : Hp} {v : V} (h : Nuu H L v) (hb : ¬ IsPart n rs L) : Bd K n rs H v := ⟨_, h.dr, fun ⟨ts, e, hp⟩ => hb (by rw [dnn_inj e]; exact hp)⟩
theorem bd_at {n i : Nat} {rs : List (List Nat)} {H : Hp} {a : Addr} {xs : List V} {ds : List Dt} (h : H a = some (.tup xs)) (hA : A2 (fun d v => Dr K H v d) ds xs) (hi : i < n) (hb : ∀ t, ds[i]? = some (dn t) → False) : Bd K n rs H (.ref a) := by
  refine ⟨_, .tup h (DrAll.of hA), fun ⟨ts, e, hp⟩ => ?_⟩
  simp only [dnn, Dt.tup.injEq] at e
  have : i < ts.length := by rw [hp.1]; exact hi
  exact hb ts[i] (by rw [e, List.getElem?_map, List.getElem?_eq_getElem this]; rfl)
theorem not_part_len {n : Nat} {rs L : List (List Nat)} (h : L.length ≠ n) : ¬ IsPart n rs L := fun hp => h hp.1
theorem not_part_at {n i : Nat} {rs L : List (List Nat)} {t : List Nat} (h : L[i]? = some t) (hb : t[0]? ≠ some i) : ¬ IsPart n rs L := fun hp => hb (hp.2.1 i t h).2
theorem no_part {σ : L2.St} {H : Hp} {Q : Option Int → Hp → Prop} (h : Q none H) : tNoPart σ H Q := h
theorem sl_init {H : Hp} {a : Addr} {xs : List V} {Q : VK} (h : H a = some (.tup xs)) (h1 : 1 ≤ xs.length) (q : ∀ p, H p = none → Q (.ref p) (upd H p (.tup (xs.take (xs.length - 1))))) : rSlT K (.ref a) none (some (-1)) H Q := by
  refine ⟨a, xs, rfl, Evl.st_of h, fun ⟨_, z⟩ => ?_, fun p hp => ?_⟩
  · have h2 : HT.sIx xs.length xs.length (some (-1)) = ((-1 : Int) + (xs.length : Int)).toNat := rfl
    rw [h2] at z
    omega
  · rw [cut_init]
    exact q p hp
theorem sl_one {H : Hp} {a : Addr} {xs : List V} {Q : VK} (h : H a = some (.tup xs)) (h1 : 2 ≤ xs.length) (q : ∀ p, H p = none → Q (.ref p) (upd H p (.tup (xs.take 1)))) : rSlT K (.ref a) none (some 1) H Q := by
  refine ⟨a, xs, rfl, Evl.st_of h, fun ⟨_, z⟩ => ?_, fun p hp => ?_⟩
  · have h2 : HT.sIx xs.length xs.length (some (1 : Int)) = min 1 xs.length := rfl
    rw [h2] at z
    omega
  · rw [cut_take1]
    exact q p hp
theorem sl_rest {H : Hp} {a : Addr} {xs : List V} {Q : VK} (h : H a = some (.tup xs)) (h1 : 1 ≤ xs.length) (q : ∀ p, H p = none → Q (.ref p) (upd H p (.tup (xs.drop 1)))) : rSlT K (.ref a) (some 1) none H Q := by
  refine ⟨a, xs, rfl, Evl.st_of h, fun ⟨z, _⟩ => ?_, fun p hp => ?_⟩
  · have h2 : HT.sIx xs.length 0 (some (1 : Int)) = min 1 xs.length := rfl
    rw [h2] at z
    omega
  · have := cut_drop (xs := xs) (i := 1) h1
    have e : cutV xs (some 1) none = xs.drop 1 := this
    rw [e]
    exact q p hp
theorem cat2 {H : Hp} {a b : Addr} {xs ys : List V} {Q : VK} (ha : H a = some (.tup xs)) (hb : H b = some (.tup ys)) (hx : 1 ≤ xs.length) (hy : 1 ≤ ys.length) (hl : xs.length + ys.length ≤ 16000000) (q : ∀ p, H p = none → Q (.ref p) (upd H p (.tup (xs ++ ys)))) : rCatA K (.ref a) (.ref b) H Q :=
  ⟨a, b, xs, ys, rfl, rfl, Evl.st_of ha, Evl.st_of hb, sz_le hl, fun e => by subst e; simp at hx, fun _ e => by subst e; simp at hy, fun _ _ p hp => q p hp⟩
theorem drs {H : Hp} : ∀ ns : List Nat, A2 (fun d v => Dr K H v d) (ns.map fun n : Nat => Dt.i (n : Int)) (ns.map iv)
  | [] => trivial
  | n :: ns => ⟨.i _, drs ns⟩
theorem bd_last {n k : Nat} {rs ts : List (List Nat)} {tz : List Nat} {H : Hp} {us : List V} {m g : Addr} {w : V} (hm : H m = some (.tup (us.take (us.length - 1) ++ [.ref g]))) (hg : H g = some (.tup ((tz.map iv).take k ++ [w]))) (hw : Dr K H w .oth) (hus : A2 (Nu H) ts us) (hl : us.length = n) (h1 : 1 ≤ n) : Bd K n rs H (.ref m) := by
  have htl := hus.len
  refine bd_at (i := n - 1) (ds := (ts.take (us.length - 1)).map dn ++ [.tup (((tz.take k).map fun n : Nat => Dt.i (n : Int)) ++ [.oth])]) hm ((A2.map ((hus.take _).mono fun _ _ _ z => Nu.dr z)).app ⟨.tup hg (DrAll.of ?_), trivial⟩) (by omega) fun t z => ?_
  · rw [← List.map_take]
    exact (drs _).app ⟨hw, trivial⟩
  · rw [List.getElem?_append_right (by rw [List.length_map, List.length_take]; omega), List.length_map, List.length_take, show n - 1 - min (us.length - 1) ts.length = 0 by omega] at z
    have z2 : Dt.tup (((tz.take k).map fun n : Nat => Dt.i (n : Int)) ++ [.oth]) = dn t := Option.some.inj z
    simp only [dn, Dt.tup.injEq] at z2
    have z3 : Dt.oth ∈ t.map fun n : Nat => Dt.i (n : Int) := by
      rw [← z2]
      simp
    obtain ⟨_, _, h⟩ := List.mem_map.mp z3
    cases h
abbrev s__law_spoilt : Stmt := topS 59
theorem sc__law_spoilt : FnScope ["_law_pot_here", "_law_value", "_law_found", "_law_one"] ["_law_pot_here", "_law_value"] (defScope s__law_spoilt) := ⟨rfl, rfl, rfl, by decide +kernel, rfl, by decide +kernel, by decide +kernel⟩
def sp_spoilt (K : PySem.W.Frag) : Sp := fun vs H Q _ => ∃ (x v : V) (n : Nat) (rs ts : List (List Nat)), vs = [x, v] ∧ Nuu H ts v ∧ IsPart n rs ts ∧ 3 ≤ n ∧ n ≤ 1000 ∧ ∀ p H' us, Ex H H' → H' p = some (.lst us) → (∀ u ∈ us, Bd K n rs H' u) → us.length ≤ 1000 → Q (.ref p) H'
theorem ok_spoilt (T : Txt K mg) (D : Df K mg "_law_spoilt" s__law_spoilt) : Ca P w K mg base 1 "_law_spoilt" ["_law_pot_here", "_law_value"] (sp_spoilt K) := by
  refine ca_mk D sc__law_spoilt (fun vs H Q E h => ?_) (fun _ _ _ _ _ _ us hl => match us, hl with | [_, _], _ => rfl) (fun f cdv A outer s H vs Q E hr h => ?_)
  · obtain ⟨x, v, n, rs, ts, rfl, _⟩ := h
    rfl
  obtain ⟨x, v, n, rs, ts, rfl, hv, hp, h3, hn, q⟩ := h
  have nd := sc__law_spoilt.nd
  refine ⟨_, (pss_cons (ps_set (i := 2) nd rfl (Or.inl rfl) (pe_lst (pa_cons (pe_callTy (call_list_ofK K) (by rfl) T.m_list (by decide +kernel) (pa_cons (pv 1) pa_nil)) (pa_cons (pe_slice (sl_tupK K) (pv 1) po_none (po_some (pe_un un_neg pe_int))) (pa_cons (pe_op (op_catAK K) (pv 1) (pe_slice (sl_tupK K) (pv 1) po_none (po_some pe_int))) (pa_cons pe_non (pa_cons (pe_tup pa_nil) (pa_cons (pe_ix (ix_tupK K) (pv 1) pe_int (fun _ _ => rfl)) (pa_cons pe_dnewK (pa_cons (pe_callTy (call_tuple_ofK K) (by rfl) T.m_tuple (by decide +kernel) (pa_cons (pe_lc (own := [("_law_one", 3)]) rfl nd (pi_tupK K (pv 1)) (blkOk_by (N := ["_law_pot_here", "_law_value", "_law_found", "_law_one"]) (sc := defScope s__law_spoilt) (by decide +kernel)) (fun _ _ _ _ _ => (pg_name (i := 3) nd rfl (by first | exact Or.inl rfl | exact Or.inr rfl))) (fun _ _ _ _ _ => pts_nil) (fun _ _ _ _ _ => (pe_callTy (call_list_ofK K) (by rfl) T.m_list (by decide +kernel) (pa_cons (pv 3) pa_nil)))) pa_nil)) pa_nil))))))))))
    (pss_cons (ps_if (pt_cmpR op_gt (pe_callB (call_len_seqK K) (by rfl) T.m_len (by decide +kernel) (pa_cons (pv 1) pa_nil)) pe_int (nomark _)) (pss_cons (ps_set (i := 2) nd rfl (Or.inl rfl) (pe_op op_cat (pv 2) (pe_lst (pa_cons (pe_revTK K (pv 1)) (pa_cons (pe_op (op_catAK K) (pe_slice (sl_tupK K) (pv 1) po_none (po_some (pe_un un_neg pe_int))) (pe_slice (sl_tupK K) (pv 1) po_none (po_some pe_int))) (pa_cons (pe_op (op_catAK K) (pe_slice (sl_tupK K) (pv 1) (po_some pe_int) po_none) (pe_slice (sl_tupK K) (pv 1) po_none (po_some pe_int))) pa_nil))))))
    (pss_one (ps_expr (pe_bm PySem.F.plainAttrs_list PySem.F.slot_list_append PySem.F.type_list_append mt_append (pv 2) (pa_cons (pe_op (op_catAK K) (pe_tup (pa_cons (pe_op (op_catAK K) (pe_slice (sl_tupK K) (pe_ix (ix_tupK K) (pv 1) pe_int (fun _ _ => rfl)) (po_some pe_int) po_none) (pe_slice (sl_tupK K) (pe_ix (ix_tupK K) (pv 1) pe_int (fun _ _ => rfl)) po_none (po_some pe_int))) pa_nil)) (pe_slice (sl_tupK K) (pv 1) (po_some pe_int) po_none)) pa_nil))))) pss_nil)
    (pss_one (ps_ret (pe_op op_cat (pv 2) (pe_lst (pa_cons (pe_op (op_catAK K) (pe_slice (sl_tupK K) (pv 1) po_none (po_some (pe_un un_neg pe_int))) (pe_tup (pa_cons (pe_op (op_catAK K) (pe_slice (sl_tupK K) (pe_ix (ix_tupK K) (pv 1) (pe_un un_neg pe_int) (fun _ _ => rfl)) po_none (po_some (pe_un un_neg pe_int))) (pe_tup (pa_cons pe_bl pa_nil))) pa_nil))) (pa_cons (pe_op (op_catAK K) (pe_slice (sl_tupK K) (pv 1) po_none (po_some (pe_un un_neg pe_int))) (pe_tup (pa_cons (pe_op (op_catAK K) (pe_slice (sl_tupK K) (pe_ix (ix_tupK K) (pv 1) (pe_un un_neg pe_int) (fun _ _ => rfl)) po_none (po_some (pe_un un_neg pe_int))) (pe_tup (pa_cons pe_non pa_nil))) pa_nil))) pa_nil)))))))), ?_⟩
  obtain ⟨a, us, rfl, ha, hus⟩ := id hv
  have hl : us.length = n := by rw [← hus.len, hp.1]
  have htl := hp.1
  have hhead : ∀ i t, ts[i]? = some t → t[0]? = some i := fun i t z => (hp.2.1 i t z).2
  have hperm : ∀ i t, ts[i]? = some t → PermN n t := fun i t z => (hp.2.1 i t z).1.1
  have at_of : ∀ i, i < n → ∃ t b, ts[i]? = some t ∧ us[i]? = some (.ref b) ∧ H b = some (.tup (t.map iv)) := fun i hi => by
    obtain ⟨v, h1, h2⟩ := hus.ix (List.getElem?_eq_getElem (show i < ts.length by omega))
    obtain ⟨b, rfl, hb⟩ := h2
    exact ⟨_, b, List.getElem?_eq_getElem (show i < ts.length by omega), h1, hb⟩
  obtain ⟨t0, b0, ht0, hu0, hb0⟩ := at_of 0 (by omega)
  obtain ⟨t1, b1, ht1, hu1, hb1⟩ := at_of 1 (by omega)
  obtain ⟨tz, bz, htz, huz, hbz⟩ := at_of (n - 1) (by omega)
  have hd0 := hhead _ _ ht0
  have hd1 := hhead _ _ ht1
  have hdz := hhead _ _ htz
  have hp0 := hperm _ _ ht0
  have hpz := hperm _ _ htz
  have huz' : atI us (-1) = some (.ref bz) := by
    unfold atI ixN
    rw [if_neg (by omega), if_pos (by omega)]
    show us[((-1 : Int) + (us.length : Int)).toNat]? = _
    rw [show ((-1 : Int) + (us.length : Int)).toNat = n - 1 by omega]
    exact huz
  refine ⟨_, rfl, a, us, rfl, .inr (Evl.st_of ha), fun l1 hl1 => ?_⟩
  have e1 := Ex.new (o := .lst us) hl1
  have c1 : Bd K n rs (upd H l1 (.lst us)) (.ref l1) := bd_oth (.lst upd_same)
  generalize upd H l1 (.lst us) = H1 at e1 c1 ⊢
  refine ⟨_, rfl, _, rfl, _, rfl, sl_init (e1 _ _ ha) (by omega) fun l2 hl2 => ?_⟩
  have e2 := Ex.new (o := .tup (us.take (us.length - 1))) hl2
  have c2 : Bd K n rs (upd H1 l2 (.tup (us.take (us.length - 1)))) (.ref l2) := bd_nuu ⟨l2, _, rfl, upd_same, ((A2Nu.mono (kpE (e1.trans e2)) hus).take _)⟩ (not_part_len (by rw [List.length_take]; omega))
  replace c1 := c1.ex e2
  replace e2 := e1.trans e2
  generalize upd H1 l2 (.tup (us.take (us.length - 1))) = H2 at e2 c1 c2 ⊢
  refine ⟨_, rfl, _, rfl, _, rfl, sl_one (e2 _ _ ha) (by omega) fun m3 hm3 => ?_⟩
  have x3 := Ex.new (o := .tup (us.take 1)) hm3
  have k3 : (upd H2 m3 (.tup (us.take 1))) m3 = some (.tup (us.take 1)) := upd_same
  replace c1 := c1.ex x3
  replace c2 := c2.ex x3
  replace e2 := e2.trans x3
  generalize upd H2 m3 (.tup (us.take 1)) = H3 at e2 c1 c2 k3 ⊢
  refine cat2 (e2 _ _ ha) k3 (by omega) (by rw [List.length_take]; omega) (by rw [List.length_take]; omega) fun l3 hl3 => ?_
  have x4 := Ex.new (o := .tup (us ++ us.take 1)) hl3
  have c3 : Bd K n rs (upd H3 l3 (.tup (us ++ us.take 1))) (.ref l3) := bd_nuu ⟨l3, _, rfl, upd_same, (A2Nu.mono (kpE (e2.trans x4)) hus).app ((A2Nu.mono (kpE (e2.trans x4)) hus).take 1)⟩ (not_part_len (by rw [List.length_append, List.length_take]; omega))
  replace c1 := c1.ex x4
  replace c2 := c2.ex x4
  replace e2 := e2.trans x4
  generalize upd H3 l3 (.tup (us ++ us.take 1)) = H4 at e2 c1 c2 c3 ⊢
  refine ⟨(by show 0 ≤ sizeLine; decide), fun l5 hl5 => ?_⟩
  have x5 := Ex.new (o := .tup []) hl5
  have c4 : Bd K n rs (upd H4 l5 (.tup [])) .non := bd_oth .non
  have c5 : Bd K n rs (upd H4 l5 (.tup [])) (.ref l5) := bd_nuu (L := []) ⟨l5, _, rfl, upd_same, trivial⟩ (not_part_len (by simp; omega))
  replace c1 := c1.ex x5
  replace c2 := c2.ex x5
  replace c3 := c3.ex x5
  replace e2 := e2.trans x5
  generalize upd H4 l5 (.tup []) = H5 at e2 c1 c2 c3 c4 c5 ⊢
  refine ⟨_, rfl, a, us, 0, _, rfl, rfl, Evl.st_of (e2 _ _ ha), at_n (i := 0) hu0, fun d hd => ?_⟩
  have x7 := Ex.new (o := .dK []) hd
  have c6 : Bd K n rs (upd H5 d (.dK [])) (.ref b0) := bd_at (i := 0) (ds := t0.map fun n : Nat => .i (n : Int)) (x7 _ _ (e2 _ _ hb0)) (A2.by_ix (by simp) fun i y v h1 h2 => by
    obtain ⟨k, h3, rfl⟩ := iv_ix h2
    rw [List.getElem?_map, h3] at h1
    cases h1
    exact .i _) (by omega) (fun t z => by
    rw [List.getElem?_map, hd0] at z
    cases z)
  have c7 : Bd K n rs (upd H5 d (.dK [])) (.ref d) := bd_oth (.dK upd_same)
  replace c1 := c1.ex x7
  replace c2 := c2.ex x7
  replace c3 := c3.ex x7
  replace c5 := c5.ex x7
  replace e2 := e2.trans x7
  generalize upd H5 d (.dK []) = H6 at e2 c1 c2 c3 c5 c6 c7 ⊢
  refine ⟨_, rfl, a, rfl, ⟨_, Evl.st_of (e2 _ _ ha)⟩, fun D hD => ?_⟩
  refine lc_all walk_tup hD (fun i y H' => ∃ q, y = .ref q ∧ ∃ xs, H' q = some (.lst xs)) (by omega) (fun H7 e => Evl.st_of (e _ _ (e2 _ _ ha))) (fun i y HA HB px z => ?_) (fun i x HA HB Kt hi e _ hx k1 => ?_) (fun ys HA e hy a2 => ?_)
  · obtain ⟨q, rfl, xs, hq⟩ := z
    refine ⟨q, rfl, ?_⟩
    by_cases c : q = D
    · subst c
      exact px.2.1
    · exact ⟨xs, px.2.2 _ _ c hq⟩
  · obtain ⟨rfl, hx⟩ := hx
    obtain ⟨t, _, q, rfl, hq⟩ := hus.get hx
    exact ⟨rfl, _, rfl, q, _, rfl, .inr (Evl.st_of (e _ _ (e2 _ _ hq))), fun l hl => k1 _ _ (Ex.new hl) ⟨l, rfl, _, upd_same⟩⟩
  have hyl := a2.len
  rw [List.length_range] at hyl
  refine ⟨D, ys, rfl, .inl ⟨Evl.sq_of hy, fun l8 hl8 => ?_⟩⟩
  have x8 := Ex.new (o := .tup ys) hl8
  have c8 : Bd K n rs (upd HA l8 (.tup ys)) (.ref l8) := bd_at (i := 0) (ds := (List.range us.length).map fun _ => Dt.oth) upd_same (A2.map (a2.mono fun i y _ z => by
    obtain ⟨q, rfl, xs, hq⟩ := z
    exact .lst (x8 _ _ hq))) (by omega) (fun t z => by
    rw [List.getElem?_map, List.getElem?_range (by omega)] at z
    cases z)
  have x9 := e.trans x8
  replace c1 := c1.ex x9
  replace c2 := c2.ex x9
  replace c3 := c3.ex x9
  replace c4 : Bd K n rs (upd HA l8 (.tup ys)) .non := bd_oth .non
  replace c5 := c5.ex x9
  replace c6 := c6.ex x9
  replace c7 := c7.ex x9
  replace e2 := e2.trans x9
  generalize upd HA l8 (.tup ys) = H8 at e2 c1 c2 c3 c4 c5 c6 c7 c8 ⊢
  refine ⟨(by show 8 ≤ sizeLine; decide), fun lf hlf => ?_⟩
  have x10 := Ex.new (o := .lst [.ref l1, .ref l2, .ref l3, .non, .ref l5, .ref b0, .ref d, .ref l8]) hlf
  have hF : ∀ u ∈ [V.ref l1, .ref l2, .ref l3, .non, .ref l5, .ref b0, .ref d, .ref l8], Bd K n rs H8 u := fun u hu => by
    simp only [List.mem_cons, List.not_mem_nil, or_false] at hu
    rcases hu with rfl | rfl | rfl | rfl | rfl | rfl | rfl | rfl <;> assumption
  have hF1 : ∀ u ∈ [V.ref l1, .ref l2, .ref l3, .non, .ref l5, .ref b0, .ref d, .ref l8], Bd K n rs (upd H8 lf (.lst [.ref l1, .ref l2, .ref l3, .non, .ref l5, .ref b0, .ref d, .ref l8])) u := fun u hu => (hF u hu).ex x10
  clear hF
  have hlf1 : (upd H8 lf (.lst [.ref l1, .ref l2, .ref l3, .non, .ref l5, .ref b0, .ref d, .ref l8])) lf = some (.lst [.ref l1, .ref l2, .ref l3, .non, .ref l5, .ref b0, .ref d, .ref l8]) := upd_same
  have hFl : [V.ref l1, .ref l2, .ref l3, .non, .ref l5, .ref b0, .ref d, .ref l8].length = 8 := rfl
  replace e2 := e2.trans x10
  clear x10
  generalize [V.ref l1, .ref l2, .ref l3, .non, .ref l5, .ref b0, .ref d, .ref l8] = F1 at hF1 hFl hlf1 e2 ⊢
  generalize upd H8 lf (.lst F1) = H9 at e2 hF1 hlf1 ⊢
  clear c1 c2 c3 c4 c5 c6 c7 c8
  refine ⟨_, rfl, a, us, rfl, .inr (Evl.st_of (e2 _ _ ha)), _, _, rfl, rfl, _, rfl, ?_⟩
  rw [show decide ((1 : Int) < (us.length : Int)) = true from decide_eq_true (by omega)]
  refine iteT ?_
  refine ⟨_, rfl, _, rfl, a, us, rfl, Evl.st_of (e2 _ _ ha), by omega, fun m1 hm1 => ?_⟩
  have y1 := Ex.new (o := .tup us.reverse) hm1
  have c9 : Bd K n rs (upd H9 m1 (.tup us.reverse)) (.ref m1) := bd_nuu ⟨m1, _, rfl, upd_same, (A2Nu.mono (kpE (e2.trans y1)) hus).rev⟩ (not_part_at (i := 0) (t := tz) (by rw [List.getElem?_reverse (by omega), show ts.length - 1 - 0 = n - 1 by omega]; exact htz) (by rw [hdz]; intro z; have := Option.some.inj z; omega))
  replace hF1 : ∀ u ∈ F1, _ := fun u hu => (hF1 u hu).ex y1
  replace hlf1 := y1 _ _ hlf1
  replace e2 := e2.trans y1
  generalize upd H9 m1 (.tup us.reverse) = H10 at e2 hF1 hlf1 c9 ⊢
  refine ⟨_, rfl, _, rfl, _, rfl, sl_init (e2 _ _ ha) (by omega) fun g1 hg1 => ?_⟩
  have y2 := Ex.new (o := .tup (us.take (us.length - 1))) hg1
  have k1 : (upd H10 g1 (.tup (us.take (us.length - 1)))) g1 = some (.tup (us.take (us.length - 1))) := upd_same
  generalize upd H10 g1 (.tup (us.take (us.length - 1))) = H11 at y2 k1 ⊢
  refine ⟨_, rfl, _, rfl, sl_one ((e2.trans y2) _ _ ha) (by omega) fun g2 hg2 => ?_⟩
  have y3 := y2.trans (Ex.new (o := .tup (us.take 1)) hg2)
  replace k1 := Ex.new (o := .tup (us.take 1)) hg2 _ _ k1
  have k2 : (upd H11 g2 (.tup (us.take 1))) g2 = some (.tup (us.take 1)) := upd_same
  generalize upd H11 g2 (.tup (us.take 1)) = H12 at y3 k1 k2 ⊢
  refine cat2 k1 k2 (by rw [List.length_take]; omega) (by rw [List.length_take]; omega) (by rw [List.length_take, List.length_take]; omega) fun m2 hm2 => ?_
  have y4 := y3.trans (Ex.new (o := .tup (us.take (us.length - 1) ++ us.take 1)) hm2)
  have c10 : Bd K n rs (upd H12 m2 (.tup (us.take (us.length - 1) ++ us.take 1))) (.ref m2) := bd_nuu ⟨m2, _, rfl, upd_same, ((A2Nu.mono (kpE (e2.trans y4)) hus).take _).app ((A2Nu.mono (kpE (e2.trans y4)) hus).take 1)⟩ (not_part_at (i := n - 1) (t := t0) (by
    rw [List.getElem?_append_right (by rw [List.length_take]; omega), List.length_take, show n - 1 - min (us.length - 1) ts.length = 0 by omega, List.getElem?_take_of_lt (by omega)]
    exact ht0) (by rw [hd0]; intro z; have := Option.some.inj z; omega))
  replace c9 := c9.ex y4
  replace hF1 : ∀ u ∈ F1, _ := fun u hu => (hF1 u hu).ex y4
  replace hlf1 := y4 _ _ hlf1
  replace e2 := e2.trans y4
  generalize upd H12 m2 (.tup (us.take (us.length - 1) ++ us.take 1)) = H13 at e2 hF1 hlf1 c9 c10 ⊢
  clear y2 y3 y4 k1 k2
  refine ⟨_, rfl, _, rfl, no_part (sl_rest (e2 _ _ ha) (by omega) fun g1 hg1 => ?_)⟩
  have y2 := Ex.new (o := .tup (us.drop 1)) hg1
  have k1 : (upd H13 g1 (.tup (us.drop 1))) g1 = some (.tup (us.drop 1)) := upd_same
  generalize upd H13 g1 (.tup (us.drop 1)) = H14 at y2 k1 ⊢
  refine ⟨_, rfl, _, rfl, sl_one ((e2.trans y2) _ _ ha) (by omega) fun g2 hg2 => ?_⟩
  have y3 := y2.trans (Ex.new (o := .tup (us.take 1)) hg2)
  replace k1 := Ex.new (o := .tup (us.take 1)) hg2 _ _ k1
  have k2 : (upd H14 g2 (.tup (us.take 1))) g2 = some (.tup (us.take 1)) := upd_same
  generalize upd H14 g2 (.tup (us.take 1)) = H15 at y3 k1 k2 ⊢
  refine cat2 k1 k2 (by rw [List.length_drop]; omega) (by rw [List.length_take]; omega) (by rw [List.length_drop, List.length_take]; omega) fun m3 hm3 => ?_
  have y4 := y3.trans (Ex.new (o := .tup (us.drop 1 ++ us.take 1)) hm3)
  have c11 : Bd K n rs (upd H15 m3 (.tup (us.drop 1 ++ us.take 1))) (.ref m3) := bd_nuu ⟨m3, _, rfl, upd_same, ((A2Nu.mono (kpE (e2.trans y4)) hus).drop 1).app ((A2Nu.mono (kpE (e2.trans y4)) hus).take 1)⟩ (not_part_at (i := 0) (t := t1) (by
    rw [List.getElem?_append_left (by rw [List.length_drop]; omega), List.getElem?_drop]
    exact ht1) (by rw [hd1]; intro z; have := Option.some.inj z; omega))
  replace c9 := c9.ex y4
  replace c10 := c10.ex y4
  replace hF1 : ∀ u ∈ F1, _ := fun u hu => (hF1 u hu).ex y4
  replace hlf1 := y4 _ _ hlf1
  replace e2 := e2.trans y4
  generalize upd H15 m3 (.tup (us.drop 1 ++ us.take 1)) = H16 at e2 hF1 hlf1 c9 c10 c11 ⊢
  clear y2 y3 y4 k1 k2
  refine ⟨(by show 3 ≤ sizeLine; decide), fun l2 hl2 => ?_⟩
  have y2 := Ex.new (o := .lst [.ref m1, .ref m2, .ref m3]) hl2
  refine ⟨lf, l2, F1, _, rfl, rfl, y2 _ _ hlf1, upd_same, (by rw [hFl]; show 8 + 3 ≤ sizeLine; decide), fun lg hlg => ?_⟩
  have y3 := y2.trans (Ex.new (o := .lst (F1 ++ [.ref m1, .ref m2, .ref m3])) hlg)
  have hF2 : ∀ u ∈ F1 ++ [V.ref m1, V.ref m2, V.ref m3], Bd K n rs (upd (upd H16 l2 (.lst [.ref m1, .ref m2, .ref m3])) lg (.lst (F1 ++ [.ref m1, .ref m2, .ref m3]))) u := fun u hu => by
    refine Bd.ex y3 ?_
    simp only [List.mem_append, List.mem_cons, List.not_mem_nil, or_false] at hu
    rcases hu with z | rfl | rfl | rfl
    · exact hF1 u z
    · exact c9
    · exact c10
    · exact c11
  have hlg0 : H lg = none := Evl.fresh_back (e2.trans y2) hlg
  have hlg1 : (upd (upd H16 l2 (.lst [.ref m1, .ref m2, .ref m3])) lg (.lst (F1 ++ [.ref m1, .ref m2, .ref m3]))) lg = some (.lst (F1 ++ [.ref m1, .ref m2, .ref m3])) := upd_same
  have hF2l : (F1 ++ [V.ref m1, V.ref m2, V.ref m3]).length = 11 := by rw [List.length_append, hFl]; rfl
  replace e2 := e2.trans y3
  clear y3 y2 hF1 hlf1 c9 c10 c11
  generalize F1 ++ [V.ref m1, V.ref m2, V.ref m3] = F2 at hF2 hlg1 hF2l e2 ⊢
  generalize upd (upd H16 l2 (.lst [.ref m1, .ref m2, .ref m3])) lg (.lst F2) = H17 at hF2 hlg1 e2 ⊢
  refine ⟨_, rfl, .inl ⟨rfl, _, Evl.sq_of hlg1⟩, ?_⟩
  have hb0' := e2 _ _ hb0
  have hl0 : (t0.map iv).length = n := by rw [List.length_map]; exact hp0.1
  refine ⟨_, rfl, a, us, 0, _, rfl, rfl, Evl.st_of (e2 _ _ ha), at_n (i := 0) hu0, _, rfl, no_part (sl_rest hb0' (by omega) fun g1 hg1 => ?_)⟩
  have y2 := Ex.new (o := .tup ((t0.map iv).drop 1)) hg1
  have k1 : (upd H17 g1 (.tup ((t0.map iv).drop 1))) g1 = some (.tup ((t0.map iv).drop 1)) := upd_same
  generalize upd H17 g1 (.tup ((t0.map iv).drop 1)) = H18 at y2 k1 ⊢
  refine ⟨_, rfl, a, us, 0, _, rfl, rfl, Evl.st_of ((e2.trans y2) _ _ ha), at_n (i := 0) hu0, _, rfl, sl_one (y2 _ _ hb0') (by omega) fun g2 hg2 => ?_⟩
  have y3 := y2.trans (Ex.new (o := .tup ((t0.map iv).take 1)) hg2)
  replace k1 := Ex.new (o := .tup ((t0.map iv).take 1)) hg2 _ _ k1
  have k2 : (upd H18 g2 (.tup ((t0.map iv).take 1))) g2 = some (.tup ((t0.map iv).take 1)) := upd_same
  generalize upd H18 g2 (.tup ((t0.map iv).take 1)) = H19 at y3 k1 k2 ⊢
  refine cat2 k1 k2 (by rw [List.length_drop]; omega) (by rw [List.length_take]; omega) (by rw [List.length_drop, List.length_take]; omega) fun g3 hg3 => ?_
  have y4 := y3.trans (Ex.new (o := .tup ((t0.map iv).drop 1 ++ (t0.map iv).take 1)) hg3)
  have k3 : Nu (upd H19 g3 (.tup ((t0.map iv).drop 1 ++ (t0.map iv).take 1))) (t0.drop 1 ++ t0.take 1) (.ref g3) := ⟨g3, rfl, by rw [upd_same, List.map_append, List.map_drop, List.map_take]⟩
  generalize upd H19 g3 (.tup ((t0.map iv).drop 1 ++ (t0.map iv).take 1)) = H20 at y4 k3 ⊢
  clear y2 y3 k1 k2
  refine ⟨(by show 1 ≤ sizeLine; decide), fun g4 hg4 => ?_⟩
  have y5 := Ex.new (o := .tup [.ref g3]) hg4
  replace k3 := k3.mono (kpE y5)
  have k4 : (upd H20 g4 (.tup [.ref g3])) g4 = some (.tup [.ref g3]) := upd_same
  replace y5 := y4.trans y5
  generalize upd H20 g4 (.tup [.ref g3]) = H21 at y5 k3 k4 ⊢
  refine ⟨_, rfl, _, rfl, no_part (sl_rest ((e2.trans y5) _ _ ha) (by omega) fun g5 hg5 => ?_)⟩
  have y6 := Ex.new (o := .tup (us.drop 1)) hg5
  replace k3 := k3.mono (kpE y6)
  replace k4 := y6 _ _ k4
  have k5 : (upd H21 g5 (.tup (us.drop 1))) g5 = some (.tup (us.drop 1)) := upd_same
  replace y6 := y5.trans y6
  generalize upd H21 g5 (.tup (us.drop 1)) = H22 at y6 k3 k4 k5 ⊢
  refine cat2 k4 k5 (by simp) (by rw [List.length_drop]; omega) (by rw [List.length_drop, List.length_singleton]; omega) fun m4 hm4 => ?_
  have y7 := Ex.new (o := .tup ([.ref g3] ++ us.drop 1)) hm4
  replace k3 := k3.mono (kpE y7)
  have y8 := y6.trans y7
  have ht01 : t0[1]? ≠ some 0 := fun z => by
    have h1 : 0 < t0.length := by rw [hp0.1]; omega
    have h2 : 1 < t0.length := by rw [hp0.1]; omega
    have := (List.getElem?_inj h1 hp0.2.1 (j := 1)).mp (by rw [hd0, z])
    omega
  have c12 : Bd K n rs (upd H22 m4 (.tup ([.ref g3] ++ us.drop 1))) (.ref m4) := bd_nuu (L := (t0.drop 1 ++ t0.take 1) :: ts.drop 1) ⟨m4, _, rfl, upd_same, k3, (A2Nu.mono (kpE (e2.trans y8)) hus).drop 1⟩ (not_part_at (i := 0) (t := t0.drop 1 ++ t0.take 1) rfl (by
    rw [List.getElem?_append_left (by rw [List.length_drop, hp0.1]; omega), List.getElem?_drop]
    exact ht01))
  replace hF2 : ∀ u ∈ F2, _ := fun u hu => (hF2 u hu).ex y8
  replace hlg1 := y8 _ _ hlg1
  replace e2 := e2.trans y8
  generalize upd H22 m4 (.tup ([.ref g3] ++ us.drop 1)) = H23 at e2 hF2 hlg1 c12 ⊢
  refine ⟨lg, F2, _, rfl, rfl, hlg1, (by rw [hF2l]; decide), ?_⟩
  have px : Px lg H23 (upd H23 lg (.lst (F2 ++ [.ref m4]))) := Px.upd hlg1
  replace hF2 : ∀ u ∈ F2 ++ [V.ref m4], Bd K n rs (upd H23 lg (.lst (F2 ++ [.ref m4]))) u := fun u hu => by
    rcases List.mem_append.mp hu with z | z
    · exact (hF2 u z).px px
    · have : u = .ref m4 := by simpa using z
      subst this
      exact c12.px px
  replace e2 : Ex H (upd H23 lg (.lst (F2 ++ [.ref m4]))) := Ex.mut e2 hlg0
  have hlg2 : (upd H23 lg (.lst (F2 ++ [.ref m4]))) lg = some (.lst (F2 ++ [.ref m4])) := upd_same
  have hF3l : (F2 ++ [V.ref m4]).length = 12 := by rw [List.length_append, hF2l]; rfl
  clear px c12 hlg1 y4 y5 y6 y7 y8 k3 k4 k5
  generalize F2 ++ [V.ref m4] = F3 at hF2 e2 hlg2 hF3l ⊢
  generalize upd H23 lg (.lst F3) = H24 at hF2 e2 hlg2 ⊢
  refine ⟨_, rfl, ?_⟩
  have hlz : (tz.map iv).length = n := by rw [List.length_map]; exact hpz.1
  refine ⟨_, rfl, _, rfl, _, rfl, sl_init (e2 _ _ ha) (by omega) fun g1 hg1 => ?_⟩
  have y2 := Ex.new (o := .tup (us.take (us.length - 1))) hg1
  have k1 : (upd H24 g1 (.tup (us.take (us.length - 1)))) g1 = some (.tup (us.take (us.length - 1))) := upd_same
  generalize upd H24 g1 (.tup (us.take (us.length - 1))) = J1 at y2 k1 ⊢
  refine ⟨_, rfl, _, rfl, a, us, -1, _, rfl, rfl, Evl.st_of ((e2.trans y2) _ _ ha), huz', _, rfl, _, rfl, sl_init ((e2.trans y2) _ _ hbz) (by omega) fun g2 hg2 => ?_⟩
  have y3 := Ex.new (o := .tup ((tz.map iv).take ((tz.map iv).length - 1))) hg2
  have k2 : (upd J1 g2 (.tup ((tz.map iv).take ((tz.map iv).length - 1)))) g2 = some (.tup ((tz.map iv).take ((tz.map iv).length - 1))) := upd_same
  replace k1 := y3 _ _ k1
  replace y3 := y2.trans y3
  generalize upd J1 g2 (.tup ((tz.map iv).take ((tz.map iv).length - 1))) = J2 at y3 k1 k2 ⊢
  refine ⟨(by show 1 ≤ sizeLine; decide), fun g3 hg3 => ?_⟩
  have y4 := Ex.new (o := .tup [.bl true]) hg3
  have k3 : (upd J2 g3 (.tup [.bl true])) g3 = some (.tup [.bl true]) := upd_same
  replace k1 := y4 _ _ k1
  replace k2 := y4 _ _ k2
  replace y4 := y3.trans y4
  generalize upd J2 g3 (.tup [.bl true]) = J3 at y4 k1 k2 k3 ⊢
  refine cat2 k2 k3 (by rw [List.length_take]; omega) (by simp) (by rw [List.length_take, List.length_singleton]; omega) fun g4 hg4 => ?_
  have y5 := Ex.new (o := .tup ((tz.map iv).take ((tz.map iv).length - 1) ++ [.bl true])) hg4
  have k4 : (upd J3 g4 (.tup ((tz.map iv).take ((tz.map iv).length - 1) ++ [.bl true]))) g4 = some (.tup ((tz.map iv).take ((tz.map iv).length - 1) ++ [.bl true])) := upd_same
  replace k1 := y5 _ _ k1
  replace y5 := y4.trans y5
  generalize upd J3 g4 (.tup ((tz.map iv).take ((tz.map iv).length - 1) ++ [.bl true])) = J4 at y5 k1 k4 ⊢
  refine ⟨(by show 1 ≤ sizeLine; decide), fun g5 hg5 => ?_⟩
  have y6 := Ex.new (o := .tup [.ref g4]) hg5
  have k5 : (upd J4 g5 (.tup [.ref g4])) g5 = some (.tup [.ref g4]) := upd_same
  replace k1 := y6 _ _ k1
  replace k4 := y6 _ _ k4
  replace y6 := y5.trans y6
  generalize upd J4 g5 (.tup [.ref g4]) = J5 at y6 k1 k4 k5 ⊢
  refine cat2 k1 k5 (by rw [List.length_take]; omega) (by simp) (by rw [List.length_take, List.length_singleton]; omega) fun m5 hm5 => ?_
  have y7 := Ex.new (o := .tup (us.take (us.length - 1) ++ [.ref g4])) hm5
  have c13 : Bd K n rs (upd J5 m5 (.tup (us.take (us.length - 1) ++ [.ref g4]))) (.ref m5) := bd_last upd_same (y7 _ _ k4) (.bl true) (A2Nu.mono (kpE (e2.trans (y6.trans y7))) hus) hl (by omega)
  replace y7 := y6.trans y7
  replace hF2 : ∀ u ∈ F3, _ := fun u hu => (hF2 u hu).ex y7
  replace hlg2 := y7 _ _ hlg2
  replace e2 := e2.trans y7
  generalize upd J5 m5 (.tup (us.take (us.length - 1) ++ [.ref g4])) = H25 at e2 hF2 hlg2 c13 ⊢
  clear y2 y3 y4 y5 y6 y7 k1 k2 k3 k4 k5
  refine ⟨_, rfl, _, rfl, _, rfl, sl_init (e2 _ _ ha) (by omega) fun q1 hq1 => ?_⟩
  have y2 := Ex.new (o := .tup (us.take (us.length - 1))) hq1
  have k1 : (upd H25 q1 (.tup (us.take (us.length - 1)))) q1 = some (.tup (us.take (us.length - 1))) := upd_same
  generalize upd H25 q1 (.tup (us.take (us.length - 1))) = L1 at y2 k1 ⊢
  refine ⟨_, rfl, _, rfl, a, us, -1, _, rfl, rfl, Evl.st_of ((e2.trans y2) _ _ ha), huz', _, rfl, _, rfl, sl_init ((e2.trans y2) _ _ hbz) (by omega) fun q2 hq2 => ?_⟩
  have y3 := Ex.new (o := .tup ((tz.map iv).take ((tz.map iv).length - 1))) hq2
  have k2 : (upd L1 q2 (.tup ((tz.map iv).take ((tz.map iv).length - 1)))) q2 = some (.tup ((tz.map iv).take ((tz.map iv).length - 1))) := upd_same
  replace k1 := y3 _ _ k1
  replace y3 := y2.trans y3
  generalize upd L1 q2 (.tup ((tz.map iv).take ((tz.map iv).length - 1))) = L2 at y3 k1 k2 ⊢
  refine ⟨(by show 1 ≤ sizeLine; decide), fun q3 hq3 => ?_⟩
  have y4 := Ex.new (o := .tup [.non]) hq3
  have k3 : (upd L2 q3 (.tup [.non])) q3 = some (.tup [.non]) := upd_same
  replace k1 := y4 _ _ k1
  replace k2 := y4 _ _ k2
  replace y4 := y3.trans y4
  generalize upd L2 q3 (.tup [.non]) = L3 at y4 k1 k2 k3 ⊢
  refine cat2 k2 k3 (by rw [List.length_take]; omega) (by simp) (by rw [List.length_take, List.length_singleton]; omega) fun q4 hq4 => ?_
  have y5 := Ex.new (o := .tup ((tz.map iv).take ((tz.map iv).length - 1) ++ [.non])) hq4
  have k4 : (upd L3 q4 (.tup ((tz.map iv).take ((tz.map iv).length - 1) ++ [.non]))) q4 = some (.tup ((tz.map iv).take ((tz.map iv).length - 1) ++ [.non])) := upd_same
  replace k1 := y5 _ _ k1
  replace y5 := y4.trans y5
  generalize upd L3 q4 (.tup ((tz.map iv).take ((tz.map iv).length - 1) ++ [.non])) = L4 at y5 k1 k4 ⊢
  refine ⟨(by show 1 ≤ sizeLine; decide), fun q5 hq5 => ?_⟩
  have y6 := Ex.new (o := .tup [.ref q4]) hq5
  have k5 : (upd L4 q5 (.tup [.ref q4])) q5 = some (.tup [.ref q4]) := upd_same
  replace k1 := y6 _ _ k1
  replace k4 := y6 _ _ k4
  replace y6 := y5.trans y6
  generalize upd L4 q5 (.tup [.ref q4]) = L5 at y6 k1 k4 k5 ⊢
  refine cat2 k1 k5 (by rw [List.length_take]; omega) (by simp) (by rw [List.length_take, List.length_singleton]; omega) fun m6 hm6 => ?_
  have y7 := Ex.new (o := .tup (us.take (us.length - 1) ++ [.ref q4])) hm6
  have c14 : Bd K n rs (upd L5 m6 (.tup (us.take (us.length - 1) ++ [.ref q4]))) (.ref m6) := bd_last upd_same (y7 _ _ k4) .non (A2Nu.mono (kpE (e2.trans (y6.trans y7))) hus) hl (by omega)
  replace y7 := y6.trans y7
  replace hF2 : ∀ u ∈ F3, _ := fun u hu => (hF2 u hu).ex y7
  replace hlg2 := y7 _ _ hlg2
  replace c13 := c13.ex y7
  replace e2 := e2.trans y7
  generalize upd L5 m6 (.tup (us.take (us.length - 1) ++ [.ref q4])) = H26 at e2 hF2 hlg2 c13 c14 ⊢
  clear y2 y3 y4 y5 y6 y7 k1 k2 k3 k4 k5
  refine ⟨(by show 2 ≤ sizeLine; decide), fun l2 hl2 => ?_⟩
  have y2 := Ex.new (o := .lst [.ref m5, .ref m6]) hl2
  refine ⟨lg, l2, F3, _, rfl, rfl, y2 _ _ hlg2, upd_same, (by rw [hF3l]; show 12 + 2 ≤ sizeLine; decide), fun lh hlh => ?_⟩
  have y3 := y2.trans (Ex.new (o := .lst (F3 ++ [.ref m5, .ref m6])) hlh)
  refine q lh _ _ (e2.trans y3) upd_same (fun u hu => ?_) (by rw [List.length_append, hF3l]; show 12 + 2 ≤ 1000; decide)
  refine Bd.ex y3 ?_
  simp only [List.mem_append, List.mem_cons, List.not_mem_nil, or_false] at hu
  rcases hu with z | rfl | rfl
  · exact hF2 u z
  · exact c13
  · exact c14
end
end K65
namespace K65
open PySem PySem.Spec PyProof.Rows L2 SlX ClX
open Evl (Ex)
open PySem.W (Datum Tup)
/-- t.rows -/
def PropR (P : Program) (w : World) (K : PySem.W.Frag) (mg : Str → Option Value) (base : Heap) (C : Addr) : Prop := ∃ p g, PySem.W.findIn K (.ref C) "rows" = some (some (.ref p)) ∧ PySem.W.specialIn K (.ref p) "__get__" = some (some (.builtin "property.__get__")) ∧
  PySem.W.takesIn K (.ref p) = some true ∧ (∃ rest, PySem.W.recIn K p "property" = some (.ref g :: rest)) ∧ FnR P w K mg base CX0 1 g (sp_rows C)
/-- Table.ring -/
def RingR (P : Program) (w : World) (K : PySem.W.Frag) (mg : Str → Option Value) (base : Heap) (C : Addr) : Prop := ∃ mc p g, CRead K C mc ∧ CMet K C mc "ring" p g ∧ FnR P w K mg base CX0 9 g (sp_ring C)
/-- t == u -/
def EqR (P : Program) (w : World) (K : PySem.W.Frag) (mg : Str → Option Value) (base : Heap) (C : Addr) : Prop := ∃ g, PySem.W.findIn K (.ref C) (cmpInfo .Eq).2.1 = some (some (.ref g)) ∧ PySem.W.isFn K (.ref g) = true ∧ PySem.W.notFirst K C (.ref C) = true ∧ FnR P w K mg base CX0 1 g (sp_eq C)
section
variable {X : Cx} {C CM : Addr} {j : Nat}
theorem pe_rows {e : Expr} {ta : TE} {pos : Pos} (U : Cls2 X.K X.mg C CM) (V : PropR X.prog X.w X.K X.mg X.base C) (hr : Room j X.A) (he : PE X e ta) (hk : 2 ≤ j := by first | decide | omega) (hb : attributeBase e "rows" X.env (eval e X.env) = eval e X.env := by rfl) :
    PE X (.Attribute e "rows" pos) (tPropSl C (sp_rows C) E0 ta) := by
  obtain ⟨p, g, h1, h2, h3, h4, F⟩ := V
  exact pe_propSl he U.tc h1 h2 h3 h4 F (hr.mono hk) (fun _ _ _ _ h => h.elim) hb
theorem pe_ring {e : Expr} {es : List Expr} {t : TA} {pos apos p0 : Pos} {pl : Sem Bool} (U : Cls2 X.K X.mg C CM) (V : RingR X.prog X.w X.K X.mg X.base C) (hr : Room j X.A) (ha : PA X (e :: es) t) (hk : 9 ≤ j := by first | decide | omega) (hg : Gl X "Table" := by rfl)
    (hst : starEach (e :: es) X.env = (false, eval e X.env) :: starEach es X.env := by rfl) (hpl : (backTo pos (starEach es X.env)).any (·.1) = false := by rfl)
    (ht : eval (.Call (.Attribute (.Name "Table" p0) "ring" apos) (e :: es) [] pos) X.env = (do
      let ov ← eval (.Name "Table" p0) X.env
      standAt apos.atName
      let (f, first) ← holding [ov] (getMethod ov "ring" pl)
      callWith pos f first (backTo pos (starEach (e :: es) X.env)) (backToKw pos (keywordEach [] X.env))) := by rfl) :
    PE X (.Call (.Attribute (.Name "Table" p0) "ring" apos) (e :: es) [] pos) (tCMeth C (sp_ring C) E0 (tC (.ref C)) t) := by
  obtain ⟨mc, p, g, h1, h2, F⟩ := V
  exact pe_cmeth (C8.pe_gc hg ⟨_, U.mT, rfl⟩) h1 h2 F (hr.mono hk) pass0 ha hst hpl ht
theorem op_tab (V : EqR X.prog X.w X.K X.mg X.base C) (hr : Room j X.A) (hk : 1 ≤ j := by first | decide | omega) : OpR X (compareOp .Eq) (rOwn X.K C (sp_eq C) E0) := by
  obtain ⟨g, h1, h2, h3, F⟩ := V
  exact op_own (fun _ _ => rfl) h1 h2 F (hr.mono hk) pass0
end
section
variable {P : Program} {w : World} {K : PySem.W.Frag} {mg : Str → Option Value} {base : Heap} {C CM : Addr}
abbrev s__law_right : Stmt := topS 60
theorem sc__law_right : FnScope ["_law_rows_here", "_law_table", "_law_due", "_law_told", "_law_other", "_law_one"] ["_law_rows_here"] (defScope s__law_right) := ⟨rfl, rfl, rfl, by decide +kernel, rfl, by decide +kernel, by decide +kernel⟩
def sp_right : Sp := fun vs H Q _ => ∃ (v : V) (n : Nat) (rs : List (List Nat)), vs = [v] ∧ Nuu H rs v ∧ Latin n rs ∧ 1 ≤ n ∧ n ≤ 7 ∧ ∀ H', Ex H H' → Q (.bl true) H'
theorem ok_right (T : Txt K mg) (U : Cls2 K mg C CM) (V2 : PropR P w K mg base C) (D : Df K mg "_law_right" s__law_right) (cTable : CaMk P w K mg base 7 "Table" C ["self", "rows"] (sp_Table_init C CM))
    (c_law_partings : Ca P w K mg base 2 "_law_partings" ["_law_rows_here", "_law_most"] sp_lpartings) (cparting : Ca P w K mg base 11 "parting" ["table"] (sp_parting C)) (cmate : Ca P w K mg base 11 "mate" ["table"] (sp_mate C))
    (c_law_is_parting : Ca P w K mg base 1 "_law_is_parting" ["_law_rows_here", "_law_value"] sp_lis) (care_mates : Ca P w K mg base 3 "are_mates" ["one", "other"] (sp_mated C)) (c_law_are_mates : Ca P w K mg base 1 "_law_are_mates" ["_law_rows_here", "_law_others"] sp_lmates)
    (cis_parting : Ca P w K mg base 6 "is_parting" ["table", "value"] (sp_is_parting K C)) : Ca P w K mg base 12 "_law_right" ["_law_rows_here"] sp_right := by
  refine ca_mk D sc__law_right (fun vs H Q E h => ?_) (fun _ _ _ _ _ _ us hl => match us, hl with | [_], _ => rfl) (fun f cdv A outer s H vs Q E hr h => ?_)
  · obtain ⟨v, n, rs, rfl, _⟩ := h
    rfl
  obtain ⟨v, n, rs, rfl, hv, hL, h1, h7, q⟩ := h
  have nd := sc__law_right.nd
  refine ⟨_, (pss_cons (ps_asg (pe_tup (pa_cons (pe_mk cTable hr (pa_cons (pv 0) pa_nil)) (pa_cons (pe_ca c_law_partings hr (pa_cons (pv 0) (pa_cons pe_int pa_nil))) pa_nil))) (pg_tupK K (n := 2) (by rfl) (pgs_cons (pg_name (i := 1) nd rfl (Or.inr rfl)) (pgs_cons (pg_name (i := 2) nd rfl (Or.inl rfl)) pgs_nil))))
    (pss_cons (ps_par (i := 3) (j := 4) (by rfl) nd rfl rfl (by decide) rfl rfl (pa_cons (pe_ca cparting hr (pa_cons (pv 1) pa_nil)) (pa_cons (pe_ca cmate hr (pa_cons (pv 1) pa_nil)) pa_nil)) (by rfl))
    (Evl.pss_cut (ps_if (PW.pt (pw_or (pt_cmpR op_ne (pe_cmpR op_isN (pv 3) pe_non (nomark _)) (pe_cmpR (op_eqDK K hr.units) (pv 2) (pe_lst pa_nil) (nomark _)) (nomark _)) (pw_or1 (pt_cmpR op_ne (pe_cmpR op_isN (pv 4) pe_non (nomark _)) (pe_cmpR (op_eqDK K hr.units) (pv 2) (pe_lst pa_nil) (nomark _)) (nomark _))))) (pss_one (ps_ret pe_bl)) pss_nil)
    (pss_cons (ps_if (pt_cmpR op_isN (pv 3) pe_non (nomark _)) (pss_one (ps_ret pe_bl)) pss_nil)
    (pss_cons (ps_if (PW.pt (pw_or (pt_not (pt_val (pe_ca c_law_is_parting hr (pa_cons (pv 0) (pa_cons (pv 3) pa_nil))))) (pw_or (pt_not (pt_val (pe_ca care_mates hr (pa_cons (pv 1) (pa_cons (pv 4) pa_nil))))) (pw_or1 (pt_not (pt_val (pe_ca c_law_are_mates hr (pa_cons (pv 0) (pa_cons (pe_rows U V2 hr (pv 4)) pa_nil))))))))) (pss_one (ps_ret pe_bl)) pss_nil)
    (pss_one (ps_ret (pe_cmpR (op_eqDK K hr.units) (pe_lc (own := [("_law_one", 5)]) rfl nd (pi_listK K (pe_op op_cat (pv 2) (pe_lst (pa_cons (pv 3) pa_nil)))) (blkOk_by (N := ["_law_rows_here", "_law_table", "_law_due", "_law_told", "_law_other", "_law_one"]) (sc := defScope s__law_right) (by decide +kernel)) (fun _ _ _ _ _ => (pg_name (i := 5) nd rfl (by first | exact Or.inl rfl | exact Or.inr rfl))) (fun _ _ _ _ _ => (pts_one (pt_not (pt_val (pe_ca cis_parting hr (pa_cons (pv 1) (pa_cons (pv 5) pa_nil))))))) (fun _ _ _ _ _ => (pv 5))) (pe_lst pa_nil) (nomark _))))))))), ?_⟩
  have hrn : ∀ r ∈ rs, r.length = n := fun r hr => (hL.2.1 r hr).1
  refine ⟨_, rfl, fun x dx hx hd hne => ?_⟩
  refine tab_at (u := v) (n := n) (rs := rs) ⟨hL.1, h1, by omega, hL.rows.2, .inl ⟨hv, hL⟩⟩ hx hd hne fun H1 e1 ht => ⟨rfl, ?_⟩
  refine ⟨_, rfl, v, n, rs, rfl, hv.mono (kpE e1), hL.1, h1, h7, hrn, fun p H2 us ps hp e2 hpl hA hparts hiff hlen => ?_⟩
  refine ⟨(by show 2 ≤ sizeLine; decide), fun tt htt => ?_⟩
  have e3 := Ex.new (o := .tup [.ref x, .ref p]) htt
  refine ⟨tt, _, rfl, Evl.st_of upd_same, rfl, _, _, rfl, _, _, rfl, rfl, ?_⟩
  replace ht := ht.mono (kpE (e2.trans e3))
  replace hA := A2Nuu.mono (kpE e3) hA
  replace hpl := e3 _ _ hpl
  replace e3 := e1.trans (e2.trans e3)
  generalize upd H2 tt (.tup [.ref x, .ref p]) = H3 at ht hA hpl e3 ⊢
  have hmem : ∀ t ∈ ps, IsPart n rs t := hparts
  have hdue : ∀ H' (Q' : VK), Ex H3 H' → Q' (.bl (decide (ps = []))) H' → ∀ l, H' l = some (.lst []) → rEqD K (.ref p) (.ref l) H' Q' := fun H' Q' e hq l hl => by
    refine eqD_of (a := ps.map fun t => Tup.mk (tts t)) (b := ([] : List (Tup (Tup Int)))) lay_ltti (dp_lnn (e _ _ hpl) (A2Nuu.mono (kpE e) hA)) (.lst (Evl.sq_of hl) .nil) ?_
    have : decide ((ps.map fun t => Tup.mk (tts t)) = ([] : List (Tup (Tup Int)))) = decide (ps = []) := decide_eq_decide.mpr List.map_eq_nil_iff
    rw [this]
    exact hq
  refine ⟨_, rfl, .ref x, n, rs, rfl, ht, h1, h7, hL.rows, fun told H4 e4 htold => ⟨_, rfl, .ref x, n, rs, rfl, ht.mono (kpE e4), h1, h7, hL.rows, fun other H5 e5 hother => ⟨_, _, rfl, ?_⟩⟩⟩
  rcases htold with ⟨rfl, hno⟩ | ⟨ts, hts, htv⟩
  · have hps : ps = [] := hiff.mpr hno
    subst hps
    rcases hother with ⟨rfl, _⟩ | ⟨ts, mr, hts, _⟩
    · refine ⟨fun σ H' => Ex H H' ∧ σ = [some v, some (.ref x), some (.ref p), some .non, some .non, none], ?_, ?_⟩
      · refine ⟨_, rfl, rfl, _, rfl, (by show 0 ≤ sizeLine; decide), fun l hl => hdue _ _ ((e4.trans e5).trans (Ex.new hl)) ⟨rfl, _, rfl, ?_⟩ l upd_same⟩
        refine iteF ⟨_, rfl, rfl, _, rfl, (by show 0 ≤ sizeLine; decide), fun l2 hl2 => hdue _ _ (((e4.trans e5).trans (Ex.new hl)).trans (Ex.new hl2)) ⟨rfl, _, rfl, iteF ⟨?_, rfl⟩⟩ l2 upd_same⟩
        exact (e3.trans (e4.trans e5)).trans ((Ex.new hl).trans (Ex.new hl2))
      · rintro σ H6 ⟨e6, rfl⟩
        exact ⟨_, rfl, rfl, _, rfl, iteT (q _ e6)⟩
    · exact (hno ts hts).elim
  · have hps : decide (ps = []) = false := decide_eq_false fun z => hiff.mp z ts hts
    obtain ⟨ta, tus, rfl, hta, htA⟩ := id htv
    rcases hother with ⟨rfl, hno⟩ | ⟨ts2, mr, hts2, hmate, hov⟩
    · exact (hno ts hts).elim
    obtain ⟨oa, rfl, odx, ovs, orr, o1, o2, o3, o4⟩ := id hov
    refine ⟨fun σ H' => Ex H5 H' ∧ σ = [some v, some (.ref x), some (.ref p), some (.ref ta), some (.ref oa), none], ?_, ?_⟩
    · refine ⟨_, rfl, rfl, _, rfl, (by show 0 ≤ sizeLine; decide), fun l hl => hdue _ _ ((e4.trans e5).trans (Ex.new hl)) ⟨rfl, _, rfl, ?_⟩ l upd_same⟩
      rw [hps]
      refine iteF ⟨_, rfl, rfl, _, rfl, (by show 0 ≤ sizeLine; decide), fun l2 hl2 => hdue _ _ (((e4.trans e5).trans (Ex.new hl)).trans (Ex.new hl2)) ⟨rfl, _, rfl, ?_⟩ l2 upd_same⟩
      rw [hps]
      exact iteF ⟨(Ex.new hl).trans (Ex.new hl2), rfl⟩
    · rintro σ H6 ⟨e6, rfl⟩
      have e56 := e5.trans e6
      have e46 := e4.trans e56
      have ht6 := ht.mono (kpE e46)
      refine ⟨_, rfl, rfl, _, rfl, iteF ?_⟩
      have hv6 := hv.mono (kpE (e3.trans e46))
      have htv6 := htv.mono (kpE e56)
      have hov6 := hov.mono (kpE e6)
      have hmr : RowsIn n mr := ⟨hmate.1, hmate.2.1⟩
      have hdif : Differ n rs mr := mates_nodup hL.1 hrn hts2 hmate
      refine ⟨_, rfl, _, rfl, v, .ref ta, n, rs, ts, rfl, hv6, htv6, hL.1, h1, h7, hrn, hts, fun H7 e7 => ⟨_, rfl, iteF ?_⟩⟩
      refine ⟨_, rfl, _, rfl, .ref x, .ref oa, n, rs, mr, rfl, ht6.mono (kpE e7), hov6.mono (kpE e7), h7, hL.1, hmr.1, hrn, fun r hr => (hmr.2 r hr).1, hdif, fun H8 e8 => ⟨_, rfl, iteF ?_⟩⟩
      have e78 := e7.trans e8
      obtain ⟨oa', hoe, odx', ovs', orr', o1', o2', o3', o4'⟩ := id (hov6.mono (kpE e78))
      cases hoe
      refine ⟨_, rfl, _, rfl, oa, odx', ovs', rfl, o1', .ref oa, n, mr, rfl, hov6.mono (kpE e78), fun r H9 e9 hr9 => ?_⟩
      refine ⟨v, r, n, rs, mr, rfl, hv6.mono (kpE (e78.trans e9)), hr9, h7, hL.rows, hmr, hdif, fun H10 e10 => ⟨_, rfl, iteF ?_⟩⟩
      have eA := e78.trans (e9.trans e10)
      have htA := ht6.mono (kpE eA)
      have htvA := htv6.mono (kpE eA)
      have hplA := (e46.trans eA) _ _ hpl
      have hAA := A2Nuu.mono (kpE (e46.trans eA)) hA
      have hul := hA.len
      refine ⟨_, rfl, _, rfl, (by show 1 ≤ sizeLine; decide), fun l hl => ?_⟩
      have f1 := Ex.new (o := .lst [.ref ta]) hl
      refine ⟨p, l, us, _, rfl, rfl, f1 _ _ hplA, upd_same, sz_le (by show us.length + 1 ≤ _; omega), fun m hm => ?_⟩
      have f2 := f1.trans (Ex.new (o := .lst (us ++ [.ref ta])) hm)
      refine ⟨m, rfl, ⟨_, Evl.sq_of upd_same⟩, fun D1 hD1 => ?_⟩
      have hm1 : (upd (upd H10 l (.lst [.ref ta])) m (.lst (us ++ [.ref ta]))) m = some (.lst (us ++ [.ref ta])) := upd_same
      have hB : A2 (Nuu (upd (upd H10 l (.lst [.ref ta])) m (.lst (us ++ [.ref ta])))) (ps ++ [ts]) (us ++ [.ref ta]) := (A2Nuu.mono (kpE f2) hAA).snoc (htvA.mono (kpE f2))
      replace htA := htA.mono (kpE f2)
      have hE := (e3.trans (e46.trans eA)).trans f2
      generalize upd (upd H10 l (.lst [.ref ta])) m (.lst (us ++ [.ref ta])) = H11 at hm1 hB htA hE hD1 ⊢
      refine lc_gen walk_list hD1 (fun _ => false) (fun _ _ _ => True) (by rw [List.length_append, List.length_singleton]; omega) (fun H12 e => Evl.sq_of (e _ _ hm1)) (fun _ _ _ _ _ _ => trivial) (fun i y HA HB Kt Kf hi e _ hy k1 k2 => ?_) (fun ys HA e hy a2 => ?_)
      · obtain ⟨rfl, hy⟩ := hy
        obtain ⟨t, ht', hyt⟩ := hB.get hy
        have hpt : IsPart n rs t := by
          rcases List.mem_append.mp (List.mem_of_getElem? ht') with z | z
          · exact hmem t z
          · have : t = ts := by simpa using z
            rw [this]
            exact hts
        refine ⟨rfl, _, rfl, _, rfl, .ref x, y, n, rs, dnn t, rfl, htA.mono (kpE e), (hyt.mono (kpE e)).dr, hL.1, h1, by omega, hrn, fun b H13 e13 hb => ⟨_, rfl, ?_⟩⟩
        rw [hb.mpr ⟨t, rfl, hpt⟩]
        exact k2 _ e13 rfl
      · have hys : ys = [] := by
          have := a2.len
          rw [List.filter_eq_nil_iff.mpr (fun _ _ => by simp)] at this
          exact List.eq_nil_of_length_eq_zero this.symm
        subst hys
        refine ⟨(by show 0 ≤ sizeLine; decide), fun l3 hl3 => ?_⟩
        have f3 := Ex.new (o := .lst []) hl3
        refine eqD_of (a := ([] : List Int)) (b := ([] : List Int)) lay_li (.lst (Evl.sq_of (f3 _ _ hy)) .nil) (.lst (Evl.sq_of upd_same) .nil) ?_
        exact q _ (hE.trans (e.trans f3))
end
end K65
namespace K65
open PySem PySem.Spec PyProof.Rows L2 SlX ClX
open Evl (Ex)
open PySem.W (Datum Tup)
theorem sql_ex {K : PySem.W.Frag} {H H' : Hp} {a : Addr} {xs : List V} (h : SqL K H a xs) (e : Ex H H') : SqL K H' a xs :=
  h.elim (fun h => .inl (h.elim (fun h => .inl (e _ _ h)) fun ⟨o, h⟩ => .inr ⟨o, e _ _ h⟩)) fun h => .inr h
section
variable {P : Program} {w : World} {K : PySem.W.Frag} {mg : Str → Option Value} {base : Heap} {C CM : Addr}
abbrev s_law : Stmt := topS 61
theorem sc_law : FnScope ["_law_script", "_law_turn", "_law_pot_here", "_law_order", "_law_rows_here", "_law_odd", "_law_lines", "_law_ring", "_law_told", "_law_near", "_law_at", "_law_column", "_law_one"] ["_law_script"] (defScope s_law) := ⟨rfl, rfl, rfl, by decide +kernel, rfl, by decide +kernel, by decide +kernel⟩
def sp_law (K : PySem.W.Frag) : Sp := fun vs H Q _ => ∃ (a : Addr) (ns : List Int), vs = [.ref a] ∧ SqL K H a (ns.map V.int) ∧ ns.length ≤ 63 ∧ ∀ H', Ex H H' → Q (.bl true) H'
theorem ok_law {f0 : Addr} {fd0 : FuncData} (T : Txt K mg) (U : Cls2 K mg C CM) (V1 : RingR P w K mg base C) (V3 : EqR P w K mg base C) (F0 : Fun K "law" "law" s_law f0 fd0) (cTable : CaMk P w K mg base 7 "Table" C ["self", "rows"] (sp_Table_init C CM))
    (c_law_pot : Ca P w K mg base 1 "_law_pot" ["_law_script", "_law_turn"] (sp_pot K)) (c_law_ladle : Ca P w K mg base 1 "_law_ladle" ["_law_pot_here", "_law_many"] sp_ladle) (c_law_rows : Ca P w K mg base 3 "_law_rows" ["_law_pot_here", "_law_order"] sp_lrows)
    (c_law_right : Ca P w K mg base 12 "_law_right" ["_law_rows_here"] sp_right) (c_law_one_of : Ca P w K mg base 2 "_law_one_of" ["_law_pot_here", "_law_items"] sp_one_of) (c_law_mixed : Ca P w K mg base 2 "_law_mixed" ["_law_pot_here", "_law_many"] sp_mixed)
    (cparting : Ca P w K mg base 11 "parting" ["table"] (sp_parting C)) (cmate : Ca P w K mg base 11 "mate" ["table"] (sp_mate C))
    (c_law_is_parting : Ca P w K mg base 1 "_law_is_parting" ["_law_rows_here", "_law_value"] sp_lis) (c_law_spoilt : Ca P w K mg base 1 "_law_spoilt" ["_law_pot_here", "_law_value"] (sp_spoilt K))
    (cis_parting : Ca P w K mg base 6 "is_parting" ["table", "value"] (sp_is_parting K C)) : FnOk P w K mg base CX0 13 f0 fd0 ["_law_script"] (sp_law K) := by
  refine F0.ok sc_law (fun vs H Q E h => ?_) (fun cdv A outer s H vs Q E hr h => ?_)
  · obtain ⟨a, ns, rfl, _⟩ := h
    rfl
  obtain ⟨a, ns, rfl, hs, hl, q⟩ := h
  have nd := sc_law.nd
  refine ⟨_, (pss_cons (ps_for PassesOwn.never rfl (pi_range1 (by rfl) T.m_range (pa_cons (pe_callB (call_max2 rfl) (by rfl) T.m_max (by decide +kernel) (pa_cons pe_int (pa_cons (pe_callB (call_min2 rfl) (by rfl) T.m_min (by decide +kernel) (pa_cons pe_int (pa_cons (pe_callB (call_len_seqK K) (by rfl) T.m_len (by decide +kernel) (pa_cons (pv 0) pa_nil)) pa_nil))) pa_nil))) pa_nil)) (pg_name (i := 1) nd rfl (Or.inl rfl))
      (pss_cons (ps_set (i := 2) nd rfl (Or.inl rfl) (pe_ca c_law_pot hr (pa_cons (pv 0) (pa_cons (pv 1) pa_nil))))
    (pss_cons (ps_set (i := 3) nd rfl (Or.inl rfl) (pe_op op_add pe_int (pe_ca c_law_ladle hr (pa_cons (pv 2) (pa_cons pe_int pa_nil)))))
    (pss_cons (ps_set (i := 4) nd rfl (Or.inl rfl) (pe_ca c_law_rows hr (pa_cons (pv 2) (pa_cons (pv 3) pa_nil))))
    (pss_cons (ps_if (pt_not (pt_val (pe_ca c_law_right hr (pa_cons (pv 4) pa_nil)))) (pss_one (ps_ret pe_bl)) pss_nil)
    (pss_cons (ps_set (i := 5) nd rfl (Or.inr rfl) (pe_ca c_law_one_of hr (pa_cons (pv 2) (pa_cons (pe_lst (pa_cons pe_int (pa_cons pe_int (pa_cons pe_int (pa_cons pe_int pa_nil))))) pa_nil))))
    (pss_cons (ps_set (i := 6) nd rfl (Or.inl rfl) (pe_ca c_law_mixed hr (pa_cons (pv 2) (pa_cons (pv 5) pa_nil))))
    (pss_cons (ps_set (i := 7) nd rfl (Or.inr rfl) (pe_callTy (call_tuple_ofK K) (by rfl) T.m_tuple (by decide +kernel) (pa_cons (pe_lc (own := [("_law_at", 10)]) rfl nd (pi_tupK K (pv 6)) (blkOk_by (N := ["_law_script", "_law_turn", "_law_pot_here", "_law_order", "_law_rows_here", "_law_odd", "_law_lines", "_law_ring", "_law_told", "_law_near", "_law_at", "_law_column", "_law_one"]) (sc := defScope s_law) (by decide +kernel)) (fun _ _ _ _ _ => (pg_name (i := 10) nd rfl (by first | exact Or.inl rfl | exact Or.inr rfl))) (fun _ _ _ _ _ => pts_nil) (fun _ _ _ _ _ => (pe_callTy (call_tuple_ofK K) (by rfl) T.m_tuple (by decide +kernel) (pa_cons (pe_lc (own := [("_law_column", 11)]) rfl nd (pi_range1 (by rfl) T.m_range (pa_cons (pv 5) pa_nil)) (blkOk_by (by kernel_rfl)) (fun _ _ _ _ _ => (pg_name (i := 11) nd rfl (by first | exact Or.inl rfl | exact Or.inr rfl))) (fun _ _ _ _ _ => pts_nil) (fun _ _ _ _ _ => (pe_op op_modN (pe_op op_add (pv 10) (pv 11)) (pv 5)))) pa_nil)))) pa_nil)))
    (Evl.pss_cut (ps_set (i := 8) nd rfl (Or.inl rfl) (pe_ca cparting hr (pa_cons (pe_mk cTable hr (pa_cons (pv 7) pa_nil)) pa_nil)))
    (pss_cons (ps_if (PW.pt (pw_or (pt_cmpR op_isN (pv 8) pe_non (nomark _)) (pw_or (pt_not (pt_val (pe_ca c_law_is_parting hr (pa_cons (pv 7) (pa_cons (pv 8) pa_nil))))) (pw_or1 (pt_not (pt_val (pe_ca cis_parting hr (pa_cons (pe_mk cTable hr (pa_cons (pv 7) pa_nil)) (pa_cons (pv 8) pa_nil))))))))) (pss_one (ps_ret pe_bl)) pss_nil)
    (Evl.pss_cut (ps_set (i := 9) nd rfl (Or.inl rfl) (pe_ca c_law_spoilt hr (pa_cons (pv 2) (pa_cons (pv 8) pa_nil))))
    (pss_cons (ps_if (pt_cmpR (op_neDK K hr.units) (pe_lc (own := [("_law_one", 12)]) rfl nd (pi_listK K (pv 9)) (blkOk_by (N := ["_law_script", "_law_turn", "_law_pot_here", "_law_order", "_law_rows_here", "_law_odd", "_law_lines", "_law_ring", "_law_told", "_law_near", "_law_at", "_law_column", "_law_one"]) (sc := defScope s_law) (by decide +kernel)) (fun _ _ _ _ _ => (pg_name (i := 12) nd rfl (by first | exact Or.inl rfl | exact Or.inr rfl))) (fun _ _ _ _ _ => (pts_one (pt_val (pe_ca cis_parting hr (pa_cons (pe_mk cTable hr (pa_cons (pv 7) pa_nil)) (pa_cons (pv 12) pa_nil)))))) (fun _ _ _ _ _ => (pv 12))) (pe_lst pa_nil) (nomark _)) (pss_one (ps_ret pe_bl)) pss_nil)
    (pss_one (ps_if (pt_cmpR op_notN (pe_ca cparting hr (pa_cons (pe_ring U V1 hr (pa_cons (pe_op op_mul pe_int (pe_op op_add pe_int (pe_ca c_law_ladle hr (pa_cons (pv 2) (pa_cons pe_int pa_nil))))) pa_nil)) pa_nil)) pe_non (nomark _)) (pss_one (ps_ret pe_bl)) pss_nil))))))))))))))
    (pss_cons (ps_if (PW.pt (pw_or (pt_cmpR (op_neDK K hr.units) (pe_ca cparting hr (pa_cons (pe_ring U V1 hr (pa_cons pe_int pa_nil)) pa_nil)) (pe_tup (pa_cons (pe_tup (pa_cons pe_int (pa_cons pe_int (pa_cons pe_int pa_nil)))) (pa_cons (pe_tup (pa_cons pe_int (pa_cons pe_int (pa_cons pe_int pa_nil)))) (pa_cons (pe_tup (pa_cons pe_int (pa_cons pe_int (pa_cons pe_int pa_nil)))) pa_nil)))) (nomark _)) (pw_or1 (pt_cmpR (op_neDK K hr.units) (pe_ca cparting hr (pa_cons (pe_ring U V1 hr (pa_cons pe_int pa_nil)) pa_nil)) (pe_tup (pa_cons (pe_tup (pa_cons pe_int pa_nil)) pa_nil)) (nomark _))))) (pss_one (ps_ret pe_bl)) pss_nil)
    (pss_one (ps_ret (pe_and (pe_cmpR op_isN (pe_ca cmate hr (pa_cons (pe_ring U V1 hr (pa_cons pe_int pa_nil)) pa_nil)) pe_non (nomark _)) (pe_one (pe_cmpR (op_tab V3 hr) (pe_ca cmate hr (pa_cons (pe_ring U V1 hr (pa_cons pe_int pa_nil)) pa_nil)) (pe_ring U V1 hr (pa_cons pe_int pa_nil)) (nomark _)))))))), ?_⟩
  have hlen : (ns.map V.int).length = ns.length := List.length_map _
  have hJ : ∀ m : Int, ∃ j : Int, 0 ≤ j ∧ j ≤ 2 ∧ (if (if m < 2 then m else 2) > 1 then (if m < 2 then m else 2) else 1) = j := fun m => by
    refine ⟨_, ?_, ?_, rfl⟩
    · split
      · split <;> omega
      · omega
    · split
      · split <;> omega
      · omega
  obtain ⟨J, hJ0, hJ2, hJe⟩ := hJ ((ns.map V.int).length : Int)
  refine ⟨_, rfl, a, _, rfl, .inl hs, _, _, rfl, _, _, rfl, _, rfl, ?_⟩
  rw [hJe]
  refine ⟨by omega, by omega, ?_⟩
  refine for_it (walk_rn (j := J) (n := J.toNat) rfl) (fun i σ H' => Ex H H' ∧ ∃ o1 o2 o3 o4 o5 o6 o7 o8 o9 o10 o11 o12, σ = [some (.ref a), o1, o2, o3, o4, o5, o6, o7, o8, o9, o10, o11, o12])
    ⟨Ex.refl H, _, _, _, _, _, _, _, _, _, _, _, _, rfl⟩ (fun _ _ _ _ _ => trivial) (fun i x σ H0 H0' hi pv y => ?_) (fun σ H1 pv => ?_)
  · obtain ⟨e0, o1, o2, o3, o4, o5, o6, o7, o8, o9, o10, o11, o12, rfl⟩ := pv
    obtain ⟨rfl, rfl⟩ := y
    refine ⟨_, rfl, _, rfl, a, ns, i, rfl, sql_ex hs e0, hl, fun p H1 hp e1 hpot => ?_⟩
    have hp0 : H p = none := Evl.fresh_back e0 hp
    have e01 := e0.trans e1
    refine ⟨_, rfl, p, 5, rfl, hpot, by decide, by decide, fun k z1 z2 z3 hk => ⟨_, _, rfl, rfl, ?_⟩⟩
    have e2 := exPx e01 hp0 (hpot.px (a := z1) (b := z2) (c := z3))
    have hpot2 : Pot (upd H1 p (.lst [.int z1, .int z2, .int z3])) p := Pot.new
    have hk1 : V.int (1 + (k : Int)) = iv (1 + k) := by unfold iv; rw [Int.natCast_add]; rfl
    generalize upd H1 p (.lst [.int z1, .int z2, .int z3]) = H2 at e2 hpot2 ⊢
    refine ⟨_, rfl, _, rfl, p, 1 + k, congrArg (fun z => [V.ref p, z]) hk1, hpot2, by omega, by omega, fun v rs H3 hL x3 hp3 hv => ?_⟩
    have e3 := exPx e2 hp0 x3
    refine ⟨_, rfl, v, 1 + k, rs, rfl, hv, hL, by omega, by omega, fun H4 e4 => ⟨_, rfl, iteF ?_⟩⟩
    have hp4 := hp3.ex e4
    have ex4 := e3.trans e4
    refine ⟨_, rfl, (by show 4 ≤ sizeLine; decide), fun l hl2 => ?_⟩
    obtain ⟨px, hpx⟩ := hp4.lst
    have hlp : l ≠ p := Ne.symm (ne_of_none hpx hl2)
    refine ⟨p, l, [3, 5, 3, 7], rfl, hp4.ex (Ex.new hl2), hlp, upd_same, by decide, by decide, fun n z1 z2 z3 hn => ?_⟩
    have hn3 : n = 3 ∨ n = 5 ∨ n = 7 := by
      simp only [List.mem_cons, List.not_mem_nil, or_false] at hn
      omega
    have e5 := exPx (ex4.trans (Ex.new (o := .lst [.int 3, .int 5, .int 3, .int 7]) hl2)) hp0 ((hp4.ex (Ex.new (o := .lst [.int 3, .int 5, .int 3, .int 7]) hl2)).px (a := z1) (b := z2) (c := z3))
    have hp5 : Pot (upd (upd H4 l (.lst [.int 3, .int 5, .int 3, .int 7])) p (.lst [.int z1, .int z2, .int z3])) p := Pot.new
    have h1 : 1 ≤ n := by omega
    have h7 : n ≤ 7 := by omega
    refine ⟨_, rfl, _, rfl, p, n, rfl, hp5, by omega, fun lv L H6 hLp x6 hp6 hlv => ?_⟩
    have e6 := exPx e5 hp0 x6
    have hKL := kin_latin hLp h1
    have hKn : ∀ r ∈ kinM n L, r.length = n := fun r hr => (hKL.2.1 r hr).1
    obtain ⟨la, rfl, hla⟩ := id hlv
    have hll : (L.map iv).length = n := by rw [List.length_map]; exact hLp.1
    refine ⟨_, rfl, la, rfl, ⟨_, Evl.st_of hla⟩, fun D1 hD1 => ?_⟩
    refine lc_kp walk_tup hD1 (fun i y H' => ∀ at_, L[i]? = some at_ → Nu H' ((List.range n).map fun c => (at_ + c) % n) y) (by omega) (fun H7 e => Evl.st_of (e _ _ hla)) (fun i y _ _ e z at_ hat => (z at_ hat).mono e) (fun i2 x H7 H8 Kt hi2 e7 hx7 kk => ?_) (fun ys H7 e7 hy a2 => ?_)
    · obtain ⟨rfl, hx7⟩ := hx7
      obtain ⟨at_, hat, rfl⟩ := iv_ix hx7
      refine ⟨rfl, _, rfl, _, rfl, by omega, by omega, fun D2 hD2 => ?_⟩
      refine lc_kp (walk_rn (n := n) (by omega)) hD2 (fun c y H' => y = iv ((at_ + c) % n)) (by omega) (fun _ _ => trivial) (fun j y _ _ e z => z) (fun c x H3 H4 Kt hc e3 hx k2 => ?_) (fun ys H3 e3 hy a2 => ?_)
      · obtain ⟨rfl, rfl⟩ := hx
        refine ⟨rfl, _, rfl, _, rfl, _, _, rfl, rfl, _, rfl, _, _, rfl, rfl, by show ((n : Nat) : Int) ≠ 0; omega, k2 _ _ (Ex.refl _) ?_⟩
        show V.int (Int.fmod ((at_ : Int) + (c : Int)) (n : Int)) = iv ((at_ + c) % n)
        rw [← Int.natCast_add, fmod_nat]
        rfl
      · refine ⟨D2, ys, rfl, .inl ⟨Evl.sq_of hy, fun p2 hp2 => kk _ _ (e3.trans (Ex.new hp2)) fun at' hat' => ⟨p2, rfl, ?_⟩⟩⟩
        rw [hat] at hat'
        cases hat'
        rw [upd_same, A2.eqs a2, List.map_map]
        rfl
    refine ⟨D1, ys, rfl, .inl ⟨Evl.sq_of hy, fun p2 hp2 => ?_⟩⟩
    have e8 := e7.trans (Ex.new (o := .tup ys) hp2)
    rw [List.length_map] at a2
    have hA := A2_range (R := fun (at_ : Nat) y => Nu H7 ((List.range n).map fun c => (at_ + c) % n) y) a2
    have hK : Nuu (upd H7 p2 (.tup ys)) (kinM n L) (.ref p2) := ⟨p2, ys, rfl, upd_same, A2Nu.mono (kpE (Ex.new hp2)) (A2.map hA)⟩
    have hp8 := hp6.ex e8
    have e9 := e6.trans e8
    generalize upd H7 p2 (.tup ys) = H8 at hK hp8 e9 ⊢
    have tabk : ∀ {H' : Hp} {Q' : VK} {x dx : Addr}, Nuu H' (kinM n L) (.ref p2) → H' x = none → H' dx = none → dx ≠ x → (∀ H2, Ex H' H2 → TabV H2 C n (kinM n L) (.ref x) → Q' .non H2) → sp_Table_init C CM [.ref x, .ref p2] (upd (upd H' dx (.own x)) x (.ins C dx [])) Q' E0 := fun hK hx hd hne kq =>
      tab_at (u := .ref p2) (n := n) (rs := kinM n L) ⟨hKL.1, h1, by omega, hKL.rows.2, .inl ⟨hK, hKL⟩⟩ hx hd hne kq
    refine ⟨fun σ H' => Ex H H' ∧ Pot H' p ∧ Nuu H' (kinM n L) (.ref p2) ∧ ∃ ts ta o1 o3 o4 o5 o6 o9 o10 o11 o12, IsPart n (kinM n L) ts ∧ Nuu H' ts (.ref ta) ∧ σ = [some (.ref a), o1, some (.ref p), o3, o4, o5, o6, some (.ref p2), some (.ref ta), o9, o10, o11, o12], ?_, ?_⟩
    · refine ⟨_, rfl, fun x dx hx hd hne => tabk hK hx hd hne fun H9 e9' ht => ⟨rfl, .ref x, n, kinM n L, rfl, ht, h1, h7, hKL.rows, fun told H10 e10 htold => ?_⟩⟩
      rcases htold with ⟨rfl, hno⟩ | ⟨ts, hts, htv⟩
      · obtain ⟨ts, hts⟩ := kin_part hn3 hLp
        exact (hno ts hts).elim
      obtain ⟨ta, tus, rfl, hta, htA⟩ := id htv
      have eB := e9'.trans e10
      exact ⟨e9.trans eB, hp8.ex eB, hK.mono (kpE eB), ts, ta, _, _, _, _, _, _, _, _, _, hts, htv, rfl⟩
    rintro σ H9 ⟨e10, hp9, hK9, ts, ta, o1, o3, o4, o5, o6, o9, o10, o11, o12, hts, htv, rfl⟩
    clear hK hp8 e9
    refine ⟨_, rfl, rfl, _, rfl, iteF ⟨_, rfl, _, rfl, .ref p2, .ref ta, n, kinM n L, ts, rfl, hK9, htv, hKL.1, h1, h7, hKn, hts, fun H10 e11 => ⟨_, rfl, iteF ?_⟩⟩⟩
    refine ⟨_, rfl, fun x dx hx hd hne => tabk (hK9.mono (kpE e11)) hx hd hne fun H11 e12 ht => ⟨rfl, _, rfl, .ref x, .ref ta, n, kinM n L, dnn ts, rfl, ht, (htv.mono (kpE (e11.trans e12))).dr, hKL.1, h1, by omega, hKn, fun b H12 e13 hb => ⟨_, rfl, ?_⟩⟩⟩
    rw [hb.mpr ⟨ts, rfl, hts⟩]
    refine iteF ?_
    have e14 := e11.trans (e12.trans e13)
    have hp12 := hp9.ex e14
    have hK12 := hK9.mono (kpE e14)
    have htv12 := htv.mono (kpE e14)
    have eC := e10.trans e14
    refine ⟨fun σ H' => Ex H H' ∧ Pot H' p ∧ Nuu H' (kinM n L) (.ref p2) ∧ ∃ nl us o1 o3 o4 o5 o6 o8 o10 o11 o12, H' nl = some (.lst us) ∧ (∀ u ∈ us, Bd K n (kinM n L) H' u) ∧ us.length ≤ 1000 ∧ σ = [some (.ref a), o1, some (.ref p), o3, o4, o5, o6, some (.ref p2), o8, some (.ref nl), o10, o11, o12], ?_, ?_⟩
    · refine ⟨_, rfl, _, rfl, .ref p, .ref ta, n, kinM n L, ts, rfl, htv12, hts, by omega, by omega, fun nl H13 us e15 hnl hbd hus => ?_⟩
      exact ⟨eC.trans e15, hp12.ex e15, hK12.mono (kpE e15), nl, us, _, _, _, _, _, _, _, _, _, hnl, hbd, hus, rfl⟩
    clear hK9 hp9 htv htv12 hK12 hp12 eC e14
    rintro σ H13 ⟨e15, hp13, hK13, nl, us, o1, o3, o4, o5, o6, o8, o10, o11, o12, hnl, hbd, hus, rfl⟩
    refine ⟨_, rfl, nl, rfl, ⟨_, Evl.sq_of hnl⟩, fun D3 hD3 => ?_⟩
    refine lc_gen walk_list hD3 (fun _ => false) (fun _ _ _ => True) (by omega) (fun H14 e => Evl.sq_of (e _ _ hnl)) (fun _ _ _ _ _ _ => trivial) (fun i y HA HB Kt Kf hi e _ hy k1 k2 => ?_) (fun ys HA e hy a2 => ?_)
    · obtain ⟨rfl, hy⟩ := hy
      obtain ⟨d, hd1, hd2⟩ := hbd y (List.mem_of_getElem? hy)
      refine ⟨rfl, _, rfl, fun x dx hx hd hne => tabk (hK13.mono (kpE e)) hx hd hne fun H15 e16 ht => ⟨rfl, _, rfl, .ref x, y, n, kinM n L, d, rfl, ht, hd1.mono (e.trans e16) d y, hKL.1, h1, by omega, hKn, fun b H16 e17 hb => ⟨_, rfl, ?_⟩⟩⟩
      have : b = false := by
        cases b with
        | false => rfl
        | true => exact (hd2 (hb.mp rfl)).elim
      subst this
      exact k2 _ (e16.trans e17) rfl
    · have hys : ys = [] := by
        have := a2.len
        rw [List.filter_eq_nil_iff.mpr (fun _ _ => by simp)] at this
        exact List.eq_nil_of_length_eq_zero this.symm
      subst hys
      refine ⟨(by show 0 ≤ sizeLine; decide), fun l3 hl3 => ?_⟩
      have f3 := Ex.new (o := .lst []) hl3
      refine neD_of (a := ([] : List Int)) (b := ([] : List Int)) lay_li (.lst (Evl.sq_of (f3 _ _ hy)) .nil) (.lst (Evl.sq_of upd_same) .nil) ⟨_, rfl, iteF ?_⟩
      have e16 := e.trans f3
      have hp16 := hp13.ex e16
      have eD := e15.trans e16
      generalize upd HA l3 (.lst []) = H16 at hp16 eD ⊢
      refine ⟨rfl, _, rfl, p, 3, rfl, hp16, by decide, by decide, fun k z1 z2 z3 hk => ⟨_, _, rfl, rfl, _, _, rfl, rfl, .inl ⟨by decide, by decide⟩, ?_⟩⟩
      have e17 := exPx eD hp0 (hp16.px (a := z1) (b := z2) (c := z3))
      have hk2 : V.int (2 * (1 + (k : Int))) = iv (2 * (1 + k)) := by unfold iv; rw [Int.natCast_mul, Int.natCast_add]; rfl
      have hR := kin_latin (permN_range (2 * (1 + k))) (by omega)
      refine ⟨2 * (1 + k), congrArg (fun z => [V.ref C, z]) hk2, by omega, by omega, fun t H17 e18 ht => ⟨t, 2 * (1 + k), ringM (2 * (1 + k)), rfl, ht, by omega, by omega, hR.rows, fun told H18 e19 htold => ?_⟩⟩
      rcases htold with ⟨rfl, hno⟩ | ⟨ts, hts, htv⟩
      · exact ⟨rfl, _, rfl, iteF ⟨e17.trans (e18.trans e19), _, _, _, _, _, _, _, _, _, _, _, _, rfl⟩⟩
      · exact (even_none (by omega) ts hts).elim
  · obtain ⟨e0, o1, o2, o3, o4, o5, o6, o7, o8, o9, o10, o11, o12, rfl⟩ := pv
    have hR3 := kin_latin (permN_range 3) (by decide)
    have hR1 := kin_latin (permN_range 1) (by decide)
    have hR2 := kin_latin (permN_range 2) (by decide)
    refine ⟨rfl, 3, rfl, by decide, by decide, fun t H2 e1 ht => ⟨t, 3, ringM 3, rfl, ht, by decide, by decide, hR3.rows, fun told H3 e2 htold => ?_⟩⟩
    rcases htold with ⟨rfl, hno⟩ | ⟨ts, hts, htv⟩
    · obtain ⟨ts, hts⟩ := kin_part (n := 3) (.inl rfl) (permN_range 3)
      exact (hno ts hts).elim
    have hts3 := ring3_one hts
    subst hts3
    refine ⟨(by show 3 ≤ sizeLine; decide), fun t1 ht1 => ⟨(by show 3 ≤ sizeLine; decide), fun t2 ht2 => ⟨(by show 3 ≤ sizeLine; decide), fun t3 ht3 => ⟨(by show 3 ≤ sizeLine; decide), fun t4 ht4 => ?_⟩⟩⟩⟩
    have f1 := Ex.new (o := .tup [.int 0, .int 1, .int 2]) ht1
    have f2 := Ex.new (o := .tup [.int 1, .int 2, .int 0]) ht2
    have f3 := Ex.new (o := .tup [.int 2, .int 0, .int 1]) ht3
    have f4 := Ex.new (o := .tup [.ref t1, .ref t2, .ref t3]) ht4
    have fA := f1.trans (f2.trans (f3.trans f4))
    refine neD_of (a := Tup.mk (tts [[0, 1, 2], [1, 2, 0], [2, 0, 1]])) (b := Tup.mk (tts [[0, 1, 2], [1, 2, 0], [2, 0, 1]])) lay_tti (htv.mono (kpE fA)).dp (Nuu.dp ⟨t4, _, rfl, upd_same, ⟨t1, rfl, (f2.trans (f3.trans f4)) _ _ upd_same⟩, ⟨t2, rfl, (f3.trans f4) _ _ upd_same⟩, ⟨t3, rfl, f4 _ _ upd_same⟩, trivial⟩) ⟨_, rfl, ?_⟩
    rw [decide_eq_true rfl]
    refine iteF ?_
    have eA := e0.trans ((e1.trans e2).trans fA)
    generalize upd (upd (upd (upd H3 t1 (.tup [.int 0, .int 1, .int 2])) t2 (.tup [.int 1, .int 2, .int 0])) t3 (.tup [.int 2, .int 0, .int 1])) t4 (.tup [.ref t1, .ref t2, .ref t3]) = H4 at eA ⊢
    refine ⟨rfl, 1, rfl, by decide, by decide, fun t H5 e1 ht => ⟨t, 1, ringM 1, rfl, ht, by decide, by decide, hR1.rows, fun told H6 e2 htold => ?_⟩⟩
    rcases htold with ⟨rfl, hno⟩ | ⟨ts, hts, htv⟩
    · exact (hno _ ring1_part).elim
    have hts1 := ring1_one hts
    subst hts1
    refine ⟨(by show 1 ≤ sizeLine; decide), fun t1 ht1 => ⟨(by show 1 ≤ sizeLine; decide), fun t4 ht4 => ?_⟩⟩
    have f1 := Ex.new (o := .tup [.int 0]) ht1
    have f4 := Ex.new (o := .tup [.ref t1]) ht4
    have fA := f1.trans f4
    refine neD_of (a := Tup.mk (tts [[0]])) (b := Tup.mk (tts [[0]])) lay_tti (htv.mono (kpE fA)).dp (Nuu.dp ⟨t4, _, rfl, upd_same, ⟨t1, rfl, f4 _ _ upd_same⟩, trivial⟩) ⟨_, rfl, ?_⟩
    rw [decide_eq_true rfl]
    refine iteF ?_
    have eB := eA.trans ((e1.trans e2).trans fA)
    generalize upd (upd H6 t1 (.tup [.int 0])) t4 (.tup [.ref t1]) = H7 at eB ⊢
    refine ⟨rfl, 2, rfl, by decide, by decide, fun t H8 e1 ht => ⟨t, 2, ringM 2, rfl, ht, by decide, by decide, hR2.rows, fun other H9 e2 hother => ?_⟩⟩
    rcases hother with ⟨rfl, hno⟩ | ⟨ts, mr, hts, _⟩
    · refine ⟨rfl, _, rfl, iteT ?_⟩
      refine ⟨rfl, 1, rfl, by decide, by decide, fun t H10 e3 ht => ⟨t, 1, ringM 1, rfl, ht, by decide, by decide, hR1.rows, fun other H11 e4 hother => ?_⟩⟩
      rcases hother with ⟨rfl, hno⟩ | ⟨ts, mr, hts, hm, hov⟩
      · exact (hno _ ring1_part).elim
      refine ⟨rfl, 1, rfl, by decide, by decide, fun u H12 e5 hu => ?_⟩
      have hov12 := hov.mono (kpE e5)
      obtain ⟨oa, rfl, odx, ovs, orr, z1, z2, z3, z4⟩ := id hov12
      obtain ⟨ua, rfl, udx, uvs, ur, y1, y2, y3, y4⟩ := id hu
      obtain ⟨g, _, _, hnf, _⟩ := V3
      refine ⟨oa, odx, ovs, ua, C, udx, uvs, rfl, rfl, z1, y1, hnf, .ref oa, .ref ua, 1, 1, mr, ringM 1, rfl, hov12, hu, fun H13 e6 => ?_⟩
      rw [ring1_mate hm, decide_eq_true rfl]
      exact q _ (eB.trans ((e1.trans e2).trans ((e3.trans e4).trans (e5.trans e6))))
    · exact (even_none (.inl rfl) ts hts).elim
end
end K65
namespace K65
open PySem PySem.Spec PyProof.Rows L2 SlX ClX
/-! ### functions by their places -/
def fnA (K : PySem.W.Frag) (a : Addr) : He.FnV := match K.lookup a with
  | some ⟨_, _, .func fd, _⟩ => some (fd.name, fd.qualname, fd.params, fd.body, fd.scope, fd.globals, fd.closure, fd.defaults, fd.builtins)
  | _ => none
def codeA (K : PySem.W.Frag) (a : Addr) (q : Str) : Bool := match K.lookup a with
  | some ⟨_, _, .func fd, _⟩ => PySem.W.codeIn K fd.code q
  | _ => false
structure DA where
  ad : PySem.W.Frag → Addr
  name : Str
  qual : Str
  st : Stmt
def DA.val (d : DA) : He.FnV := some (d.name, d.qual, defArgs d.st, .stmts (defBody d.st), defScope d.st, mainGlobals, [], .none, builtinsNs)
def DA.ok (K : PySem.W.Frag) (d : DA) : Bool := PySem.W.keepIn K (.ref (d.ad K)) && codeA K (d.ad K) d.qual
theorem DA.fun_ {K : PySem.W.Frag} {d : DA} (e : fnA K (d.ad K) = d.val) (c : d.ok K = true) : ∃ fd, Fun K d.name d.qual d.st (d.ad K) fd := by
  obtain ⟨kp, c2⟩ := He.ba c
  unfold codeA at c2
  unfold fnA at e
  cases q : K.lookup (d.ad K) with
  | none =>
    rw [q] at c2
    cases c2
  | some o =>
    obtain ⟨oc, od, dt, osl⟩ := o
    rw [q] at c2 e
    cases dt with
    | func fd =>
      obtain ⟨n1, n2, n3, n4, n5, n6, n7, n8, n9, n10, n11, n12, n13, n14, n15⟩ := fd
      have e2 : (some (n1, n2, n3, n4, n5, n6, n7, n8, n15) : He.FnV) = some (d.name, d.qual, defArgs d.st, .stmts (defBody d.st), defScope d.st, mainGlobals, [], .none, builtinsNs) := e
      simp only [Option.some.injEq, Prod.mk.injEq] at e2
      obtain ⟨h1, h2, h3, h4, h5, h6, h7, h8, h9⟩ := e2
      subst h1 h2 h3 h4 h5 h6 h7 h8 h9
      exact ⟨_, ⟨oc, od, n9, n10, n11, n12, n13, n14, osl, rfl, q, c2⟩, kp⟩
    | _ => cases c2
/-! ### places -/
def gOf (K : PySem.W.Frag) (p : Addr) (T : String) : Addr := match PySem.W.recIn K p T with
  | some (.ref g :: _) => g
  | _ => 0
def gB (K : PySem.W.Frag) (p : Addr) (T : String) : Bool := match PySem.W.recIn K p T with
  | some (.ref _ :: _) => true
  | _ => false
theorem gB_ok {K : PySem.W.Frag} {p : Addr} {T : String} (h : gB K p T = true) : ∃ rest, PySem.W.recIn K p T = some (.ref (gOf K p T) :: rest) := by
  unfold gB at h
  unfold gOf
  split at h
  · rename_i g r e
    rw [e]
    exact ⟨r, rfl⟩
  · cases h
abbrev aT (K : PySem.W.Frag) : Addr := He.ga K "Table"
abbrev aM (K : PySem.W.Frag) : Addr := He.ga K "Made"
def adMI (K : PySem.W.Frag) : Addr := He.ma K (aM K) "__init__"
def adTI (K : PySem.W.Frag) : Addr := He.ma K (aT K) "__init__"
def adEq (K : PySem.W.Frag) : Addr := He.ma K (aT K) "__eq__"
def adRing (K : PySem.W.Frag) : Addr := gOf K (He.ma K (aT K) "ring") "classmethod"
def adRows (K : PySem.W.Frag) : Addr := gOf K (He.ma K (aT K) "rows") "property"
/-! ### facts of classes -/
def sclsB (K : PySem.W.Frag) (C : Addr) : Bool := PySem.W.plainGet K C Str.empty && (PySem.W.isClsIn K C && (PySem.W.plainOver K C && He.eqO (PySem.W.findIn K (.ref C) "__setattr__") (some (some (.builtin "object.__setattr__")))))
theorem sclsB_ok {K : PySem.W.Frag} {C : Addr} (h : sclsB K C = true) : SCls K C := by
  obtain ⟨h1, h⟩ := He.ba h
  obtain ⟨h2, h⟩ := He.ba h
  obtain ⟨h3, h4⟩ := He.ba h
  exact ⟨h1, h2, h3, He.eqO_ok h4⟩
def sisiB (K : PySem.W.Frag) (C : Addr) : Bool := He.eqO (PySem.W.findIn K (.ref C) "__class__") (some (some (.builtin "object.__class__"))) && (He.eqO (PySem.W.specialIn K (.builtin "object.__class__") "__get__") (some (some (.builtin "getset_descriptor.__get__"))) &&
  (decide (PySem.W.takesIn K (.builtin "object.__class__") = some true) && decide (PySem.W.mroIn K C (.type "object") = some true)))
theorem sisiB_ok {K : PySem.W.Frag} {C : Addr} (h : sisiB K C = true) : SIsi K C := by
  obtain ⟨h1, h⟩ := He.ba h
  obtain ⟨h2, h⟩ := He.ba h
  obtain ⟨h3, h4⟩ := He.ba h
  exact ⟨He.eqO_ok h1, He.eqO_ok h2, of_decide_eq_true h3, of_decide_eq_true h4⟩
def slotB (K : PySem.W.Frag) (C : Addr) (f : Str) (i : Nat) : Bool := He.eqO (PySem.W.findIn K (.ref C) f) (some (some (.ref (He.ma K C f)))) && (He.eqO (PySem.W.specialIn K (.ref (He.ma K C f)) "__get__") (some (some (.builtin "member_descriptor.__get__"))) &&
  (decide (PySem.W.takesIn K (.ref (He.ma K C f)) = some true) && (decide (PySem.W.typeIn K (.ref (He.ma K C f)) = some (.type "member_descriptor")) && (decide (PySem.W.slotIn K (He.ma K C f) C = some i) && decide (i < 1000)))))
theorem slotB_ok {K : PySem.W.Frag} {C : Addr} {f : Str} {i : Nat} (h : slotB K C f i = true) : ∃ p, Slot1 K C f p i := by
  obtain ⟨h1, h⟩ := He.ba h
  obtain ⟨h2, h⟩ := He.ba h
  obtain ⟨h3, h⟩ := He.ba h
  obtain ⟨h4, h⟩ := He.ba h
  obtain ⟨h5, h6⟩ := He.ba h
  exact ⟨_, He.eqO_ok h1, He.eqO_ok h2, of_decide_eq_true h3, of_decide_eq_true h4, of_decide_eq_true h5, of_decide_eq_true h6⟩
def cfB (r : Option PySem.W.CFound) (p C : Addr) : Bool := match r with
  | some (.get (.builtin b) (.ref q) .none (.ref c)) => decide (b = "classmethod.__get__") && (decide (q = p) && decide (c = C))
  | _ => false
theorem cfB_ok {r : Option PySem.W.CFound} {p C : Addr} (h : cfB r p C = true) : r = some (.get (.builtin "classmethod.__get__") (.ref p) .none (.ref C)) := by
  unfold cfB at h
  split at h
  · obtain ⟨h1, h⟩ := He.ba h
    obtain ⟨h2, h3⟩ := He.ba h
    cases of_decide_eq_true h1
    cases of_decide_eq_true h2
    cases of_decide_eq_true h3
    rfl
  · cases h
def f1 (K : PySem.W.Frag) : Bool := sclsB K (aT K)
def f2 (K : PySem.W.Frag) : Bool := sisiB K (aT K)
def f3 (K : PySem.W.Frag) : Bool := slotB K (aT K) "own_order" 1
def f4 (K : PySem.W.Frag) : Bool := slotB K (aT K) "own_rows" 3
def f5 (K : PySem.W.Frag) : Bool := slotB K (aT K) "own_places" 2
def f6 (K : PySem.W.Frag) : Bool := slotB K (aT K) "own_heads" 0
def f7 (K : PySem.W.Frag) : Bool := sclsB K (aM K)
def f8 (K : PySem.W.Frag) : Bool := sisiB K (aM K)
def f9 (K : PySem.W.Frag) : Bool := slotB K (aM K) "own_rows" 0
def f10 (K : PySem.W.Frag) : Bool := decide (PySem.W.kitOne K (.type "tuple") (.ref (aM K)) = some false)
def f11 (K : PySem.W.Frag) : Bool := He.eqO (PySem.W.findIn K (.ref (aT K)) "rows") (some (some (.ref (He.ma K (aT K) "rows")))) && (He.eqO (PySem.W.specialIn K (.ref (He.ma K (aT K) "rows")) "__get__") (some (some (.builtin "property.__get__"))) &&
  (decide (PySem.W.takesIn K (.ref (He.ma K (aT K) "rows")) = some true) && gB K (He.ma K (aT K) "rows") "property"))
def f12 (K : PySem.W.Frag) : Bool := PySem.W.readsIn K (aT K) (.type "type") && He.eqO (PySem.W.specialIn K (.ref (aT K)) "__getattribute__") (some (some (.builtin "type.__getattribute__")))
def f13 (K : PySem.W.Frag) : Bool := cfB (PySem.W.findCls K (.ref (aT K)) (.type "type") "ring") (He.ma K (aT K) "ring") (aT K) && (gB K (He.ma K (aT K) "ring") "classmethod" && PySem.W.fnIn K (adRing K))
def f14 (K : PySem.W.Frag) : Bool := He.eqO (PySem.W.findIn K (.ref (aT K)) "__eq__") (some (some (.ref (adEq K)))) && (PySem.W.isFn K (.ref (adEq K)) && PySem.W.notFirst K (aT K) (.ref (aT K)))
def fx : List (PySem.W.Frag → Bool) := [f1, f2, f3, f4, f5, f6, f7, f8, f9, f10, f11, f12, f13, f14]
def fa0 : List He.Fa := [.free "len", .free "isinstance", .free "int", .free "bool", .free "tuple", .free "range", .free "sorted", .free "list", .free "all", .free "any", .free "enumerate", .free "zip", .free "sum", .free "abs", .free "max", .free "min", .free "dict", .int "MAX_ORDER" 24, .int "MOST_PARTED" 7, .glo "Table", .glo "Made", .mkr "Table", .mkr "Made", .glo "is_whole", .glo "is_within", .glo "require_within", .glo "require_order", .glo "is_renaming_of", .glo "is_renaming", .glo "turned_back"]
def fa1 : List He.Fa := [.glo "are_rows", .glo "transposed", .glo "columns_of", .glo "rows_of_signs", .glo "rows_told", .glo "table_with", .glo "require_table", .glo "require_two_tables", .glo "require_small", .glo "weights_of", .glo "is_cross", .glo "longer", .glo "crosses", .glo "mated", .glo "are_rows_mates", .glo "are_mates", .glo "do_meet", .glo "is_parted", .glo "is_parting", .glo "parted", .glo "parting_of_rows", .glo "parting", .glo "table_of_parting", .glo "mate", .glo "_law_pot", .glo "_law_ladle", .glo "_law_one_of", .glo "_law_mixed", .glo "_law_switched", .glo "_law_rows"]
def fa2 : List He.Fa := [.glo "_law_are_mates", .glo "_law_crossing", .glo "_law_partings", .glo "_law_meets", .glo "_law_is_parting", .glo "_law_spoilt", .glo "_law_right", .glo "law"]
def fa : List He.Fa := fa0 ++ fa1 ++ fa2
def ds0 : List DA := [⟨fun K => He.ga K "is_whole", "is_whole", "is_whole", topS 8⟩, ⟨fun K => He.ga K "is_within", "is_within", "is_within", topS 9⟩, ⟨fun K => He.ga K "require_within", "require_within", "require_within", topS 10⟩, ⟨fun K => He.ga K "require_order", "require_order", "require_order", topS 11⟩, ⟨fun K => He.ga K "is_renaming_of", "is_renaming_of", "is_renaming_of", topS 12⟩, ⟨fun K => He.ga K "is_renaming", "is_renaming", "is_renaming", topS 13⟩, ⟨fun K => He.ga K "turned_back", "turned_back", "turned_back", topS 14⟩, ⟨fun K => He.ga K "are_rows", "are_rows", "are_rows", topS 18⟩, ⟨fun K => He.ga K "transposed", "transposed", "transposed", topS 19⟩, ⟨fun K => He.ga K "columns_of", "columns_of", "columns_of", topS 20⟩, ⟨fun K => He.ga K "rows_of_signs", "rows_of_signs", "rows_of_signs", topS 21⟩, ⟨fun K => He.ga K "rows_told", "rows_told", "rows_told", topS 22⟩, ⟨fun K => He.ga K "table_with", "table_with", "table_with", topS 25⟩, ⟨fun K => He.ga K "require_table", "require_table", "require_table", topS 26⟩, ⟨fun K => He.ga K "require_two_tables", "require_two_tables", "require_two_tables", topS 27⟩, ⟨fun K => He.ga K "require_small", "require_small", "require_small", topS 28⟩, ⟨fun K => He.ga K "weights_of", "weights_of", "weights_of", topS 30⟩, ⟨fun K => He.ga K "is_cross", "is_cross", "is_cross", topS 31⟩, ⟨fun K => He.ga K "longer", "longer", "longer", topS 32⟩, ⟨fun K => He.ga K "crosses", "crosses", "crosses", topS 33⟩, ⟨fun K => He.ga K "mated", "mated", "mated", topS 36⟩, ⟨fun K => He.ga K "are_rows_mates", "are_rows_mates", "are_rows_mates", topS 37⟩, ⟨fun K => He.ga K "are_mates", "are_mates", "are_mates", topS 38⟩, ⟨fun K => He.ga K "do_meet", "do_meet", "do_meet", topS 39⟩, ⟨fun K => He.ga K "is_parted", "is_parted", "is_parted", topS 40⟩, ⟨fun K => He.ga K "is_parting", "is_parting", "is_parting", topS 41⟩, ⟨fun K => He.ga K "parted", "parted", "parted", topS 42⟩, ⟨fun K => He.ga K "parting_of_rows", "parting_of_rows", "parting_of_rows", topS 43⟩, ⟨fun K => He.ga K "parting", "parting", "parting", topS 44⟩, ⟨fun K => He.ga K "table_of_parting", "table_of_parting", "table_of_parting", topS 45⟩]
def ds1 : List DA := [⟨fun K => He.ga K "mate", "mate", "mate", topS 46⟩, ⟨fun K => He.ga K "_law_pot", "_law_pot", "_law_pot", topS 48⟩, ⟨fun K => He.ga K "_law_ladle", "_law_ladle", "_law_ladle", topS 49⟩, ⟨fun K => He.ga K "_law_one_of", "_law_one_of", "_law_one_of", topS 50⟩, ⟨fun K => He.ga K "_law_mixed", "_law_mixed", "_law_mixed", topS 51⟩, ⟨fun K => He.ga K "_law_switched", "_law_switched", "_law_switched", topS 52⟩, ⟨fun K => He.ga K "_law_rows", "_law_rows", "_law_rows", topS 53⟩, ⟨fun K => He.ga K "_law_are_mates", "_law_are_mates", "_law_are_mates", topS 54⟩, ⟨fun K => He.ga K "_law_crossing", "_law_crossing", "_law_crossing", topS 55⟩, ⟨fun K => He.ga K "_law_partings", "_law_partings", "_law_partings", topS 56⟩, ⟨fun K => He.ga K "_law_meets", "_law_meets", "_law_meets", topS 57⟩, ⟨fun K => He.ga K "_law_is_parting", "_law_is_parting", "_law_is_parting", topS 58⟩, ⟨fun K => He.ga K "_law_spoilt", "_law_spoilt", "_law_spoilt", topS 59⟩, ⟨fun K => He.ga K "_law_right", "_law_right", "_law_right", topS 60⟩, ⟨fun K => He.ga K "law", "law", "law", topS 61⟩, ⟨adMI, "__init__", "Made.__init__", inClass (topS 17) 1⟩, ⟨adTI, "__init__", "Table.__init__", inClass (topS 24) 1⟩, ⟨adRing, "ring", "Table.ring", inClass (topS 24) 2⟩, ⟨adRows, "rows", "Table.rows", inClass (topS 24) 5⟩, ⟨adEq, "__eq__", "Table.__eq__", inClass (topS 24) 14⟩]
def ds : List DA := ds0 ++ ds1
/-! ### the Hook -/
def nxt (g : Addr → Option Obj) (as : List Addr) : List Addr := ((as.flatMap fun a => match g a with
  | some o => He.refsD o
  | none => []).filter fun a => !(a == builtinsNs) && (!(a == sysModules) && (!(a == cStatics) && !(a == mainGlobals)))).eraseDups
def asY (g : Addr → Option Obj) : Nat → List Addr → List Addr
  | 0, as => as
  | n + 1, as => as ++ asY g n (nxt g as)
def frY (g : Addr → Option Obj) : PySem.W.Frag := He.frG g (cStatics :: asY g 6 [mainGlobals])
abbrev AlY : Type := Bool × List He.FnV
def obsY (K : PySem.W.Frag) : AlY := ((fa.all fun f => f.ok K) && ((fx.all fun f => f K) && ds.all fun d => d.ok K), ds.map fun d => fnA K (d.ad K))
def valY : AlY := (true, ds.map DA.val)
def hookY : PySem.W.Hook where
  α := AlY
  obs := fun s => obsY (frY s.heap.get?)
  val := fun _ => valY
  says := fun _ h => ∃ K : PySem.W.Frag, K.In h ∧ obsY K = valY
  of := fun _ _ e => ⟨_, He.frG_in, e⟩
  keeps := fun _ _ _ ⟨K, hK, c⟩ k => ⟨K, PySem.W.Frag.In.keeps hK k, c⟩
def obY (s : PySem.W.SharedT) : AlY := obsY (frY (HandSHeadRun.getT s))
theorem obY_eq (s : PySem.W.SharedT) : obY s = hookY.obs s.abs := by
  have e : HandSHeadRun.getT s = s.abs.heap.get? := funext (HandSHeadRun.getT_eq s)
  show obsY (frY (HandSHeadRun.getT s)) = obsY (frY s.abs.heap.get?)
  rw [e]
section
variable {K : PySem.W.Frag}
theorem y_fa (c : obsY K = valY) {f : He.Fa} (h : f ∈ fa) : f.ok K = true := by
  have c1 := (He.ba (show ((fa.all fun f => f.ok K) && ((fx.all fun f => f K) && ds.all fun d => d.ok K)) = true from congrArg (fun z : AlY => z.1) c)).1
  exact List.all_eq_true.mp c1 f h
theorem y_fx (c : obsY K = valY) {f : PySem.W.Frag → Bool} (h : f ∈ fx) : f K = true := by
  have c1 := (He.ba (He.ba (show ((fa.all fun f => f.ok K) && ((fx.all fun f => f K) && ds.all fun d => d.ok K)) = true from congrArg (fun z : AlY => z.1) c)).2).1
  exact List.all_eq_true.mp c1 f h
theorem y_ds (c : obsY K = valY) (i : Nat) {d : DA} (h : ds[i]? = some d) : ∃ fd, Fun K d.name d.qual d.st (d.ad K) fd := by
  have c2 := (He.ba (He.ba (show ((fa.all fun f => f.ok K) && ((fx.all fun f => f K) && ds.all fun d => d.ok K)) = true from congrArg (fun z : AlY => z.1) c)).2).2
  have e : ds.map (fun d => fnA K (d.ad K)) = ds.map DA.val := congrArg (fun z : AlY => z.2) c
  have e2 : (ds.map fun d => fnA K (d.ad K))[i]? = (ds.map DA.val)[i]? := by rw [e]
  rw [List.getElem?_map, List.getElem?_map, h] at e2
  exact DA.fun_ (Option.some.inj e2) (List.all_eq_true.mp c2 d (List.mem_of_getElem? h))
end
/-! ### the run -/
abbrev R : PySem.W.OpenRow := PySem.W.OpenLaw.row PySem.Challenge.rw_oneanswer_k65_whole_partings
abbrev qv : Program := PySem.W.view R.prog [61]
def loose1 : List PySem.Str := ["_wall", "AnswerError", "InvalidTable", "InvalidNumber", "TooMany", "MAX_ORDER", "is_whole", "is_within", "require_within", "require_order", "is_renaming_of", "is_renaming", "turned_back", "ENTRIES", "Made", "are_rows", "transposed", "columns_of", "rows_of_signs", "rows_told", "is_triple", "Table", "table_with", "require_table", "require_two_tables", "require_small", "weights_of"]
def loose2 : List PySem.Str := ["is_cross", "longer", "crosses", "MOST_PARTED", "mated", "are_rows_mates", "are_mates", "do_meet", "is_parted", "is_parting", "parted", "parting_of_rows", "parting", "table_of_parting", "mate", "_law_pot", "_law_ladle", "_law_one_of", "_law_mixed", "_law_switched", "_law_rows", "_law_are_mates", "_law_crossing", "_law_partings", "_law_meets", "_law_is_parting", "_law_spoilt", "_law_right"]
def loose : List PySem.Str := loose1 ++ loose2
theorem run (w : World) : HandSHeadRun.RunEq R qv hookY obY 4000 loose w := by
  intro os
  kernel_rfl
end K65
namespace K65
open PySem PySem.Spec PyProof.Rows L2 SlX ClX
theorem facts {P : Program} {w : World} {K : PySem.W.Frag} {h : Heap} {mg : Str → Option Value} {f : Addr} (X : K.In h) (G : h.Ns mainGlobals mg) (c : obsY K = valY) (hfa : mg ("law" : Str) = some (.ref f)) :
    ∃ fd : FuncData, (∀ (s : Shared) (v : Value), BindsTo s fd ⟨[v], []⟩ [("_law_script", v)]) ∧ ∀ base : Heap, K.In base → base.Ns mainGlobals mg → FnOk P w K mg base CX0 13 f fd ["_law_script"] (sp_law K) := by
  have fr : ∀ (j : Nat) (x : Str), fa[j]? = some (.free x) → mg x = none := fun j x h => He.free_ok X G (y_fa c (List.mem_of_getElem? h))
  have gl : ∀ (j : Nat) (x : Str), fa[j]? = some (.glo x) → mg x = some (.ref (He.ga K x)) := fun j x h => He.glo_ok X G (y_fa c (List.mem_of_getElem? h))
  have mk : ∀ (j : Nat) (x : Str), fa[j]? = some (.mkr x) → Mk K (He.ga K x) (He.ma K (He.ga K x) "__init__") := fun j x h => He.mkr_ok (y_fa c (List.mem_of_getElem? h))
  have fi : ∀ (j : Nat) (x : Str) (i : Int), fa[j]? = some (.int x i) → ∃ u, mg x = some u ∧ RelV (.int i) u := fun j x i h => by
    obtain ⟨t, ht⟩ := He.int_ok X G (y_fa c (List.mem_of_getElem? h))
    exact ⟨_, ht, t, rfl⟩
  have df : ∀ (i j : Nat) (x : Str) (st : Stmt), ds[i]? = some ⟨fun K => He.ga K x, x, x, st⟩ → fa[j]? = some (.glo x) → Df K mg x st := fun i j x st h1 h2 => by
    obtain ⟨fd, F⟩ := y_ds c i h1
    exact ⟨_, fd, F, gl j x h2⟩
  have yx : ∀ (j : Nat) (g : PySem.W.Frag → Bool), fx[j]? = some g → g K = true := fun j g h => y_fx c (List.mem_of_getElem? h)
  have T : Txt K mg := ⟨fr 0 _ rfl, fr 1 _ rfl, fr 2 _ rfl, fr 3 _ rfl, fr 4 _ rfl, fr 5 _ rfl, fr 6 _ rfl, fr 7 _ rfl, fr 8 _ rfl, fr 9 _ rfl, fr 10 _ rfl, fr 11 _ rfl, fr 12 _ rfl, fr 13 _ rfl, fr 14 _ rfl, fr 15 _ rfl, fr 16 _ rfl, fi 17 _ _ rfl, fi 18 _ _ rfl⟩
  have mT := gl 19 "Table" rfl
  have mM := gl 20 "Made" rfl
  have kT := mk 21 "Table" rfl
  have kM := mk 22 "Made" rfl
  have U : Cls2 K mg (aT K) (aM K) := ⟨mT, mM, sclsB_ok (yx 0 f1 rfl), sisiB_ok (yx 1 f2 rfl), slotB_ok (yx 2 f3 rfl), slotB_ok (yx 3 f4 rfl), slotB_ok (yx 4 f5 rfl), slotB_ok (yx 5 f6 rfl), sclsB_ok (yx 6 f7 rfl), sisiB_ok (yx 7 f8 rfl), slotB_ok (yx 8 f9 rfl), of_decide_eq_true (yx 9 f10 rfl)⟩
  have DiM : Di K mg "Made" "Made.__init__" (aM K) (inClass (topS 17) 1) := by
    obtain ⟨fd, F⟩ := y_ds c 45 rfl
    exact ⟨_, fd, F, kM, mM⟩
  have DiT : Di K mg "Table" "Table.__init__" (aT K) (inClass (topS 24) 1) := by
    obtain ⟨fd, F⟩ := y_ds c 46 rfl
    exact ⟨_, fd, F, kT, mT⟩
  have DRing : ∃ fd, Fun K "ring" "Table.ring" (inClass (topS 24) 2) (adRing K) fd := y_ds c 47 rfl
  have DRows : ∃ fd, Fun K "rows" "Table.rows" (inClass (topS 24) 5) (adRows K) fd := y_ds c 48 rfl
  have DEq : ∃ fd, Fun K "__eq__" "Table.__eq__" (inClass (topS 24) 14) (adEq K) fd := y_ds c 49 rfl
  have D_is_whole : Df K mg "is_whole" (topS 8) := df 0 23 "is_whole" _ rfl rfl
  have D_is_within : Df K mg "is_within" (topS 9) := df 1 24 "is_within" _ rfl rfl
  have D_require_within : Df K mg "require_within" (topS 10) := df 2 25 "require_within" _ rfl rfl
  have D_require_order : Df K mg "require_order" (topS 11) := df 3 26 "require_order" _ rfl rfl
  have D_is_renaming_of : Df K mg "is_renaming_of" (topS 12) := df 4 27 "is_renaming_of" _ rfl rfl
  have D_is_renaming : Df K mg "is_renaming" (topS 13) := df 5 28 "is_renaming" _ rfl rfl
  have D_turned_back : Df K mg "turned_back" (topS 14) := df 6 29 "turned_back" _ rfl rfl
  have D_are_rows : Df K mg "are_rows" (topS 18) := df 7 30 "are_rows" _ rfl rfl
  have D_transposed : Df K mg "transposed" (topS 19) := df 8 31 "transposed" _ rfl rfl
  have D_columns_of : Df K mg "columns_of" (topS 20) := df 9 32 "columns_of" _ rfl rfl
  have D_rows_of_signs : Df K mg "rows_of_signs" (topS 21) := df 10 33 "rows_of_signs" _ rfl rfl
  have D_rows_told : Df K mg "rows_told" (topS 22) := df 11 34 "rows_told" _ rfl rfl
  have D_table_with : Df K mg "table_with" (topS 25) := df 12 35 "table_with" _ rfl rfl
  have D_require_table : Df K mg "require_table" (topS 26) := df 13 36 "require_table" _ rfl rfl
  have D_require_two_tables : Df K mg "require_two_tables" (topS 27) := df 14 37 "require_two_tables" _ rfl rfl
  have D_require_small : Df K mg "require_small" (topS 28) := df 15 38 "require_small" _ rfl rfl
  have D_weights_of : Df K mg "weights_of" (topS 30) := df 16 39 "weights_of" _ rfl rfl
  have D_is_cross : Df K mg "is_cross" (topS 31) := df 17 40 "is_cross" _ rfl rfl
  have D_longer : Df K mg "longer" (topS 32) := df 18 41 "longer" _ rfl rfl
  have D_crosses : Df K mg "crosses" (topS 33) := df 19 42 "crosses" _ rfl rfl
  have D_mated : Df K mg "mated" (topS 36) := df 20 43 "mated" _ rfl rfl
  have D_are_rows_mates : Df K mg "are_rows_mates" (topS 37) := df 21 44 "are_rows_mates" _ rfl rfl
  have D_are_mates : Df K mg "are_mates" (topS 38) := df 22 45 "are_mates" _ rfl rfl
  have D_do_meet : Df K mg "do_meet" (topS 39) := df 23 46 "do_meet" _ rfl rfl
  have D_is_parted : Df K mg "is_parted" (topS 40) := df 24 47 "is_parted" _ rfl rfl
  have D_is_parting : Df K mg "is_parting" (topS 41) := df 25 48 "is_parting" _ rfl rfl
  have D_parted : Df K mg "parted" (topS 42) := df 26 49 "parted" _ rfl rfl
  have D_parting_of_rows : Df K mg "parting_of_rows" (topS 43) := df 27 50 "parting_of_rows" _ rfl rfl
  have D_parting : Df K mg "parting" (topS 44) := df 28 51 "parting" _ rfl rfl
  have D_table_of_parting : Df K mg "table_of_parting" (topS 45) := df 29 52 "table_of_parting" _ rfl rfl
  have D_mate : Df K mg "mate" (topS 46) := df 30 53 "mate" _ rfl rfl
  have D__law_pot : Df K mg "_law_pot" (topS 48) := df 31 54 "_law_pot" _ rfl rfl
  have D__law_ladle : Df K mg "_law_ladle" (topS 49) := df 32 55 "_law_ladle" _ rfl rfl
  have D__law_one_of : Df K mg "_law_one_of" (topS 50) := df 33 56 "_law_one_of" _ rfl rfl
  have D__law_mixed : Df K mg "_law_mixed" (topS 51) := df 34 57 "_law_mixed" _ rfl rfl
  have D__law_switched : Df K mg "_law_switched" (topS 52) := df 35 58 "_law_switched" _ rfl rfl
  have D__law_rows : Df K mg "_law_rows" (topS 53) := df 36 59 "_law_rows" _ rfl rfl
  have D__law_are_mates : Df K mg "_law_are_mates" (topS 54) := df 37 60 "_law_are_mates" _ rfl rfl
  have D__law_crossing : Df K mg "_law_crossing" (topS 55) := df 38 61 "_law_crossing" _ rfl rfl
  have D__law_partings : Df K mg "_law_partings" (topS 56) := df 39 62 "_law_partings" _ rfl rfl
  have D__law_meets : Df K mg "_law_meets" (topS 57) := df 40 63 "_law_meets" _ rfl rfl
  have D__law_is_parting : Df K mg "_law_is_parting" (topS 58) := df 41 64 "_law_is_parting" _ rfl rfl
  have D__law_spoilt : Df K mg "_law_spoilt" (topS 59) := df 42 65 "_law_spoilt" _ rfl rfl
  have D__law_right : Df K mg "_law_right" (topS 60) := df 43 66 "_law_right" _ rfl rfl
  obtain ⟨fd, F⟩ := y_ds c 44 rfl
  have e := hfa.symm.trans (gl 67 "law" rfl)
  cases e
  refine ⟨fd, ?_, fun base _ _ => ?_⟩
  · obtain ⟨oc, od, kV, doc, pm, an, cdv, ct, osl, rfl, lk, hcd⟩ := F.ex
    exact fun s v => .of_eq rfl
  have cis_whole := ok_is_whole (P := P) (w := w) (base := base) T D_is_whole
  have cis_within := ok_is_within (P := P) (w := w) (base := base) T D_is_within cis_whole
  have crequire_within := ok_require_within (P := P) (w := w) (base := base) T D_require_within cis_within
  have crequire_order := ok_require_order (P := P) (w := w) (base := base) T D_require_order crequire_within
  have cis_renaming_of := ok_is_renaming_of (P := P) (w := w) (base := base) T D_is_renaming_of cis_within
  have cis_renaming := ok_is_renaming (P := P) (w := w) (base := base) T D_is_renaming cis_renaming_of
  have cturned_back := ok_turned_back (P := P) (w := w) (base := base) T D_turned_back
  have ctransposed := ok_transposed (P := P) (w := w) (base := base) T D_transposed
  have ccolumns_of := ok_columns_of (P := P) (w := w) (base := base) T D_columns_of cturned_back
  have crows_of_signs := ok_rows_of_signs (P := P) (w := w) (base := base) T D_rows_of_signs cturned_back ctransposed
  have care_rows := ok_are_rows (P := P) (w := w) (base := base) T D_are_rows cis_renaming_of cis_renaming ctransposed
  have cweights_of := ok_weights_of (P := P) (w := w) (base := base) T D_weights_of
  have cis_cross := ok_is_cross (P := P) (w := w) (base := base) T D_is_cross cis_renaming_of
  have clonger := ok_longer (P := P) (w := w) (base := base) T D_longer
  have ccrosses := ok_crosses (P := P) (w := w) (base := base) T D_crosses cweights_of clonger
  have cdo_meet := ok_do_meet (P := P) (w := w) (base := base) T D_do_meet
  have cis_parted := ok_is_parted (P := P) (w := w) (base := base) T D_is_parted cis_cross cdo_meet
  have cparted := parted_all (P := P) (w := w) (base := base) T D_parted cdo_meet 8
  have cparting_of_rows := ok_parting_of_rows (P := P) (w := w) (base := base) T D_parting_of_rows ccrosses cparted
  have crows_told := ok_rows_told (P := P) (w := w) (base := base) T U D_rows_told care_rows
  have cMade := ok_Made_init (P := P) (w := w) (base := base) (C := aT K) T U DiM
  have cTable := ok_Table_init (P := P) (w := w) (base := base) (CM := aM K) T U DiT crows_told ccolumns_of crows_of_signs
  have ctable_with := ok_table_with (P := P) (w := w) (base := base) T U D_table_with cTable cMade
  have crequire_table := ok_require_table (P := P) (w := w) (base := base) T U D_require_table
  have crequire_two_tables := ok_two (P := P) (w := w) (base := base) T U D_require_two_tables crequire_table
  have crequire_small := ok_small (P := P) (w := w) (base := base) T U D_require_small
  have cis_parting := ok_is_parting (P := P) (w := w) (base := base) T U D_is_parting crequire_table cis_parted
  have cparting := ok_parting (P := P) (w := w) (base := base) T U D_parting crequire_table crequire_small cparting_of_rows
  have ctable_of_parting := ok_table_of_parting (P := P) (w := w) (base := base) T D_table_of_parting ctable_with
  have cmate := ok_mate (P := P) (w := w) (base := base) T U D_mate crequire_table crequire_small cparting_of_rows ctable_of_parting
  have care_rows_mates := ok_are_rows_mates (P := P) (w := w) (base := base) T D_are_rows_mates
  have cmated := ok_mated (P := P) (w := w) (base := base) T U D_mated care_rows_mates
  have care_mates := ok_are_mates (P := P) (w := w) (base := base) T U D_are_mates crequire_two_tables cmated
  have Fring := ok_ring (P := P) (w := w) (base := base) T DRing crequire_order cTable
  have V1 : RingR P w K mg base (aT K) := by
    obtain ⟨h1, h2⟩ := He.ba (yx 11 f12 rfl)
    obtain ⟨h3, h4⟩ := He.ba (yx 12 f13 rfl)
    obtain ⟨h5, h6⟩ := He.ba h4
    exact ⟨_, _, _, ⟨h1, He.eqO_ok h2⟩, ⟨cfB_ok h3, gB_ok h5, h6⟩, Fring⟩
  have Frows := ok_rows (P := P) (w := w) (base := base) T U DRows
  have V2 : PropR P w K mg base (aT K) := by
    obtain ⟨h1, h2⟩ := He.ba (yx 10 f11 rfl)
    obtain ⟨h3, h4⟩ := He.ba h2
    obtain ⟨h5, h6⟩ := He.ba h4
    exact ⟨_, _, He.eqO_ok h1, He.eqO_ok h3, of_decide_eq_true h5, gB_ok h6, Frows⟩
  have Feq := ok_eq (P := P) (w := w) (base := base) T U DEq
  have V3 : EqR P w K mg base (aT K) := by
    obtain ⟨h1, h2⟩ := He.ba (yx 13 f14 rfl)
    obtain ⟨h3, h4⟩ := He.ba h2
    exact ⟨_, He.eqO_ok h1, h3, h4, Feq⟩
  have c_law_pot := ok_pot (P := P) (w := w) (base := base) T D__law_pot
  have c_law_ladle := ok_ladle (P := P) (w := w) (base := base) T D__law_ladle
  have c_law_one_of := ok_one_of (P := P) (w := w) (base := base) T D__law_one_of c_law_ladle
  have c_law_mixed := ok_mixed (P := P) (w := w) (base := base) T D__law_mixed c_law_ladle
  have c_law_crossing := ok_crossing (P := P) (w := w) (base := base) T D__law_crossing
  have c_law_meets := ok_lmeets (P := P) (w := w) (base := base) T D__law_meets
  have c_law_partings := ok_lpartings (P := P) (w := w) (base := base) T D__law_partings c_law_crossing c_law_meets
  have c_law_is_parting := ok_lis (P := P) (w := w) (base := base) T D__law_is_parting
  have c_law_are_mates := ok_lmates (P := P) (w := w) (base := base) T D__law_are_mates
  have c_law_switched := ok_switched (P := P) (w := w) (base := base) T D__law_switched
  have c_law_rows := ok_lrows (P := P) (w := w) (base := base) T D__law_rows c_law_ladle c_law_mixed c_law_switched
  have c_law_spoilt := ok_spoilt (P := P) (w := w) (base := base) T D__law_spoilt
  have c_law_right := ok_right (P := P) (w := w) (base := base) T U V2 D__law_right cTable c_law_partings cparting cmate c_law_is_parting care_mates c_law_are_mates cis_parting
  exact ok_law (P := P) (w := w) (base := base) T U V1 V3 F cTable c_law_pot c_law_ladle c_law_rows c_law_right c_law_one_of c_law_mixed cparting cmate c_law_is_parting c_law_spoilt cis_parting
end K65
open PySem PySem.W PySem.Calls PyProof.Rows
theorem PySem.Challenge.cw_oneanswer_k65_whole_partings_holds : PySem.Challenge.rw_oneanswer_k65_whole_partings.Holds := by
  w_on; o_law
  refine HandSHeadRun.head_any (r := OpenLaw.row PySem.Challenge.rw_oneanswer_k65_whole_partings) (q := view (OpenLaw.row PySem.Challenge.rw_oneanswer_k65_whole_partings).prog [61]) (H := K65.hookY) (ob := K65.obY) (M := 4000) (loose := K65.loose) (d := HandSHeadRun.topDef (OpenLaw.row PySem.Challenge.rw_oneanswer_k65_whole_partings).prog 61) (kwd := []) K65.obY_eq
    (by kernel_rfl) (fun s => by kernel_rfl) K65.run (by kernel_rfl) (by kernel_rfl) (by kernel_rfl) (by rfl) (by first | assumption | decide +kernel) (by decide +kernel) ⟨rfl, rfl, rfl, rfl, rfl, by decide +kernel⟩ ?hw ?hc
  case hw => w_witness2
  case hc =>
    refine L2.walk_ofE (l := PySem.Challenge.rw_oneanswer_k65_whole_partings) (n := 63) (k := 13) (x := "_law_script") (CX := L2.CX0) rfl (by decide) (by kernel_rfl) ⟨rfl, by decide, by decide⟩ ?F (fun _ _ _ _ z => z)
    intro w mg fa h Y G hmg0
    obtain ⟨K, KX, c⟩ := Y
    have hmg : mg ("law" : PySem.Str) = some (.ref fa) := by
      have e : (HandSHeadRun.topDef (OpenLaw.row PySem.Challenge.rw_oneanswer_k65_whole_partings).prog 61).name = ("law" : PySem.Str) := by kernel_rfl
      rw [← e]
      exact hmg0
    obtain ⟨fd, hb, hF⟩ := K65.facts (P := (PySem.Challenge.rw_oneanswer_k65_whole_partings).prog) (w := w) KX G c hmg
    exact ⟨K, fd, K65.sp_law K, KX, hb, fun H a ns hl _ hS => ⟨a, ns, rfl, hS, hl, fun _ _ => rfl⟩, hF⟩
#print axioms PySem.Challenge.cw_oneanswer_k65_whole_partings_holds
