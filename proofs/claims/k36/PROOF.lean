import PyProof.Rows.All
import Wide.All
import OpenK.AllK
import Wide.FinOn
import HandS.ForMost
import HandS.IsInst
import HandS.DictComp
import HandS.More
import HandS.Zip
import HandS.Conv
import HandS.Strs
import HandS.SetFor
import HandS.TupAny
import HandS.TupLe
import HandS.Codes
import HandS.Evl
import KE.GoesMore
import KE.OsRunLaw
import PySem.Challenge.RW_foldervotes_k36_whole_verdicts_on_histor
set_option Elab.async false
set_option linter.all false
set_option maxRecDepth 100000
set_option maxHeartbeats 4000000
/-! Rules that the layer lacks: a dict frozen, len of a frozen dict, enumerate of a tuple, sorted of a tuple, a tuple's index by an int. -/
namespace FV
open PySem PySem.Spec PyProof.Rows L2

/-! ### what is made is known from now on -/
def tFrz (t : TE) : TE := fun σ H Q => t σ H fun v H1 => ∃ d u, v = .ref d ∧ H1 d = some u ∧ Mut (some u) ∧ ∀ od, Q v (upd H1 d (.frz od u))
theorem pe_frz {X : Cx} {e : Expr} {t : TE} (h : PE X e t) : PE X e (tFrz t) := by
  refine ⟨fun pins s σ H Q I hw => thn (h.run pins s σ H _ I hw) fun v s1 ⟨x, H1, I1, r1, d, u, ex, hd, mu, q⟩ => ?_⟩
  obtain ⟨od, I2⟩ := I1.lock hd mu
  exact ⟨x, _, I2, r1, q od⟩

/-! ### len of a dict that may be known -/
theorem call_lenRd {X : Cx} : CallR X (.builtin "len") (fun xs H Q => ∃ a kvs, xs = [V.ref a] ∧ Rd H a (.dK kvs) ∧ Q (.int (kvs.length : Nat)) H) := by
  intro pins s σ H xs us Q I r h
  obtain ⟨a, kvs, rfl, ha, q⟩ := h
  rw [Vals.ref1 r]
  exact d_len I ha fun t s' I' => ⟨.int kvs.length, H, I', ⟨t, rfl⟩, q⟩

/-! ### sorted(t), t a tuple of ints -/
section
variable {prog : Program} {w : World} {A : Around} {E : Value → Shared → Prop} {s : Shared}
theorem collect_tupI {l : Addr} {vs : List Value} {Q : List Value → Shared → Prop} (hl : s.heap.IsTuple l vs.toArray)
    (h : ∀ hp : Heap, hp.objs.size = s.heap.objs.size + 1 → (∀ b o, s.heap.get? b = some o → hp.get? b = some o) → Q vs { s with heap := hp }) (hsz : vs.length ≤ sizeLine) :
    wpAny (model prog w) A (collect (.ref l)) Q E s := by
  obtain ⟨o, ho, hc, n, hd⟩ := id hl
  unfold collect
  refine wpAny_bind (wpAny_runValue (codeAny_builtin entry_proto_collect' ?_))
  show wpAny _ _ (newList [] >>= fun z => again (.builtin "list.__iadd__" ⟨[z, .ref l], []⟩)) _ _ s
  refine wpAny_bind (wpAny_newList (wpAny_pure ⟨Code.quiet_builtin _ (by decide +kernel), codeAny_builtin entry_list_iadd' ?_⟩))
  generalize hp1 : s.heap.push (seqObj "list" #[] 0) = g1
  have hN : g1.get? s.heap.objs.size = some (seqObj "list" #[] 0) := by
    rw [← hp1]
    exact Heap.get?_push_size _ rfl
  have k1 : ∀ b o, s.heap.get? b = some o → g1.get? b = some o := fun b o e => by
    rw [← hp1]
    exact Heap.get?_push_of_some _ e
  have z1 : g1.objs.size = s.heap.objs.size + 1 := by rw [← hp1, Heap.size_push]
  show wpAny _ _ (Builtin.List.listExtendWith (.ref s.heap.objs.size) (.ref l) (.ref s.heap.objs.size)) _ _ { s with heap := g1 }
  unfold Builtin.List.listExtendWith
  refine wpAny_bind (wpAny_typeOf (T := "tuple") ⟨o, k1 l o ho, hc⟩ ?_)
  have ht : (Value.type "tuple" == Value.type "tuple") = true := by rfl
  rw [if_pos (by rw [ht]; simp)]
  refine wpAny_bind (listItems_at (k1 l o ho) hd ?_)
  refine wpAny_bind (listItems_at (xs := #[]) (n := 0) hN rfl ?_)
  rw [if_neg (by simp)]
  refine wpAny_bind (listUpdate_at (xs := #[]) (n := 0) hN rfl ?_ (Nat.zero_le _) (by show (#[] ++ vs.toArray).size ≤ sizeLine + 1; simp only [Array.size_append, List.size_toArray, List.length_nil]; omega))
  refine wpAny_pure ?_
  generalize hp2 : g1.update s.heap.objs.size (Obj.mapSeq (· ++ vs.toArray)) = g2
  have hN2 : g2.get? s.heap.objs.size = some ((seqObj "list" #[] 0).mapSeq (· ++ vs.toArray)) := by
    rw [← hp2]
    exact get?_update_seq hN _
  have k2 : ∀ b o, s.heap.get? b = some o → g2.get? b = some o := fun b o e => by
    rw [← hp2]
    exact (Heap.get?_update_other _ _ (Nat.ne_of_gt (Heap.lt_size e))).trans (k1 b o e)
  have z2 : g2.objs.size = s.heap.objs.size + 1 := by rw [← hp2, Heap.size_update, z1]
  show wpAny (model prog w) A (load s.heap.objs.size >>= fun o => match o.data with | .seq xs _ => pure xs.toList | _ => unsupported "internal:collect") Q E { s with heap := g2 }
  refine wpAny_bind (wpAny_load hN2 ?_)
  show wpAny _ _ (pure ((#[] : Array Value) ++ vs.toArray).toList) Q E _
  rw [show ((#[] : Array Value) ++ vs.toArray).toList = vs by simp]
  exact wpAny_pure (h g2 z2 k2)
end
def rSortTu (K : PySem.W.Frag) : List V → Hp → VK → Prop := fun vs H Q => ∃ (a : Addr) (ns : List Int), vs = [V.ref a] ∧ SqT K H a (ns.map V.int) ∧ ns.length < 64 ∧
  ∀ (ns' : List Int) (p : Addr), ns'.Perm ns → ns'.Pairwise (· ≤ ·) → H p = none → Q (.ref p) (upd H p (.lst (ns'.map V.int)))
theorem cr_sortedTu {X : Cx} : CallR X (.builtin "sorted") (rSortTu X.K) := by
  intro pins s σ H vs us Q I r h
  obtain ⟨a, ns, rfl, hs, h64, q⟩ := h
  obtain ⟨its, rv, hl, _⟩ := I.tuple hs
  rw [Vals.ref1 r]
  have hi := rv.ints
  have hlen0 : its.length = ns.length := hi.length
  refine Calls.call_function_entry PyProof.Rows.kind_sorted PyProof.Rows.plain_sorted PyProof.Rows.entry_sorted (PyProof.Rows.args_sorted1 _) ?_
  unfold Builtin.«sorted»
  refine wpAny_bind (m := checkCount "sorted" 1 1 _) (wpAny_pure ?_)
  refine wpAny_bind (collect_tupI (show s.heap.IsTuple a its.toArray from hl) (fun hp hz hk => ?_) (by rw [hlen0, sizeLine_eq]; omega))
  have I1 : Inv X pins σ H { s with heap := hp } := I.kept (t' := s.toks) hk
  refine wpAny_bind (wpAny_newList ?_ (by rw [hlen0, sizeLine_eq]; omega))
  have hoL : (hp.push (seqObj "list" its.toArray 0)).get? hp.objs.size = some (seqObj "list" its.toArray 0) := Heap.get?_push_size _ rfl
  show wpAny _ _ _ _ _ { s with heap := hp.push (seqObj "list" its.toArray 0) }
  refine wpAny_bind (wpAny_holding (wpAny_call_entry PyProof.Rows.slot_list_sort ⟨_, hoL, rfl⟩ PyProof.Rows.entry_list_sort
    (PyProof.Rows.list_sort_tree (s := { s with heap := hp.push (seqObj "list" its.toArray 0) }) hoL hi (by rw [hlen0]; exact h64) fun out ys g1 g2 g3 => ⟨_, rfl, ?_⟩) (PyProof.Rows.args_list_sort _)))
  obtain ⟨e', he'⟩ := PyProof.Rows.sortedHeap_at (vs := its) (out := out) hoL
  have hlen : (ys.map V.int).length ≤ sizeLine := by
    rw [List.length_map, g2.length_eq]
    exact small64 h64
  refine wpAny_pure ⟨_, rfl, .ref hp.objs.size, upd H hp.objs.size (.lst (ys.map V.int)), I1.laid (t' := s.toks) (fun b u e => ?_) (Nat.le_refl _) ⟨hlen, out.toList, e', vals_of_ints g1, by rw [Array.toArray_toList]; exact he'⟩, rfl, q ys _ g2 g3 (I1.hok.fresh (Nat.le_refl _))⟩
  have hb : b < hp.objs.size := Heap.lt_size e
  rw [PyProof.Rows.sortedHeap_old (Nat.ne_of_lt hb) (by rw [size_push']; exact Nat.lt_succ_of_lt hb)]
  exact Heap.get?_push_of_some _ e

/-! ### t.index(n), t a tuple of ints -/
def rTupIx (K : PySem.W.Frag) : V → List V → Hp → VK → Prop := fun x xs H Q => ∃ (p : Addr) (ns : List Int) (z : Int) (j : Nat), x = .ref p ∧ xs = [.int z] ∧ SqT K H p (ns.map V.int) ∧ ns[j]? = some z ∧
  (∀ m, m < j → ns[m]? ≠ some z) ∧ Q (.int (j : Nat)) H
theorem flat_ints (ns : List Int) : (ns.map V.int).all flatV = true := by
  rw [List.all_map]
  exact List.all_eq_true.mpr fun _ _ => rfl
theorem mt_tupIx {X : Cx} : MtR X "tuple.index" (rTupIx X.K) := by
  intro pins s σ H x xs v us Q I rx rs h
  obtain ⟨p, ys, z, j, rfl, rfl, hq, hy, hno, q⟩ := h
  cases rx
  obtain ⟨u, rfl, t, rfl⟩ := vals1 rs
  obtain ⟨its, r, ⟨⟨cls, dd, dt, sl⟩, ho, hc, n, hd⟩, hz⟩ := I.tuple hq
  simp only at hc hd
  subst hc
  subst hd
  have hl : its.toArray.size = ys.length := by rw [List.size_toArray, ← r.length, List.length_map]
  have hj : j < its.toArray.size := by rw [hl]; exact (List.getElem?_eq_some_iff.mp hy).1
  have atm : ∀ (m : Nat) (hm : m < its.toArray.size), ∃ y t', ys[m]? = some y ∧ its.toArray[m] = Value.int y t' := fun m hm => by
    have hm' : m < ys.length := by rw [← hl]; exact hm
    obtain ⟨w, hw, t', hw'⟩ := r.get (i := m) (x := .int ys[m]) (by simp [hm'])
    have e := (List.getElem?_eq_some_iff.mp hw).2
    exact ⟨ys[m], t', List.getElem?_eq_getElem hm', by rw [← hw', ← e]; simp⟩
  refine call_meets PySem.F.slot_tuple_index ⟨_, ho, rfl⟩ PySem.F.entry_tuple_index (PySem.F.args_tuple_index_2 _ _) (TI.tuple_indexAt p its.toArray n dd sl (.int z t) (eqU (.int z)) j hj ?_ ?_)
    ⟨ho, fun w hw => mem_eqAt (x := .int z) ⟨t, rfl⟩ rfl r (flat_ints ys) w (by simpa using hw), ⟨.int (j : Nat), H, I.tok _, ⟨_, rfl⟩, q⟩⟩
  · obtain ⟨y, t', h1, h2⟩ := atm j hj
    rw [hy] at h1
    cases h1
    rw [h2]
    exact beq_self_eq_true z
  · intro m hm hmj
    obtain ⟨y, t', h1, h2⟩ := atm m hm
    rw [h2]
    exact beq_eq_false_iff_ne.mpr fun e => hno m hmj (e ▸ h1)

/-! ### enumerate(t), t a tuple -/
theorem enum_newT (l : Addr) (items : Array Value) (n : Nat) (dct : Option Addr) (sl : Array (Option Value)) :
    Meets (Builtin.«enumerate.__new__» ⟨[.type "enumerate", .ref l], []⟩) (fun _ R s => s.heap.get? l = some { cls := .type "tuple", dict := dct, data := .seq items n, slots := sl } ∧
      R (.ok (.ret (.ref (s.heap.push { cls := .type "tuple_iterator", data := .fields #[.ref l, .int 0 0] }).objs.size)))
        { s with heap := (s.heap.push { cls := .type "tuple_iterator", data := .fields #[.ref l, .int 0 0] }).push { cls := .type "enumerate", data := .fields #[.none, .bool false, .ref s.heap.objs.size, rawInt 0, .none, .none] } }) :=
  .of_wp fun prog w A R s h => by
    obtain ⟨hp, g, d, tk, os⟩ := s
    obtain ⟨hl, h⟩ := h
    have hsub := sub_enumerate
    have hL : Heap.IsTuple (Shared.heap ⟨hp, g, d, tk, os⟩) l items := ⟨_, hl, rfl, n, rfl⟩
    wp_walk using AutoSeq1.wpAny_loadPart' hl
    refine wpAny_stack_any fun st => wpAny_pure ?_
    split
    · rename_i c _ _ _ _ _
      cases (c == Value.type "enumerate") <;> (wp_walk using AutoSeq1.wpAny_loadPart' hl, wpAny_pyIter_tuple hL; exact ⟨_, rfl, h⟩)
    · wp_walk using AutoSeq1.wpAny_loadPart' hl, wpAny_pyIter_tuple hL
      exact ⟨_, rfl, h⟩
theorem call_enumT {prog : Program} {w : World} {A : Around} {E : Value → Shared → Prop} {s : Shared} {l : Addr} {items : Array Value} {Q : Value → Shared → Prop} (hL : s.heap.IsTuple l items)
    (h : ∀ h', IsEnum h' (s.heap.objs.size + 1) s.heap.objs.size 0 .none → h'.IsTupleIter s.heap.objs.size l 0 → (∀ b o, s.heap.get? b = some o → h'.get? b = some o) → Q (.ref (s.heap.objs.size + 1)) { s with heap := h' }) :
    wpAny (model prog w) A (call (.type "enumerate") [.ref l]) Q E s := by
  obtain ⟨⟨c, dct, dt, sl⟩, hl, hc, n, hd⟩ := hL
  replace hc : c = .type "tuple" := hc
  replace hd : dt = .seq items n := hd
  subst hc hd
  refine callType_new F.called_enumerate (by decide) (F.typeCall_enumerate_1 _) (F.newCall_enumerate_1 _) (fun obj => F.args_object_init_2 obj _) F.entry_enumerate_new (enum_newT l items n dct sl) ⟨hl, ?_⟩
  generalize hg : s.heap.push { cls := .type "tuple_iterator", data := .fields #[.ref l, .int 0 0] } = g1
  have hz : g1.objs.size = s.heap.objs.size + 1 := by rw [← hg]; exact Heap.size_push ..
  show _ ∧ _
  rw [hz]
  have he := Heap.get?_push_size g1 (o := { cls := .type "enumerate", data := .fields #[.none, .bool false, .ref s.heap.objs.size, rawInt 0, .none, .none] }) rfl
  rw [hz] at he
  have hit : g1.IsTupleIter s.heap.objs.size l 0 := by
    rw [← hg]
    exact ⟨_, Heap.get?_push_size _ rfl, rfl, rfl⟩
  refine ⟨⟨_, he, rfl⟩, h _ he (hit.at fun o q => Heap.get?_push_of_some _ q) fun b o x => Heap.get?_push_of_some _ ?_⟩
  rw [← hg]
  exact Heap.get?_push_of_some _ x
def IteT (K : PySem.W.Frag) (a : Addr) : It :=
  ⟨fun i H => ∃ (xs : List V) (x : V), SqT K H a xs ∧ xs[i]? = some x, fun i H v H' => ∃ T x, v = .ref T ∧ H T = none ∧ H' = upd H T (.tup [.int (i : Nat), x]) ∧ ∀ xs, SqT K H a xs → xs[i]? = some x, fun i H => ∃ xs : List V, SqT K H a xs ∧ xs.length ≤ i⟩
theorem turn_enumT {P : Program} {w : World} {K : PySem.W.Frag} {elts : List Expr} {kk : Nat} {tpos : Pos} (a e it : Addr) :
    Turn P w K (.Tuple elts kk tpos) (IteT K a) [e, it] e (fun i h => (∃ old, IsEnum h e it ((i : Nat) : Int) old) ∧ h.IsTupleIter it a i ∧ e ≠ it ∧ a ≠ it ∧ e ≠ a) where
  mem := by simp
  obj := fun i h st b hb => by
    obtain ⟨⟨old, he⟩, ⟨o, ho, hc, hd⟩, _⟩ := st
    rcases (show b = e ∨ b = it by simpa using hb) with z | z
    · rw [z]; exact ⟨_, he, fun v q => nomatch q⟩
    · rw [z]; exact ⟨o, ho, fun v q => by rw [hd] at q; cases q⟩
  keep := fun i h h' st k => let ⟨⟨old, he⟩, hi, hne⟩ := st; ⟨⟨old, k e (by simp) _ he⟩, hi.at fun o q => k it (by simp) o q, hne⟩
  item := by
    intro X hP hw hK hc i pins s σ H E I hf st hg
    subst hP hw hK
    obtain ⟨⟨old, he⟩, hit, hne, hai, hea⟩ := st
    obtain ⟨xs, x, hq, hx⟩ := hg
    obtain ⟨its, rv, p, hz⟩ := I.tuple hq
    obtain ⟨u, hu, ru⟩ := rv.get hx
    have hel : e < s.heap.objs.size := Heap.lt_size he
    have hil : it < s.heap.objs.size := by obtain ⟨_, q, _⟩ := hit; exact Heap.lt_size q
    have hlt : i < its.toArray.size := by
      rw [List.size_toArray]
      exact (List.getElem?_eq_some_iff.mp hu).1
    refine wpAny_pyNext_enum_itemD (Draws.tuple (by simpa using I.ok.hd hc) it a hai its.toArray) he ⟨hit, p⟩ hlt hne (by simp [hne, hea]) fun y h' tk hPy ho hit' hT hsz hk => ?_
    have ey : y = u := by
      have q : its.toArray[i]? = some y := hPy
      rw [List.getElem?_toArray, hu] at q
      exact (Option.some.inj q).symm
    subst ey
    refine ⟨_, rfl, wpAny_letOwnedTupleGo_enum (s := { s with heap := h', toks := tk + 1 }) ho fun h'' he' sb => ?_⟩
    have hT2 : h''.get? s.heap.objs.size = some { cls := .type "tuple", data := .seq #[.int i tk, y] } := (sb.2 _ (Nat.ne_of_gt hel)).trans hT
    have new : ObjOk X.prog X.w (upd H s.heap.objs.size (.tup [.int (i : Nat), x])) h'' s.heap.objs.size (.tup [.int (i : Nat), x]) :=
      ⟨by show 2 ≤ sizeLine; decide, [.int i tk, y], .cons ⟨_, rfl⟩ (.cons ru .nil), ⟨_, hT2, rfl, _, rfl⟩⟩
    have I1 : Inv X pins σ (upd H s.heap.objs.size (.tup [.int (i : Nat), x])) { s with heap := h'', toks := tk + 1 } :=
      I.turnedNew (ch := [e, it]) (fun b ob hb q => (sb.2 b (fun z => hb (by simp [z]))).trans (hk b ob (fun z => hb (by simp [z])) (fun z => hb (by simp [z])) q)) hf (Nat.le_refl _) new
    refine ⟨.ref s.heap.objs.size, _, I1, rfl, ⟨_, x, rfl, I.hok.fresh (Nat.le_refl _), rfl, fun ys hy => by rw [I.tuple_inj hy hq]; exact hx⟩, ⟨⟨y, ?_⟩, hit'.1.at fun o q => (sb.2 it (Ne.symm hne)).trans q, hne, hai, hea⟩, fun b hb => ?_⟩
    · rw [show ((i + 1 : Nat) : Int) = (i : Int) + 1 by omega]
      exact he'
    · rcases (show b = e ∨ b = it by simpa using hb) with z | z
      · rw [z, upd_ne (Nat.ne_of_lt hel), ← z]
        exact (hf b hb).1
      · rw [z, upd_ne (Nat.ne_of_lt hil), ← z]
        exact (hf b hb).1
  done := by
    intro X hP hw hK hc i pins s σ H E I hf st hg
    subst hP hw hK
    obtain ⟨⟨old, he⟩, hit, hne, hai, hea⟩ := st
    obtain ⟨xs, hq, hx⟩ := hg
    obtain ⟨its, rv, p, hz⟩ := I.tuple hq
    obtain ⟨f0, f1, f2, f3, f4, f5⟩ := hf it (by simp)
    have hl := rv.length
    unfold pyNext
    have hT : s.TypeIs (.ref e) "enumerate" := ⟨_, he, rfl⟩
    refine wpAny_bind (wpAny_attempt (wpAny_callSpecial?_slot (name := Str.ofString "__next__") hT F.slot_enumerate_next (wpAny_call_entry F.slot_enumerate_next hT F.entry_enumerate_next ?_ (F.args_enumerate_next_1 _))))
    show wpAny _ _ (field (.ref e) 2 >>= _) _ _ _
    refine wpAny_bind (wpAny_field he rfl (x := .ref it) rfl ?_)
    refine wpAny_bind (wpAny_nextOf_tuple_end (by simpa using I.ok.hd hc) hit p (by simp; omega) fun h' x heb hx' => ?_)
    obtain ⟨o, ho, hcl⟩ := hx'
    refine wpAny_bind (wpAny_isInstance (T := "StopIteration") (b := true) ⟨o, ho, hcl⟩ isSubtype_stop ?_)
    exact wpAny_pure ⟨rfl, I.turned (t' := s.toks) (fun b o hb q => heb b o hb q) f0 f1 f3 f4 f5⟩
  self := fun A i s Q E st h => let ⟨⟨_, he⟩, _⟩ := st; wpAny_pyIter_enum he h
def iEnumT (K : PySem.W.Frag) (ta : TA) : TI := fun σ H R => ta σ H fun vs H1 => ∃ a xs, vs = [.ref a] ∧ SqT K H1 a xs ∧ R (IteT K a) H1
theorem pi_enumT {X : Cx} {e : Expr} {ta : TA} {p pos tpos : Pos} {elts : List Expr} {kk : Nat} (hg : Gl X "enumerate") (hm : X.mg "enumerate" = none) (ha : PA X [e] ta) (hs : starEach [e] X.env = [(false, eval e X.env)] := by rfl) :
    PI X (.Tuple elts kk tpos) (.Call (.Name "enumerate" p) [e] [] pos) (iEnumT X.K ta) := by
  refine ⟨fun pins s σ H R I h => ?_⟩
  refine Call_ (ld_blt I hg hm boot_enumerate (PyProof.Rows.callWith_type1 (thn (ha.run pos pins s σ H _ I h) fun us s1 ⟨vs, H1, I1, r1, a, xs, ex, hq, q⟩ => ?_) hs rfl))
  subst ex
  rw [Vals.ref1 r1]
  obtain ⟨its, rv, p', hz⟩ := I1.tuple hq
  have hal : a < s1.heap.objs.size := p'.lt
  refine call_enumT (show s1.heap.IsTuple a its.toArray from p') fun h' he hit hk => wpAny_pyIter_enum he ?_
  have I2 : Inv X pins σ H1 { s1 with heap := h' } := I1.kept (t' := s1.toks) hk
  refine ⟨s1.heap.objs.size + 1, [s1.heap.objs.size + 1, s1.heap.objs.size], _, _, H1, rfl, I2, turn_enumT a (s1.heap.objs.size + 1) s1.heap.objs.size, ⟨⟨.none, he⟩, hit, Nat.succ_ne_self _, Nat.ne_of_lt hal, Nat.ne_of_gt (Nat.lt_succ_of_lt hal)⟩, fun b hb => ?_, q⟩
  have hle : s1.heap.objs.size ≤ b := by
    rcases (show b = s1.heap.objs.size + 1 ∨ b = s1.heap.objs.size by simpa using hb) with z | z
    · rw [z]; exact Nat.le_add_right _ _
    · rw [z]; exact Nat.le_refl _
  exact I1.fpOk hle (I1.hok.fresh hle)
end FV
/-! More rules: min of a list of pairs, set of a list or tuple of ints, walks within comprehensions. -/
namespace FV
open PySem PySem.Spec PyProof.Rows L2

/-! ### min of things that the heap tells apart -/
section
variable {prog : Program} {w : World} {A : Around} {R : Result → Shared → Prop} {I : Addr} {fp wr : List Addr} {n : Nat} {P : Nat → Value → Prop} {St : Nat → Heap → Prop}
/-- the comparison holds at every heap that keeps h0 -/
def LtFrom (prog : Program) (w : World) (A : Around) (h0 : Heap) (P : Nat → Value → Prop) (bt : Nat → Nat → Bool) : Prop :=
  ∀ i j vi vj (s : Shared) (Q : Value → Shared → Prop) (E : Value → Shared → Prop), (∀ b o, h0.get? b = some o → s.heap.get? b = some o) → P i vi → P j vj → Q (.bool (bt i j)) s → wpAny (model prog w) A (richCompare .Lt vi vj) Q E s
theorem minH_loop (W : Walks prog w A.in1 I fp wr n P St) (bt : Nat → Nat → Bool) (h0 : Heap) (hcmp : LtFrom prog w A.in1 h0 P bt) (S : Addr) (hSf : S ∉ fp) (hS0 : h0.get? S = none) (hw0 : ∀ b ∈ wr, h0.get? b = none) :
    ∀ (k j : Nat) (s : Shared) (vb : Value) (c : Nat), n - (j + 1) = k → j + 1 ≤ n → St (j + 1) s.heap → P (argBest bt j) vb → (∀ b o, h0.get? b = some o → s.heap.get? b = some o) →
      s.heap.get? S = some { cls := .type "list", dict := none, data := .seq #[vb, vb] c, slots := #[] } →
      (∀ v h' tk, P (argBest bt (n - 1)) v → (∀ b o, h0.get? b = some o → h'.get? b = some o) → R (.ok (.ret v)) { s with heap := h', toks := tk }) →
      codeAny (model prog w) A (.builtin "min.loop" ⟨[.ref I, .none, .ref S], []⟩) R s := by
  have hSw : S ∉ wr := fun h => hSf (W.sub _ h)
  have name : (toString "min" ++ toString ".loop" : String) = "min.loop" := by decide
  have n0 : ∀ b o, h0.get? b = some o → b ≠ S ∧ b ∉ wr := fun b o e => ⟨fun z => (by rw [z, hS0] at e; cases e), fun z => (by rw [hw0 b z] at e; cases e)⟩
  intro k
  induction k with
  | zero =>
    intro j s vb c hk hj hst hP hkp hS hR
    have hin : j + 1 = n := by omega
    refine codeAny_builtin F.entry_min_loop ?_
    rw [Around.under_plainId F.plain_min_loop _]
    refine wpAny_bind (wpAny_seqItems hS rfl ?_)
    refine wpAny_bind (wpAny_tryCatch (W.done s _ _ (hin ▸ hst) fun h' tk hk' => ?_))
    refine wpAny_bind (wpAny_updateSeq (hk' S _ hSw hS) rfl (wpAny_bind (wpAny_letGo (wpAny_pure ?_))))
    exact hR vb _ tk (by rw [← hin]; exact hP) fun b o e => (Heap.get?_update_other _ _ (Ne.symm (n0 b o e).1)).trans (hk' b o (n0 b o e).2 (hkp b o e))
  | succ k ih =>
    intro j s vb c hk hj hst hP hkp hS hR
    have hlt : j + 1 < n := by omega
    refine codeAny_builtin F.entry_min_loop ?_
    rw [Around.under_plainId F.plain_min_loop _]
    refine wpAny_bind (wpAny_seqItems hS rfl ?_)
    refine wpAny_bind (wpAny_tryCatch (W.item (j + 1) s _ _ hlt hst fun v h' tk hPv hst' hk' => ?_))
    have hS' := hk' S _ hSw hS
    have hkp' : ∀ b o, h0.get? b = some o → h'.get? b = some o := fun b o e => hk' b o (n0 b o e).2 (hkp b o e)
    show wpAny _ A.in1 (tryCatch (holding [v, v] (richCompare .Lt v vb >>= _)) _ >>= _) _ _ _
    refine wpAny_bind (wpAny_tryCatch (wpAny_holding (wpAny_bind (hcmp (j + 1) (argBest bt j) v vb _ _ _ hkp' hPv hP ?_))))
    refine wpAny_bind (wpAny_holding (wpAny_truthy_bool (wpAny_bind (wpAny_letGo (wpAny_pure ?_)))))
    cases hb : bt (j + 1) (argBest bt j) with
    | true =>
      simp only [if_true]
      refine wpAny_bind (wpAny_updateSeq hS' rfl (wpAny_bind (wpAny_letGo ?_)))
      rw [name]
      have oth : ∀ b o, b ≠ S → h'.get? b = some o → (h'.update S (Obj.mapSeq fun _ => #[v, v])).get? b = some o := fun b o hb e => (Heap.get?_update_other _ _ (Ne.symm hb)).trans e
      refine wpAny_pure ⟨plainId_quiet F.plain_min_loop _, ih (j + 1) _ v _ (by omega) hlt (W.frame _ _ _ hst' fun b hbf o e => oth b o (fun z => hSf (z ▸ hbf)) e) (by simp only [argBest, hb, if_true]; exact hPv)
        (fun b o e => oth b o (n0 b o e).1 (hkp' b o e)) (Heap.get?_update_self _ hS' rfl) fun v' h'' tk'' x y => hR v' h'' tk'' x y⟩
    | false =>
      simp only [Bool.false_eq_true, if_false]
      refine wpAny_bind (wpAny_letGo ?_)
      rw [name]
      exact wpAny_pure ⟨plainId_quiet F.plain_min_loop _, ih (j + 1) _ vb c (by omega) hlt hst' (by simp only [argBest, hb, Bool.false_eq_true, if_false]; exact hP) hkp' hS' fun v' h'' tk'' x y => hR v' h'' tk'' x y⟩
end
section
variable {prog : Program} {w : World} {A : Around} {E : Value → Shared → Prop} {s : Shared}
theorem min_listH {l : Addr} {items : Array Value} {Q : Value → Shared → Prop} {P : Nat → Value → Prop} (bt : Nat → Nat → Bool) (hh : A.handled = none) (hl : s.heap.IsList l items) (hn : 0 < items.size) (hP : ∀ i v, items[i]? = some v → P i v)
    (hcmp : LtFrom prog w A.in1 s.heap P bt) (hQ : ∀ v h' tk, items[argBest bt (items.size - 1)]? = some v → (∀ b o, s.heap.get? b = some o → h'.get? b = some o) → Q v { s with heap := h', toks := tk }) :
    wpAny (model prog w) A (call (.builtin "min") [.ref l]) Q E s := by
  have name : (toString "min" ++ toString ".loop" : String) = "min.loop" := by decide
  obtain ⟨ol, hol, hcl, nl, hdl⟩ := id hl
  have hlS : l < s.heap.objs.size := Heap.lt_size hol
  refine call_function_tree F.kind_min F.plain_min F.entry_min (F.args_min1 _) ?_
  show wpAny _ A.in1 (Builtin.Builtins.bindParams "min" ["key", "default"] 0 ⟨[], []⟩ >>= _) _ _ s
  refine wpAny_bind (wpAny_of_eq (show Builtin.Builtins.bindParams "min" ["key", "default"] 0 ⟨[], []⟩ = pure [none, none] from rfl) ?_)
  refine wpAny_bind (wpAny_pure ?_)
  refine wpAny_bind (wpAny_pyIter_list hl ?_)
  generalize hg : s.heap.push { cls := .type "list_iterator", data := .fields #[.ref l, .int 0 0] } = g1
  have k1 : ∀ b o, s.heap.get? b = some o → g1.get? b = some o := fun b o e => by
    rw [← hg]
    exact Heap.get?_push_of_some _ e
  have z1 : g1.objs.size = s.heap.objs.size + 1 := by rw [← hg]; exact Heap.size_push ..
  have hit : g1.IsListIter s.heap.objs.size l 0 := by
    rw [← hg]
    exact ⟨_, Heap.get?_push_size _ rfl, rfl, rfl⟩
  refine wpAny_bind (wpAny_newObj_type ?_)
  show wpAny _ _ _ _ _ { s with heap := g1.push { cls := .type "list", data := .seq #[] } }
  generalize hg2 : g1.push { cls := .type "list", data := .seq #[] } = g2
  have k2 : ∀ b o, g1.get? b = some o → g2.get? b = some o := fun b o e => by
    rw [← hg2]
    exact Heap.get?_push_of_some _ e
  have hS : g2.get? g1.objs.size = some { cls := .type "list", data := .seq #[] } := by
    rw [← hg2]
    exact Heap.get?_push_size _ rfl
  have none_of : ∀ b, s.heap.objs.size ≤ b → s.heap.get? b = none := fun b hb => by
    cases q : s.heap.get? b with
    | none => rfl
    | some o => exact absurd (Nat.lt_of_lt_of_le (Heap.lt_size q) hb) (Nat.lt_irrefl _)
  have W := Walks.list (prog := prog) (w := w) (A := A.in1) (by simpa using hh) s.heap.objs.size l (Nat.ne_of_lt hlS) items
  have hst : g2.IsListIter s.heap.objs.size l 0 ∧ g2.IsList l items := ⟨hit.at fun o e => k2 _ _ e, ⟨ol, k2 _ _ (k1 _ _ hol), hcl, nl, hdl⟩⟩
  have hSf : g1.objs.size ∉ [s.heap.objs.size, l] := by
    rw [z1]
    simp only [List.mem_cons, List.not_mem_nil, or_false, not_or]
    exact ⟨Nat.succ_ne_self _, Nat.ne_of_gt (Nat.lt_succ_of_lt hlS)⟩
  rw [name]
  refine wpAny_pure ⟨plainId_quiet F.plain_min_loop _, codeAny_builtin F.entry_min_loop ?_⟩
  rw [Around.under_plainId F.plain_min_loop _]
  refine wpAny_bind (wpAny_seqItems hS rfl ?_)
  refine wpAny_bind (wpAny_tryCatch (W.item 0 _ _ _ hn hst fun v h' tk hPv hst' hk' => ?_))
  have hSw : g1.objs.size ∉ [s.heap.objs.size] := fun z => hSf (List.mem_cons.mpr (.inl (List.mem_singleton.mp z)))
  have hS' := hk' _ _ hSw hS
  show wpAny _ A.in1 (updateSeq g1.objs.size (fun _ => #[v, v]) >>= _) _ _ _
  refine wpAny_bind ?_
  refine wpAny_updateSeq hS' rfl ?_
  rw [name]
  have hne : ∀ b o, s.heap.get? b = some o → b ≠ g1.objs.size ∧ b ∉ [s.heap.objs.size] := fun b o e => by
    have hb := Heap.lt_size e
    refine ⟨by rw [z1]; exact Nat.ne_of_lt (Nat.lt_succ_of_lt hb), fun z => ?_⟩
    rw [List.mem_singleton.mp z] at hb
    exact Nat.lt_irrefl _ hb
  refine wpAny_pure ⟨plainId_quiet F.plain_min_loop _, minH_loop W bt s.heap (fun i j vi vj s' Q' E' hk hi hj q => hcmp i j vi vj s' Q' E' hk (hP i vi hi) (hP j vj hj) q) g1.objs.size hSf (none_of _ (by rw [z1]; exact Nat.le_succ _))
    (fun b hb => none_of b (by rw [List.mem_singleton.mp hb]; exact Nat.le_refl _)) _ 0 _ v _ rfl hn (W.frame _ _ _ hst' fun b hbf o e => (Heap.get?_update_other _ _ (fun z : g1.objs.size = b => hSf (z ▸ hbf))).trans e) hPv
    (fun b o e => (Heap.get?_update_other _ _ (Ne.symm (hne b o e).1)).trans (hk' b o (hne b o e).2 (k2 _ _ (k1 _ _ e)))) (Heap.get?_update_self _ hS' rfl) fun v' h'' tk'' x y => hQ v' h'' tk'' x y⟩
end
/-- min of a list of pairs of small numbers: some pair that none is less than -/
def rMinT (K : PySem.W.Frag) : List V → Hp → VK → Prop := fun vs H Q => ∃ (a : Addr) (ps : List (Addr × Nat × Nat)), vs = [.ref a] ∧ SqL K H a (ps.map fun p => V.ref p.1) ∧ 0 < ps.length ∧
  (∀ p ∈ ps, SqT K H p.1 [.int (p.2.1 : Nat), .int (p.2.2 : Nat)] ∧ p.2.2 < 64) ∧ ∀ m ∈ ps, (∀ p ∈ ps, m.2.1 ≤ p.2.1) → Q (.ref m.1) H
theorem lex2 (a b c d : Nat) (hb : b < 64) (hd : d < 64) : HT.lexLt [(a : Int), (b : Int)] [(c : Int), (d : Int)] = decide (((a * 64 + b : Nat) : Int) < ((c * 64 + d : Nat) : Int)) := by
  show (if (a : Int) = c then (if (b : Int) = d then false else decide ((b : Int) < d)) else decide ((a : Int) < c)) = _
  by_cases h1 : (a : Int) = c
  · rw [if_pos h1]
    by_cases h2 : (b : Int) = d
    · rw [if_pos h2]
      exact (decide_eq_false (by omega)).symm
    · rw [if_neg h2]
      exact decide_eq_decide.mpr (by omega)
  · rw [if_neg h1]
    exact decide_eq_decide.mpr (by omega)
theorem cr_minT {X : Cx} (hc : X.calm = true) (hu : X.A.units + 64 < cLine) : CallR X (.builtin "min") (rMinT X.K) := by
  intro pins s σ H vs us Q I r h
  obtain ⟨a, ps, rfl, hs, hne, hps, q⟩ := h
  obtain ⟨its, rv, hl, _⟩ := I.list hs
  rw [Vals.ref1 r]
  have hlen : its.toArray.size = ps.length := by rw [List.size_toArray, ← rv.length, List.length_map]
  let code : Nat → Int := fun i => match ps[i]? with | some p => ((p.2.1 * 64 + p.2.2 : Nat) : Int) | none => 0
  have at' : ∀ i v, its.toArray[i]? = some v → ∃ p : Addr × Nat × Nat, ps[i]? = some p ∧ v = Value.ref p.1 := fun i v e => by
    have hi : i < ps.length := by
      rw [← hlen]
      exact (Array.getElem?_eq_some_iff.mp e).1
    obtain ⟨u, hu', ru⟩ := rv.get (i := i) (x := .ref ps[i].1) (by simp [hi])
    rw [List.getElem?_toArray] at e
    rw [hu'] at e
    cases e
    exact ⟨ps[i], List.getElem?_eq_getElem hi, ru⟩
  refine min_listH (P := fun i v => its.toArray[i]? = some v) (fun i j => decide (code i < code j)) (I.ok.hd hc) hl.isList (by rw [hlen]; exact hne) (fun _ _ e => e) (fun i j vi vj s' Q' E' hk hi hj q' => ?_) fun v h' tk hv hk => ?_
  · obtain ⟨p, e1, rfl⟩ := at' i vi hi
    obtain ⟨p', e2, rfl⟩ := at' j vj hj
    obtain ⟨t1, b1⟩ := hps p (List.mem_of_getElem? e1)
    obtain ⟨t2, b2⟩ := hps p' (List.mem_of_getElem? e2)
    obtain ⟨us1, r1, T1, _⟩ := I.tuple t1
    obtain ⟨us2, r2, T2, _⟩ := I.tuple t2
    have keepT : ∀ {x : Addr} {xs : Array Value}, IsTup s.heap x xs → IsTup s'.heap x xs := fun ⟨o, ho, r⟩ => ⟨o, hk _ _ ho, r⟩
    have i1 : IntsAre us1.toArray.toList [(p.2.1 : Int), (p.2.2 : Int)] := intsAre_of (ns := [(p.2.1 : Int), (p.2.2 : Int)]) r1
    have i2 : IntsAre us2.toArray.toList [(p'.2.1 : Int), (p'.2.2 : Int)] := intsAre_of (ns := [(p'.2.1 : Int), (p'.2.2 : Int)]) r2
    refine HT.lt_tupInts (A := X.A.in1) (keepT T1) (keepT T2) i1 i2 (by simp; omega) ?_
    have ec : decide (code i < code j) = HT.lexLt [(p.2.1 : Int), (p.2.2 : Int)] [(p'.2.1 : Int), (p'.2.2 : Int)] := by
      rw [lex2 _ _ _ _ b1 b2]
      show decide ((match ps[i]? with | some p => ((p.2.1 * 64 + p.2.2 : Nat) : Int) | none => 0) < (match ps[j]? with | some p => ((p.2.1 * 64 + p.2.2 : Nat) : Int) | none => 0)) = _
      rw [e1, e2]
    have q2 : Q' (.bool (decide (code i < code j))) s' := q'
    rw [ec] at q2
    exact q2
  · obtain ⟨m, e1, rfl⟩ := at' _ v hv
    obtain ⟨h1, h2⟩ := argBest_lt code (its.toArray.size - 1)
    refine ⟨.ref m.1, H, I.kept hk, rfl, q m (List.mem_of_getElem? e1) fun p hp => ?_⟩
    obtain ⟨j, hj⟩ := List.mem_iff_getElem?.mp hp
    have hjl : j < ps.length := (List.getElem?_eq_some_iff.mp hj).1
    have h3 := h2 j (by rw [hlen]; omega)
    have c1 : code (argBest (fun i j => decide (code i < code j)) (its.toArray.size - 1)) = ((m.2.1 * 64 + m.2.2 : Nat) : Int) := by
      show (match ps[argBest (fun i j => decide (code i < code j)) (its.toArray.size - 1)]? with | some p => ((p.2.1 * 64 + p.2.2 : Nat) : Int) | none => 0) = _
      rw [e1]
    have c2 : code j = ((p.2.1 * 64 + p.2.2 : Nat) : Int) := by
      show (match ps[j]? with | some p => ((p.2.1 * 64 + p.2.2 : Nat) : Int) | none => 0) = _
      rw [hj]
    rw [c1, c2] at h3
    have b2 := (hps p hp).2
    omega
end FV
/-! set(t), set(xs) of ints, to be sorted. -/
namespace FV
open PySem PySem.Spec PyProof.Rows L2
/-- the set that a call begins with -/
abbrev newS (w : World) : Obj := { cls := .type "set", dict := none, data := .set #[] 0 (.fresh 0 0 (!w.params.followText "set-order")) }
section
variable {P : Program} {w : World} {A : Around} {E : Value → Shared → Prop} {s : Shared}
set_option maxHeartbeats 8000000 in
theorem set_of_listI {l : Addr} {items : Array Value} (ns : List Int) {Q : Value → Shared → Prop} (hh : A.handled = none) (hl : s.heap.IsList l items) (hit : IntsAre items.toList ns) (hb : ns.length + 1 < scanBound)
    (h : ∀ (h' : Heap) (tk c : Nat), SetR w h' s.heap.objs.size (fun j => decide (j ∈ ns)) c → c ≤ ns.length → (∀ b o, s.heap.get? b = some o → h'.get? b = some o) → Q (.ref s.heap.objs.size) { s with heap := h', toks := tk }) :
    wpAny (model P w) A (call (.type "set") [.ref l]) Q E s := by
  have hisz : items.size = ns.length := by rw [← Array.length_toList]; exact IntsAre.length hit
  obtain ⟨⟨ocls, odict, odata, oslots⟩, hol, hcl, nl, hdl⟩ := hl
  simp only at hcl hdl
  subst hcl
  subst hdl
  obtain ⟨c, tl, hmro⟩ := F.called_set.mro
  have hmade := F.called_set.made
  have hsub := F.called_set.sub
  have h1 := F.called_set.notType
  have h2 := F.called_set.canCreate
  have hct := F.typeCall_set_1 (.ref l)
  refine wpAny_call (codeAny_of_tree (wpAny_pure ⟨Code.quiet_builtin _ (by decide +kernel), codeAny_builtin F.entry_type_call ?_⟩))
  rw [Around.under_plain (weight_type_call_type "set" [.ref l] []) rfl]
  repeat (any_goals (first | assumption | wp_step))
  refine codeAny_mono (code_set_led1 (.ref l) (E := E) (Q₁ := fun obj s₁ => obj = .ref s.heap.objs.size ∧ s₁ = { s with heap := s.heap.push (newS w) }) ⟨rfl, rfl⟩) fun r s₁ hr => ?_
  rcases r with e | (_ | obj | _ | _)
  case error => exact hr
  case ok.ret =>
    obtain ⟨rfl, rfl⟩ := hr
    have hS : (s.heap.push (newS w)).get? s.heap.objs.size = some (newS w) := Heap.get?_push_size _ rfl
    have hT : Shared.TypeIs { s with heap := s.heap.push (newS w) } (.ref s.heap.objs.size) "set" := ⟨_, hS, rfl⟩
    have hli := F.called_set.init.lookup
    have hbi := F.called_set.init.bind (.ref s.heap.objs.size)
    repeat (any_goals (first | assumption | wp_step))
    refine codeAny_mono (codeAny_call_builtin (R := wants (fun r s₂ => r = .none ∧ ∃ h' tk c, s₂ = { s with heap := h', toks := tk } ∧ SetR w h' s.heap.objs.size (fun j => decide (j ∈ ns)) c ∧ c ≤ ns.length ∧ (∀ b o, s.heap.get? b = some o → h'.get? b = some o)) E)
      F.called_set.init.plain F.entry_set_init (check_set_init_1 hT ?_)) fun r₂ s₂ hr₂ => ?_
    · have hol' : (s.heap.push (newS w)).get? l = some { cls := .type "list", dict := odict, data := .seq items nl, slots := oslots } := Heap.get?_push_of_some _ hol
      have hl1 : (s.heap.push (newS w)).IsList l items := ⟨_, hol', rfl, nl, rfl⟩
      have a1 := F.sub_list_set
      have a2 := F.sub_list_frozenset
      have a3 : (Value.type "list" == Value.type "dict") = false := by decide
      unfold Builtin.«set.__init__» noKeywords Builtin.Frozenset.updateFrom
      generalize hPI : pyIter = PI
      wp_walk
      subst hPI
      have hlS : l < s.heap.objs.size := Heap.lt_size hol
      have z1 : (s.heap.push (newS w)).objs.size = s.heap.objs.size + 1 := Heap.size_push ..
      have n1 : l ≠ (s.heap.push (newS w)).objs.size := by rw [z1]; exact Nat.ne_of_lt (Nat.lt_succ_of_lt hlS)
      refine wpAny_pyIter_list hl1 (wpAny_bind (wpAny_runValue ?_))
      refine set_update_ints (A := A.in1.in1) ((Walks.list (A := A.in1.in1.in1) (by simp [hh]) _ l n1 items).toS) s.heap.objs.size ?hSf ns hisz hb ?hv (items.size - 0) 0 _ (by omega) (Nat.zero_le _)
        ⟨⟨_, Heap.get?_push_size _ rfl, rfl, rfl⟩, hl1.push _⟩ ⟨0, Nat.le_refl 0, setR_new_at (Heap.get?_push_of_some _ hS)⟩ ?hR
      case hSf =>
        rw [z1]
        simp only [List.mem_cons, List.mem_singleton, List.not_mem_nil, or_false, not_or]
        exact ⟨Nat.ne_of_lt (Nat.lt_succ_self _), Nat.ne_of_gt hlS⟩
      case hv =>
        intro i v hv
        have hi : i < ns.length := by rw [← hisz]; exact (Array.getElem?_eq_some_iff.mp hv).1
        obtain ⟨t, e⟩ := PyProof.Rows.IntsAre.int_at hit i v (by rw [Array.getElem?_toList]; exact hv)
        refine ⟨ns[i], t, List.getElem?_eq_getElem hi, ?_⟩
        rw [e, List.getD_eq_getElem?_getD, List.getElem?_eq_getElem hi]
        rfl
      case hR =>
        intro s' c' hm hc' hS'
        obtain ⟨h', g2, d', tk', os'⟩ := s'
        obtain rfl : g2 = s.gens := hm.gens
        obtain rfl : d' = s.drawn := hm.drawn
        obtain rfl : os' = s.os := hm.os
        rw [hisz] at hc'
        refine wpAny_pure (wpAny_pure ⟨rfl, h', tk', c', rfl, hS', hc', fun b o e => ?_⟩)
        have hb0 : b < s.heap.objs.size := Heap.lt_size e
        refine hm.heap b o ?_ (Heap.get?_push_of_some _ (Heap.get?_push_of_some _ e))
        rw [z1]
        simp only [List.mem_cons, List.mem_singleton, List.not_mem_nil, or_false, not_or]
        exact ⟨Nat.ne_of_lt hb0, Nat.ne_of_lt (Nat.lt_succ_of_lt hb0)⟩
    · rcases r₂ with e | (_ | r | _ | _)
      case error => exact hr₂
      case ok.ret =>
        obtain ⟨rfl, h', tk, c', rfl, hS', hc', hk'⟩ := hr₂
        repeat (any_goals (first | assumption | wp_step))
        exact h _ _ _ hS' hc' hk'
      all_goals exact hr₂.elim
  all_goals exact hr.elim
end
section
variable {X : Cx}
def rSetI (w : World) (sq : Hp → Addr → List V → Prop) : List V → Hp → VK → Prop := fun xs H Q => ∃ (a : Addr) (ns : List Int), xs = [.ref a] ∧ sq H a (ns.map V.int) ∧ ns.length ≤ 1000 ∧
  ∀ (p : Addr) (c : Nat), H p = none → c ≤ ns.length → Q (.ref p) (upd H p (SetO w p (fun j => decide (j ∈ ns)) c))
theorem cr_setTI (hc : X.calm = true) : CallR X (.type "set") (rSetI X.w (SqT X.K)) := by
  intro pins s σ H xs us Q I r h
  obtain ⟨a, ns, rfl, hs, hn, q⟩ := h
  rw [Vals.ref1 r]
  obtain ⟨its, rv, hl, _⟩ := I.tuple hs
  refine call_set_tupI ns (I.ok.hd hc) (show s.heap.IsTuple a its.toArray from hl) rv.ints (by unfold scanBound; omega) fun h' tk c R hc' hk => ?_
  have hfr : H s.heap.objs.size = none := I.hok.fresh (Nat.le_refl _)
  exact ⟨.ref _, _, I.laid hk (Nat.le_refl _) (setO_new R), rfl, q _ c hfr hc'⟩
theorem cr_setLI (hc : X.calm = true) : CallR X (.type "set") (rSetI X.w (SqL X.K)) := by
  intro pins s σ H xs us Q I r h
  obtain ⟨a, ns, rfl, hs, hn, q⟩ := h
  rw [Vals.ref1 r]
  obtain ⟨its, rv, hl, _⟩ := I.list hs
  refine set_of_listI ns (I.ok.hd hc) hl.isList rv.ints (by unfold scanBound; omega) fun h' tk c R hc' hk => ?_
  have hfr : H s.heap.objs.size = none := I.hok.fresh (Nat.le_refl _)
  exact ⟨.ref _, _, I.laid hk (Nat.le_refl _) (setO_new R), rfl, q _ c hfr hc'⟩
end
end FV
/-! A dict comprehension whose keys are tuples: the layer's own has ints and texts; this one follows it with the other store. -/
namespace FV
open PySem PySem.Spec PyProof.Rows L2
theorem d_dictSetT {X : Cx} {pins : List (Addr × Obj)} {σ : L2.St} {H : Hp} {s : Shared} {E : Value → Shared → Prop} {D b : Addr} {kvs : List (List Key × V)} {k : List Key} {v : V} {u r : Value} {Q : Unit → Shared → Prop} (hu : X.A.units + 1 < cLine) (I : L2.Inv X pins σ H s) (hD : H D = some (.dT kvs)) (hz : kvs.length < sizeLine)
    (eb : H b = some (.tup (k.map kV))) (ry : RelV (.ref b) u) (rv : RelV v r) (h : ∀ s', L2.Inv X pins σ (upd H D (.dT (putK kvs k v))) s' → Q () s') : wpAny (model X.prog X.w) X.A (dictSet D u r) Q E s := by
  cases (show u = Value.ref b from ry)
  obtain ⟨z, hd, xs, rel, dd⟩ := dt_of I.hok hD
  have hzx : xs.length ≤ sizeLine := by rw [← Paired.length rel]; exact z
  have hl : (putK kvs k v).length ≤ sizeLine := by have := length_putK kvs k v; omega
  refine wpAny_dictSet_heap (hsz := hzx) (show X.A.units < cLine by omega) (key_of I.hok eb) dd fun h' dd' hs => h _ ?_
  obtain ⟨q, es, ep, hq, h2, h3, h4, _, h5⟩ := dd'
  refine d_write I (by rw [hD]; exact True.intro) hs ⟨q, hq⟩ ⟨hl, hd, _, (rel.put k eb rv).keeps fun c ys ec => ?_, q, es, ep, hq, h2, h3, h4, h5⟩
  rw [upd_ne (ne_of ec hD (fun z => nomatch z))]
  exact ec
section
variable {X : Cx}
def tDcT (wi : TI) (g : TG) (tt : TT) (tk tv : TE) (vs : List Nat) : TE := fun σ H Q => wi σ H fun J H1 => ∀ D, H1 D = none → ∃ W : Nat → Nat → Hp → Prop, (∃ m, W 0 m (upd H1 D (.dT []))) ∧ ∀ i m H, W i m H →
  (J.stop i H ∧ Q (.ref D) H) ∨ (J.go i H ∧ ∃ Nx : Hp → Prop, (∀ H', Nx H' → ∃ m', m' < m ∧ W (i + 1) m' H') ∧ ∀ x H', J.yld i H x H' → g x (wipe σ vs) H' fun σ2 H2 => wipe σ2 vs = wipe σ vs ∧ tt σ2 H2 fun b H3 =>
    if b = true then tk σ2 H3 fun y H4 => tv σ2 H4 fun z H5 => ∃ kvs k b, y = .ref b ∧ H5 b = some (.tup (k.map kV)) ∧ H5 D = some (.dT kvs) ∧ kvs.length < sizeLine ∧ Nx (upd H5 D (.dT (putK kvs k z))) else Nx H3)
theorem dcT_core {pins : List (Addr × Obj)} {s : Shared} {σ : L2.St} {H : Hp} {Q : VK} {kx vx tg iter : Expr} {ifs : List Expr} {scope : Scope} {own : List (Str × Nat)} {pos pos' : Pos} {wi : TI} {g : TG} {tt : TT} {tk tv : TE} {use : Option (Value → Sem Unit)} {Qf : Value → Shared → Prop}
    (hu : X.A.units + 1 < cLine) (hc : X.calm = true) (hN : X.N.Nodup) (I : L2.Inv X pins σ H s) (hi : PI X tg iter wi) (ok : BlkOk X.N X.env.scope scope own)
    (hg : ∀ (s : Shared) (H : Hp) (C : Addr) (cl : List (Str × Addr)) (fp : List Addr), PG (X.blk s H scope (compEnvC scope cl C X.env) fp) tg g) (ht : ∀ (s : Shared) (H : Hp) (C : Addr) (cl : List (Str × Addr)) (fp : List Addr), PTs (X.blk s H scope (compEnvC scope cl C X.env) fp) ifs tt)
    (hk : ∀ (s : Shared) (H : Hp) (C : Addr) (cl : List (Str × Addr)) (fp : List Addr), PE (X.blk s H scope (compEnvC scope cl C X.env) fp) kx tk)
    (he : ∀ (s : Shared) (H : Hp) (C : Addr) (cl : List (Str × Addr)) (fp : List Addr), PE (X.blk s H scope (compEnvC scope cl C X.env) fp) vx tv) (hs : ∀ x, foldedSetIterable iter X.env x = pure x)
    (h : tDcT wi g tt tk tv (own.map (·.2)) σ H Q)
    (hRR : ∀ D C s' m H', L2.Inv X pins σ H' s' → Q (.ref D) H' → s'.heap.Ns C m → FpOk X pins H' C → compPost (model X.prog X.w) X.A X.xe use Qf (.ref D) C (.ok .next) s') :
    wpAny (model X.prog X.w) X.A (comprehension (.DictComp kx vx [⟨tg, iter, ifs, 0⟩] scope pos) scope X.env pos' newDict false (eval iter X.env) use) Qf X.xe s := by
  have hfree : ∀ y ∈ scope.names, y.2 = .free → ∃ c, X.env.cells.lookup y.1 = some c := fun y hy e => by
    rcases ok.free y hy e with k | k
    · exact I.ok.has _ (.inl k)
    · exact I.ok.has _ (.inr k)
  refine wpAny_comprehension_free (use := use) rfl hs (closure_ok hfree) ok.kind (fun y hy e => by rw [ok.uniq y hy, e])
    (thn (hi.run pins s σ H _ I h) fun xv s1 hx => thn hx fun itv s2 h2 => ?_)
  obtain ⟨it, fp, tn, J, H2, e, I2, T, st2, f2, q⟩ := h2
  subst e
  refine wpAny_newObj_type (newEnv_comp ?_)
  generalize hD : s2.heap.objs.size = D
  have hDn : H2 D = none := I2.hok.fresh (Nat.le_of_eq hD)
  obtain ⟨W, ⟨m0, w0⟩, turn⟩ := q D hDn
  -- the new list
  generalize hs3 : ({ s2 with heap := s2.heap.push { cls := .type "dict", data := .dict #[] } } : Shared) = s3
  have I3 : L2.Inv X pins σ (upd H2 D (.dT [])) s3 := by
    rw [← hs3]
    refine I2.laid (t' := s2.toks) (fun b o e => Heap.get?_push_of_some _ e) (Nat.le_of_eq hD) ?_
    rw [← hD]
    exact dt_empty s2.heap I2.big
  have h3 : s3.heap = s2.heap.push { cls := .type "dict", data := .dict #[] } := by rw [← hs3]
  have sz : ∀ b ∈ fp, b < s2.heap.objs.size := fun b hb => by
    obtain ⟨o, e, _⟩ := T.obj _ _ st2 b hb
    exact Heap.lt_size e
  have f3 : ∀ b ∈ fp, FpOk X pins (upd H2 D (.dT [])) b ∧ b < s3.heap.objs.size := fun b hb => by
    have hlt := sz b hb
    refine ⟨⟨?_, (f2 b hb).2⟩, by rw [h3, Heap.size_push]; exact Nat.lt_succ_of_lt hlt⟩
    rw [upd_ne (by rw [← hD]; exact Nat.ne_of_lt hlt)]
    exact (f2 b hb).1
  have st3 : tn 0 s3.heap := T.keep _ _ _ st2 fun b _ o e => by rw [h3]; exact Heap.get?_push_of_some _ e
  have I4 := block_start I3 ok hN f3
  have pg := hg s3 (upd H2 D (.dT [])) s3.heap.objs.size (cellsFrom (s3.heap.objs.size + 1) scope.names (cloFrom X.env.cells scope.names [])) fp
  have pt := ht s3 (upd H2 D (.dT [])) s3.heap.objs.size (cellsFrom (s3.heap.objs.size + 1) scope.names (cloFrom X.env.cells scope.names [])) fp
  have pk := hk s3 (upd H2 D (.dT [])) s3.heap.objs.size (cellsFrom (s3.heap.objs.size + 1) scope.names (cloFrom X.env.cells scope.names [])) fp
  have pe := he s3 (upd H2 D (.dT [])) s3.heap.objs.size (cellsFrom (s3.heap.objs.size + 1) scope.names (cloFrom X.env.cells scope.names [])) fp
  show codeAny _ _ (.compStart (.DictComp kx vx [⟨tg, iter, ifs, 0⟩] scope pos) 0 (.ref it) (.ref D) (compEnvC scope (cellsFrom (s3.heap.objs.size + 1) scope.names (cloFrom X.env.cells scope.names [])) s3.heap.objs.size X.env)) (compPost (model X.prog X.w) X.A X.xe use Qf (.ref D) s3.heap.objs.size) { s3 with heap := pushCells (s3.heap.push { cls := .type "dict", data := .dict #[] }) scope.names }
  have nfp : ∀ b ∈ fp, (upd H2 D (.dT [])) b = none := fun b hb => (f3 b hb).1.1
  generalize hce : compEnvC scope (cellsFrom (s3.heap.objs.size + 1) scope.names (cloFrom X.env.cells scope.names [])) s3.heap.objs.size X.env = ce at I4 pg pt pk pe ⊢
  have cL : ce.locals = s3.heap.objs.size := by subst hce; rfl
  generalize hH3 : upd H2 D (.dT []) = H3 at I3 I4 pg pt pk pe w0 nfp f3
  generalize hs4 : ({ s3 with heap := pushCells (s3.heap.push { cls := .type "dict", data := .dict #[] }) scope.names } : Shared) = s4 at I4 ⊢
  have st4 : tn 0 s4.heap := T.keep _ _ _ st3 fun b _ o e => by rw [← hs4]; exact pushCells_keeps _ _ _ _ (Heap.get?_push_of_some _ e)
  have stat : ∀ {σ' : L2.St} {H' : Hp} {s' : Shared}, L2.Inv (X.blk s3 H3 scope ce fp) [] σ' H' s' → (∀ b ∈ fp, H' b = none) → ∀ b ∈ fp, FpOk (X.blk s3 H3 scope ce fp) [] H' b := fun {σ' H' s'} I' hn b hb =>
    ⟨hn b hb, (I'.ok.exf b hb).1, I'.ok.exfs b hb, .inl hb, fun x c e => (I'.ok.exf b hb).2 x c e, fun p hp => absurd (show p ∈ ([] : List (Addr × Obj)) ++ [] from hp) (by simp)⟩
  have loop : codeAny (model X.prog X.w) X.A (.compLoop (.DictComp kx vx [⟨tg, iter, ifs, 0⟩] scope pos) 0 (.ref it) (.ref D) ce) (compPost (model X.prog X.w) X.A X.xe use Qf (.ref D) s3.heap.objs.size) s4 := by
    refine L2.compLoop_anyD (fun n s' => ∃ i H', L2.Inv (X.blk s3 H3 scope ce fp) [] (wipe σ (own.map (·.2))) H' s' ∧ tn i s'.heap ∧ (∀ b ∈ fp, H' b = none) ∧ W i n H') ?_ m0 ⟨0, H3, I4, st4, nfp, w0⟩
    rintro n s5 ⟨i, H5, I5, st5, n5, w5⟩
    rcases turn i n H5 w5 with ⟨stop, qq⟩ | ⟨go, Nx, hNx, step⟩
    · have td := T.done (X.blk s3 H3 scope ce fp) rfl rfl rfl hc i [] s5 _ H5 (fun _ _ => False) I5 (stat I5 n5) st5 stop
      refine thnF td fun r s6 ⟨hr, I6⟩ => ?_
      subst hr
      -- back in the def's context
      have I7 : L2.Inv X pins σ H5 s6 := I3.call' (ch := fp) I6.os I6.base I6.hok I6.bare fun b hb => ⟨(f3 b hb).1.2.2.2.1, (f3 b hb).1.2.1, (f3 b hb).1.2.2.2.2.1, (f3 b hb).1.2.2.2.2.2⟩
      have nC : H5 s3.heap.objs.size = none := by
        have z : H5 ce.locals = none := I6.free
        rw [cL] at z
        exact z
      obtain ⟨m, hn, _⟩ := I6.loc
      have hn : s6.heap.Ns ce.locals m := hn
      rw [cL] at hn
      exact hRR D s3.heap.objs.size s6 m H5 I7 qq hn (I3.fpOk (Nat.le_refl _) nC)
    · have ti := T.item (X.blk s3 H3 scope ce fp) rfl rfl rfl hc i [] s5 _ H5 (fun _ _ => False) I5 (stat I5 n5) st5 go
      refine thnF ti fun r s6 ⟨u, hr, h6⟩ => ?_
      subst hr
      refine thnF h6 fun _ s7 ⟨x, H7, I7, r7, y7, st7, n7⟩ => ?_
      have I7' := I7.pinned (stat I7 n7) (T.obj _ _ st7)
      refine thnF (pg.run _ s7 _ H7 x u _ I7' r7 (step x H7 y7)) fun _ s8 ⟨σ8, H8, I8, hw8, q8⟩ => ?_
      refine thnF (pt.run _ s8 σ8 H8 _ I8 q8) fun b s9 ⟨H9, I9, q9⟩ => ?_
      -- the turn's end
      have fin : ∀ {s' : Shared} {H' : Hp}, L2.Inv (X.blk s3 H3 scope ce fp) ([] ++ pinsAt fp s7.heap) σ8 H' s' → Nx H' → ∃ m, m < n ∧ ∃ i H', L2.Inv (X.blk s3 H3 scope ce fp) [] (wipe σ (own.map (·.2))) H' s' ∧ tn i s'.heap ∧ (∀ b ∈ fp, H' b = none) ∧ W i m H' := fun {s' H'} I' nx => by
        obtain ⟨m', hm, w'⟩ := hNx H' nx
        have pin' : ∀ b ∈ fp, ∀ o, s7.heap.get? b = some o → s'.heap.get? b = some o ∧ H' b = none := fun b hb o e =>
          let z := I'.pin (b, o) (List.mem_append_right _ (List.mem_append_right _ (mem_pinsAt hb e)))
          ⟨z.1, z.2.1⟩
        have hl : (wipe σ (own.map (·.2))).length = σ8.length := by rw [← hw8, wipe_length]
        refine ⟨m', hm, i + 1, H', (I'.unpinned (pins := [])).weak hl (fun j v e => ?_), T.keep _ _ _ st7 fun b hb o e => (pin' b hb o e).1, fun b hb => ?_, w'⟩
        · rw [← hw8] at e
          exact (wipe_some e).1
        · obtain ⟨o, e, _⟩ := T.obj _ _ st7 b hb
          exact (pin' b hb o e).2
      cases b with
      | false =>
        simp only [Bool.false_eq_true, if_false] at q9 ⊢
        exact fin I9 q9
      | true =>
        simp only [if_true] at q9 ⊢
        refine thnF (pk.run _ s9 σ8 H9 _ I9 q9) fun z s10 ⟨yk, H10, I10, r10, q10⟩ => ?_
        refine thnF (pe.run _ s10 σ8 H10 _ I10 q10) fun z2 s11 ⟨yv, H11, I11, r11, kvs, k, b, ek, eb, hD11, hz11, nx⟩ => ?_
        subst ek
        exact d_dictSetT (X := X.blk s3 H3 scope ce fp) hu I11 hD11 hz11 eb r10 r11 fun s12 I12 => fin I12 nx
  exact codeAny_compStart_dict loop (T.self X.A 0 _ _ _ st4 loop)
/-- as a value -/
theorem pe_dcT {kx vx tg iter : Expr} {ifs : List Expr} {scope : Scope} {own : List (Str × Nat)} {pos : Pos} {wi : TI} {g : TG} {tt : TT} {tk tv : TE} (hu : X.A.units + 1 < cLine) (hc : X.calm = true) (hN : X.N.Nodup) (hi : PI X tg iter wi) (ok : BlkOk X.N X.env.scope scope own)
    (hg : ∀ (s : Shared) (H : Hp) (C : Addr) (cl : List (Str × Addr)) (fp : List Addr), PG (X.blk s H scope (compEnvC scope cl C X.env) fp) tg g) (ht : ∀ (s : Shared) (H : Hp) (C : Addr) (cl : List (Str × Addr)) (fp : List Addr), PTs (X.blk s H scope (compEnvC scope cl C X.env) fp) ifs tt)
    (hk : ∀ (s : Shared) (H : Hp) (C : Addr) (cl : List (Str × Addr)) (fp : List Addr), PE (X.blk s H scope (compEnvC scope cl C X.env) fp) kx tk)
    (he : ∀ (s : Shared) (H : Hp) (C : Addr) (cl : List (Str × Addr)) (fp : List Addr), PE (X.blk s H scope (compEnvC scope cl C X.env) fp) vx tv) (hs : ∀ x, foldedSetIterable iter X.env x = pure x := by intro _; rfl) :
    PE X (.DictComp kx vx [⟨tg, iter, ifs, 0⟩] scope pos) (tDcT wi g tt tk tv (own.map (·.2))) := by
  refine ⟨fun pins s σ H Q I h => ?_⟩
  rw [arm_eval_DictComp]
  refine dcT_core hu hc hN I hi ok hg ht hk he hs h fun D C s' m H' I' q hn f => ⟨m, hn, fun h'' sb => ?_⟩
  obtain ⟨f0, f1, f2, f3, f4, f5⟩ := f
  exact ⟨.ref D, H', I'.turned (t' := s'.toks) (fun b o hb e => (sb.2 b hb).trans e) f0 f1 f3 f4 f5, rfl, q⟩
end
end FV
/-! A tuple made from a list and known from then on (its record has no dict), so that its methods may be called. -/
namespace FV
open PySem PySem.Spec PyProof.Rows L2
def TupX (H : Hp) (a : Addr) (ys : List V) : Prop := ∃ o : Obj, H a = some (.frz o (.tup ys)) ∧ o.dict = none
def rTupF (K : PySem.W.Frag) : List V → Hp → VK → Prop := fun xs H Q => ∃ p ys, xs = [.ref p] ∧ SqL K H p ys ∧ ∀ (l : Addr) (o : Obj), H l = none → o.dict = none → Q (.ref l) (upd H l (.frz o (.tup ys)))
theorem call_tupleF {X : Cx} : CallR X (.type "tuple") (rTupF X.K) := by
  intro pins s σ H xs us Q I r h
  obtain ⟨p, ys, rfl, hq, q⟩ := h
  obtain ⟨u, rfl, rx⟩ := vals1 r
  cases rx
  obtain ⟨its, r', pl, hz⟩ := I.list hq
  have hlen := r'.length
  refine call_tuple_list pl.isList (fun h' kp => ?_) (by simp only [List.size_toArray] <;> omega)
  have I1 : L2.Inv X pins σ H { s with heap := h' } := I.kept (t' := s.toks) kp
  have I2 : L2.Inv X pins σ (upd H h'.objs.size (.frz { cls := .type "tuple", data := .seq its.toArray } (.tup ys))) { s with heap := h'.push { cls := .type "tuple", data := .seq its.toArray } } :=
    I1.laid (t' := s.toks) (fun b o e => Heap.get?_push_of_some _ e) (Nat.le_refl _) ⟨Heap.get?_push_size _ rfl, (show ObjOk X.prog X.w _ _ _ (.tup ys) from ⟨hz, its, r', IsTup.new _ _⟩)⟩
  exact ⟨.ref h'.objs.size, _, I2, rfl, q _ _ (I1.hok.fresh (Nat.le_refl _)) rfl⟩
def leafBmF (rm : V → List V → Hp → VK → Prop) (tr : TA) (σ : L2.St) (Q : VK) : V → Hp → Prop := fun x H1 => (∃ a ys, x = .ref a ∧ TupX H1 a ys) ∧ tr σ H1 fun xs H2 => rm x xs H2 Q
def tBMF (rm : V → List V → Hp → VK → Prop) (to : TE) (tr : TA) : TE := fun σ H Q => to σ H (leafBmF rm tr σ Q)
section
variable {X : Cx} {o e : Expr} {es : List Expr} {to : TE} {t : TA} {name : Str} {apos cpos : Pos} {id : String} {rm : V → List V → Hp → VK → Prop}
theorem pe_bmF (pa : PlainAttrs "tuple") (slot : Slot "tuple" name id) (hty : typeOf (.builtin id) = pure (.type "method_descriptor")) (hm : MtR X id rm) (ho : PE X o to) (ha : PA X (e :: es) t)
    (hbase : attributeBase o name X.env (eval o X.env) = eval o X.env := by rfl)
    (hfew : ((backTo cpos (starEach (e :: es) X.env)).all (fun x => !x.1) && (backToKw cpos (keywordEach [] X.env)).all (fun x => x.1.isSome)
      && decide ((e :: es).length + ([] : List Keyword).length + (if ([] : List Keyword).isEmpty then 0 else 1) < 30)) = true := by rfl)
    (hline : (apos.endLine == cpos.line) = true := by rfl) (hs : starEach (e :: es) X.env = (false, eval e X.env) :: starEach es X.env := by rfl) (hplain : (backTo cpos (starEach es X.env)).any (·.1) = false := by rfl) :
    PE X (.Call (.Attribute o name apos) (e :: es) [] cpos) (tBMF rm to t) := by
  refine ⟨fun pins s σ H Q I h => ?_⟩
  refine wpAny_Call_method_late hbase hfew hline rfl (thn (ho.run pins s σ H _ I h) fun v s1 ⟨x, H1, I1, r1, ⟨a, ys, ex, ob, hf, hd⟩, q1⟩ => ?_)
  subst ex
  cases r1
  obtain ⟨eo, z, its, rv, o2, e2, c2, n2, d2⟩ : ObjOk X.prog X.w H1 s1.heap a (.frz ob (.tup ys)) := I1.hok a _ hf
  rw [eo] at e2
  cases e2
  refine ⟨"tuple", id, pa, slot, hty, ⟨ob, eo, c2⟩, fun b eb => by cases eb; exact ⟨ob, eo, hd⟩, ?_⟩
  have hA := ha.run cpos pins s1 σ H1 _ I1 q1
  rw [hs] at hA ⊢
  refine Calls.callWith_builtin (by show (false || (backTo cpos (starEach es X.env)).any (·.1)) = false; rw [hplain] <;> rfl) (Calls.evalArgs_plain ?_)
  exact thn hA fun us s2 ⟨vs, H2, I2, r2, q2⟩ => hm pins s2 σ H2 (.ref a) vs _ us Q I2 rfl r2 q2
end
theorem TupX.seq {K : PySem.W.Frag} {H : Hp} {a : Addr} {ys : List V} (h : TupX H a ys) : SqT K H a ys := by
  obtain ⟨o, e, _⟩ := h
  exact Or.inl (Or.inr ⟨o, e⟩)
end FV
/-! Steps of a reading: one lemma a combinator, the rest behind it; walks by turns. -/
namespace FV
open PySem PySem.Spec PyProof.Rows L2 Evl

abbrev nv (n : Nat) : V := .int (n : Int)
abbrev SS := L2.St
/-! ### small facts -/
theorem ex_ap {A B : Hp} {a : Addr} {o : HO} (e : Ex A B) (h : A a = some o) : B a = some o := e a o h
theorem new_ne {H : Hp} {p a : Addr} {o : HO} (hp : H p = none) (h : H a = some o) : a ≠ p := ne_of_none h hp
theorem upd_old {H : Hp} {p a : Addr} {o u : HO} (hp : H p = none) (h : H a = some u) : upd H p o a = some u := by rw [upd_ne (ne_of_none h hp)]; exact h
theorem ite_t {b : Bool} {A B : Prop} (h : b = true) (k : A) : if b = true then A else B := by rw [if_pos h]; exact k
theorem ite_f {b : Bool} {A B : Prop} (h : b = false) (k : B) : if b = true then A else B := by rw [if_neg (by rw [h]; exact Bool.false_ne_true)]; exact k
theorem dI {a b : Int} (h : a = b) : decide (V.int a = V.int b) = true := decide_eq_true (by rw [h])
theorem dN {a b : Int} (h : a ≠ b) : decide (V.int a = V.int b) = false := decide_eq_false fun e => h (by injection e)
theorem decI (a b : Int) : decide (V.int a = V.int b) = decide (a = b) := by
  by_cases h : a = b
  · rw [dI h, decide_eq_true h]
  · rw [dN h, decide_eq_false h]
theorem decB (a b : Bool) : decide (V.bl a = V.bl b) = (a == b) := dec_bl
theorem sz100 {n : Nat} (h : n ≤ 100000) : n ≤ sizeLine := Nat.le_trans h (by decide)

/-! ### a promise's ends -/
def RetT (xs : List V) (H : Hp) (Q : VK) : Prop := ∀ p H2, Ex H H2 → H2 p = some (.tup xs) → Q (.ref p) H2
theorem RetT.mono {xs : List V} {H H' : Hp} {Q : VK} (e : Ex H H') (k : RetT xs H Q) : RetT xs H' Q := fun p H2 e2 h => k p H2 (e.trans e2) h
theorem RetV.mono {v : V} {H H' : Hp} {Q : VK} (e : Ex H H') (k : RetV v H Q) : RetV v H' Q := fun H2 e2 => k H2 (e.trans e2)
theorem RetL.mono {xs : List V} {H H' : Hp} {Q : VK} (e : Ex H H') (k : RetL xs H Q) : RetL xs H' Q := fun p H2 hp e2 h => k p H2 (fresh_back e hp) (e.trans e2) h

/-! ### expressions -/
section
variable {K : PySem.W.Frag} {σ : SS} {H : Hp} {Q : VK} {ta tb tc te : TE} {t u : TT} {tr : TA} {v x y : V} {r : R2} {QB : Bool → Hp → Prop} {QA : List V → Hp → Prop}
theorem x_var {i : Nat} (h : σ[i]? = some (some v)) (k : Q v H) : tVar i σ H Q := ⟨v, h, k⟩
theorem x_c (k : Q v H) : tC v σ H Q := k
theorem x_op (k : ta σ H fun x H1 => tb σ H1 fun y H2 => r x y H2 Q) : tOp r ta tb σ H Q := k
theorem x_un {r : V → Hp → VK → Prop} (k : ta σ H fun x H1 => r x H1 Q) : tUn r ta σ H Q := k
theorem x_nil (k : QA [] H) : tNil σ H QA := k
theorem x_cons (k : ta σ H fun x H1 => tr σ H1 fun xs H2 => QA (x :: xs) H2) : tCons ta tr σ H QA := k
theorem x_cb {r : List V → Hp → VK → Prop} (k : tr σ H fun vs H1 => r vs H1 Q) : tCB r tr σ H Q := k
theorem x_call {sp : Sp} {dvs : List V} {E : XK} (k : tr σ H fun vs H1 => sp (vs ++ dvs) H1 Q E) : tCall sp dvs E tr σ H Q := k
def rFld (K : PySem.W.Frag) (f : Str) : V → Hp → VK → Prop := fun x H1 Q => ∃ a C dx fs v, x = .ref a ∧ H1 a = some (.ins C dx fs) ∧ Cls K C ∧ NoAttr K C f ∧ fs.lookup f = some v ∧ Q v H1
theorem x_fld {f : Str} (k : ta σ H fun x H1 => rFld K f x H1 Q) : tFld K ta f σ H Q := k
theorem r_fld {f : Str} {a C dx : Addr} {fs : List (Str × V)} (h : H a = some (.ins C dx fs)) (hc : Cls K C) (hn : NoAttr K C f) (hl : fs.lookup f = some v) (k : Q v H) : rFld K f (.ref a) H Q := ⟨a, C, dx, fs, v, rfl, h, hc, hn, hl, k⟩
/-- a new tuple, a new list -/
theorem x_tup (k : tr σ H fun xs H1 => xs.length ≤ 100000 ∧ ∀ p H2, H1 p = none → Ex H1 H2 → H2 p = some (.tup xs) → Q (.ref p) H2) (mono : ∀ Q1 Q2 : List V → Hp → Prop, (∀ xs H1, Q1 xs H1 → Q2 xs H1) → tr σ H Q1 → tr σ H Q2) : tTup tr σ H Q :=
  mono _ _ (fun xs H1 q => ⟨sz100 q.1, fun p hp => q.2 p _ hp (Ex.new hp) upd_same⟩) k
theorem x_lst (k : tr σ H fun xs H1 => xs.length ≤ 100000 ∧ ∀ p H2, H1 p = none → Ex H1 H2 → H2 p = some (.lst xs) → Q (.ref p) H2) (mono : ∀ Q1 Q2 : List V → Hp → Prop, (∀ xs H1, Q1 xs H1 → Q2 xs H1) → tr σ H Q1 → tr σ H Q2) : tLst tr σ H Q :=
  mono _ _ (fun xs H1 q => ⟨sz100 q.1, fun p hp => q.2 p _ hp (Ex.new hp) upd_same⟩) k
theorem x_tup' (k : tr σ H fun xs H1 => xs.length ≤ sizeLine ∧ ∀ p, H1 p = none → Q (.ref p) (upd H1 p (.tup xs))) : tTup tr σ H Q := k
theorem x_lst' (k : tr σ H fun xs H1 => xs.length ≤ sizeLine ∧ ∀ p, H1 p = none → Q (.ref p) (upd H1 p (.lst xs))) : tLst tr σ H Q := k
theorem x_chain {r' : R2} (k : ta σ H fun x H1 => tb σ H1 fun y H2 => r x y H2 fun z H3 => ∃ k, z = .bl k ∧ (if k = true then tc σ H3 fun w' H4 => r' y w' H4 Q else Q (.bl false) H3)) : tChain r r' ta tb tc σ H Q := k
theorem x_bl {b : Bool} {p : Bool → Prop} (k : p b) : ∃ c, V.bl b = V.bl c ∧ p c := ⟨b, rfl, k⟩
theorem x_andV (k : ta σ H fun x H1 => ∃ c, x = .bl c ∧ if c = true then tb σ H1 Q else Q (.bl false) H1) : tAndV ta tb σ H Q := k
theorem x_orV (k : ta σ H fun x H1 => ∃ c, x = .bl c ∧ if c = true then Q (.bl true) H1 else tb σ H1 Q) : tOrV ta tb σ H Q := k
theorem x_notV (k : ta σ H fun x H1 => ∃ c, x = .bl c ∧ Q (.bl (!c)) H1) : tNotV ta σ H Q := k
theorem x_if (k : t σ H fun c H1 => if c = true then ta σ H1 Q else tb σ H1 Q) : tIf t ta tb σ H Q := k
theorem x_sl {r : V → Option Int → Option Int → Hp → VK → Prop} {tl th : TO} (k : te σ H fun x H1 => tl σ H1 fun l H2 => th σ H2 fun u H3 => r x l u H3 Q) : tSl r te tl th σ H Q := k
theorem x_none {QO : Option Int → Hp → Prop} (k : QO none H) : tNoPart σ H QO := k
theorem x_part {QO : Option Int → Hp → Prop} (k : te σ H fun x H1 => ∃ i, x = .int i ∧ QO (some i) H1) : tPart te σ H QO := k
theorem x_pI {i : Int} {p : Int → Prop} (k : p i) : ∃ j, V.int i = V.int j ∧ p j := ⟨i, rfl, k⟩
theorem x_dget (k : ta σ H fun x H1 => tb σ H1 fun y H2 => ∃ a v, x = .ref a ∧ DGet H2 a y (some v) ∧ Q v H2) : tDGet ta tb σ H Q := k
theorem x_din (k : tb σ H fun y H1 => ta σ H1 fun x H2 => ∃ a o, x = .ref a ∧ DGet H2 a y o ∧ Q (.bl o.isSome) H2) : tDIn tb ta σ H Q := k
theorem x_dnotin (k : tb σ H fun y H1 => ta σ H1 fun x H2 => ∃ a o, x = .ref a ∧ DGet H2 a y o ∧ Q (.bl (!o.isSome)) H2) : tDNotIn tb ta σ H Q := k
theorem x_bm {T : String} {rm : V → List V → Hp → VK → Prop} (k : ta σ H fun x H1 => tyV K T x H1 ∧ tr σ H1 fun xs H2 => rm x xs H2 Q) : tBM K T rm ta tr σ H Q := k
theorem x_bm0 {T : String} {rm : V → List V → Hp → VK → Prop} (k : ta σ H fun x H1 => tyV K T x H1 ∧ rm x [] H1 Q) : tBM0 K T rm ta σ H Q := k
theorem x_frz (k : ta σ H fun v H1 => ∃ d u, v = .ref d ∧ H1 d = some u ∧ Mut (some u) ∧ ∀ od, Q v (upd H1 d (.frz od u))) : tFrz ta σ H Q := k
/-! ### tests -/
theorem x_test (k : te σ H fun x H1 => ∃ c, x = .bl c ∧ QB c H1) : tTest te σ H QB := k
theorem x_B (k : te σ H fun x H1 => ∃ c, x = .bl c ∧ QB c H1) : tB te σ H QB := k
theorem x_and (k : t σ H fun c H1 => if c = true then u σ H1 QB else QB false H1) : tAnd t u σ H QB := k
theorem x_or (k : t σ H fun c H1 => if c = true then QB true H1 else u σ H1 QB) : tOr t u σ H QB := k
theorem x_not (k : t σ H fun c H1 => QB (!c) H1) : tNot t σ H QB := k
theorem x_yes (k : QB true H) : tYes σ H QB := k
/-! ### by values -/
theorem r_I0 {g : Int → Int → V} {i j : Int} (k : Q (g i j) H) : rI0 g (.int i) (.int j) H Q := ⟨i, j, rfl, rfl, k⟩
theorem r_I {C : Int → Int → Prop} {g : Int → Int → V} {i j : Int} (c : C i j) (k : Q (g i j) H) : rI C g (.int i) (.int j) H Q := ⟨i, j, rfl, rfl, c, k⟩
theorem r_neg {g : Int → V} {i : Int} (k : Q (g i) H) : rU g (.int i) H Q := ⟨i, rfl, k⟩
theorem r_eq (h : scal x y = true) (k : Q (.bl (decide (x = y))) H) : rEq x y H Q := ⟨h, k⟩
theorem r_ne (h : scal x y = true) (k : Q (.bl (!decide (x = y))) H) : rNe x y H Q := ⟨h, k⟩
theorem r_ixT {p : Addr} {xs : List V} {i : Int} (h : SqT K H p xs) (hi : atI xs i = some v) (k : Q v H) : rIxT K (.ref p) (.int i) H Q := ⟨p, xs, i, v, rfl, rfl, h, hi, k⟩
theorem r_ixL {p : Addr} {xs : List V} {i : Int} (h : SqL K H p xs) (hi : atI xs i = some v) (k : Q v H) : rIxL K (.ref p) (.int i) H Q := ⟨p, xs, i, v, rfl, rfl, h, hi, k⟩
theorem r_inT {neg : Bool} {p : Addr} {xs : List V} (h : SqT K H p xs) (hx : flatV x = true) (hf : xs.all flatV = true) (k : Q (.bl (if neg then !inV x xs else inV x xs)) H) : rIn K neg x (.ref p) H Q := ⟨p, xs, rfl, .inr h, hx, hf, k⟩
theorem r_inL {neg : Bool} {p : Addr} {xs : List V} (h : SqL K H p xs) (hx : flatV x = true) (hf : xs.all flatV = true) (k : Q (.bl (if neg then !inV x xs else inV x xs)) H) : rIn K neg x (.ref p) H Q := ⟨p, xs, rfl, .inl h, hx, hf, k⟩
/-! ### statements -/
variable {D : Ends} {ts tz : TS} {g : TG}
theorem x_seq (k : ts { D with nx := tz D } σ H) : tSeq ts tz D σ H := k
theorem x_asg {i : Nat} (k : te σ H fun v H1 => D.nx (σ.set i (some v)) H1) : tAsg te (gName i) D σ H := k
theorem x_asgG (k : te σ H fun v H1 => g v σ H1 D.nx) : tAsg te g D σ H := k
theorem x_ret (k : te σ H D.rt) : tRet te D σ H := k
theorem x_drop (k : te σ H fun _ H1 => D.nx σ H1) : tDrop te D σ H := k
theorem x_ifS (k : t σ H fun b H1 => if b = true then ts D σ H1 else tz D σ H1) : tIfS t ts tz D σ H := k
theorem x_next (k : D.nx σ H) : tNext D σ H := k
theorem x_aug {i : Nat} {f : Int → Int → Int} {a : Int} (h : σ[i]? = some (some (.int a))) (k : te σ H fun y H1 => ∃ b, y = .int b ∧ D.nx (σ.set i (some (.int (f a b)))) H1) (mono : ∀ Q1 Q2 : VK, (∀ v H1, Q1 v H1 → Q2 v H1) → te σ H Q1 → te σ H Q2) : tAug i te (ipI f) D σ H :=
  ⟨_, h, mono _ _ (fun v H1 ⟨b, e, q⟩ => ⟨a, b, rfl, e, q⟩) k⟩
theorem x_par {i j : Nat} {ta : TA} (k : ta σ H fun vs H1 => ∃ v w, vs = [v, w] ∧ D.nx ((σ.set i (some v)).set j (some w)) H1) : tPar i j ta D σ H := k
theorem x_for {wi : TI} (k : wi σ H fun J H1 => ∃ W : Nat → Nat → SS → Hp → Prop, (∃ m, W 0 m σ H1) ∧ ∀ i m σ H, W i m σ H →
    (J.stop i H ∧ D.nx σ H) ∨ (J.go i H ∧ ∃ N : SS → Hp → Prop, (∀ σ' H', N σ' H' → ∃ m', m' < m ∧ W (i + 1) m' σ' H') ∧ ∀ x H', J.yld i H x H' → g x σ H' fun σ2 H2 => ts { D with nx := N, ct := N, bk := D.nx } σ2 H2)) : tFor wi g ts D σ H := k
theorem x_sfld {f : Str} (k : tb σ H fun y H1 => ta σ H1 fun x H2 => ∃ a C dx fs, x = .ref a ∧ H2 a = some (.ins C dx fs) ∧ Cls K C ∧ NoAttr K C f ∧ fs.length < 1000 ∧ D.nx σ (upd H2 a (.ins C dx (putF f y fs)))) : sFld K ta tb f D σ H := k
theorem g_name {i : Nat} {QS : SS → Hp → Prop} (k : QS (σ.set i (some v)) H) : gName i v σ H QS := k
end

/-! ### walks by turns: n of them, the slots behind a turn's store, whatever is added to the heap -/
def Wlk (J : It) (g : TG) (n : Nat) (st : SS → Nat → SS) (H : Hp) : Prop :=
  ∀ i H', Ex H H' → i ≤ n → (i = n → J.stop i H') ∧ (i < n → J.go i H' ∧ ∀ x H'' σ (Q : SS → Hp → Prop), J.yld i H' x H'' → (∀ H2, Ex H' H2 → Q (st σ i) H2) → g x σ H'' Q)
section
variable {K : PySem.W.Frag} {H : Hp}
theorem wk_list {a : Addr} {xs : List V} {j : Nat} (h : SqL K H a xs) : Wlk (Itl K a) (gName j) xs.length (fun σ i => σ.set j xs[i]?) H := fun i H' e hi => by
  have h' : SqL K H' a xs := ex_l e h
  refine ⟨fun z => ⟨xs, h', Nat.le_of_eq z.symm⟩, fun hlt => ⟨⟨xs, xs[i], h', by simp [hlt]⟩, fun x H'' σ Q y k => ?_⟩⟩
  obtain ⟨rfl, y⟩ := y
  have q := k _ (Ex.refl _)
  simp only [y xs h'] at q
  exact q
theorem wk_tup {a : Addr} {xs : List V} {j : Nat} (h : SqT K H a xs) : Wlk (Itt K a) (gName j) xs.length (fun σ i => σ.set j xs[i]?) H := fun i H' e hi => by
  have h' : SqT K H' a xs := ex_t e h
  refine ⟨fun z => ⟨xs, h', Nat.le_of_eq z.symm⟩, fun hlt => ⟨⟨xs, xs[i], h', by simp [hlt]⟩, fun x H'' σ Q y k => ?_⟩⟩
  obtain ⟨rfl, y⟩ := y
  have q := k _ (Ex.refl _)
  simp only [y xs h'] at q
  exact q
theorem wk_range {lo : Int} {n j : Nat} : Wlk (Itr lo n) (gName j) n (fun σ i => σ.set j (some (.int (lo + i)))) H := fun i H' e hi => by
  refine ⟨fun z => Nat.le_of_eq z.symm, fun hlt => ⟨hlt, fun x H'' σ Q y k => ?_⟩⟩
  obtain ⟨rfl, rfl⟩ := y
  exact k _ (Ex.refl _)
/-- two names from a new pair -/
theorem two_names {j1 j2 : Nat} {T : Addr} {x y : V} {σ : SS} {H1 : Hp} {Q : SS → Hp → Prop} (hT : SqT K H1 T [x, y]) (k : Q ((σ.set j1 (some x)).set j2 (some y)) H1) : gTup K 2 (gCons (gName j1) (gCons (gName j2) gNil)) (.ref T) σ H1 Q :=
  ⟨T, [x, y], rfl, hT, rfl, x, [y], rfl, y, [], rfl, rfl, k⟩
theorem wk_enumL {a : Addr} {xs : List V} {j1 j2 : Nat} (h : SqL K H a xs) : Wlk (Ite K a) (gTup K 2 (gCons (gName j1) (gCons (gName j2) gNil))) xs.length (fun σ i => (σ.set j1 (some (.int (i : Nat)))).set j2 xs[i]?) H := fun i H' e hi => by
  have h' : SqL K H' a xs := ex_l e h
  refine ⟨fun z => ⟨xs, h', Nat.le_of_eq z.symm⟩, fun hlt => ⟨⟨xs, xs[i], h', by simp [hlt]⟩, fun x H'' σ Q y k => ?_⟩⟩
  obtain ⟨T, z, rfl, hT, rfl, hz⟩ := y
  refine two_names (SqT.of upd_same) ?_
  have q := k _ (Ex.new (o := .tup [.int (i : Nat), z]) hT)
  simp only [hz xs h'] at q
  exact q
theorem wk_enumT {a : Addr} {xs : List V} {j1 j2 : Nat} (h : SqT K H a xs) : Wlk (IteT K a) (gTup K 2 (gCons (gName j1) (gCons (gName j2) gNil))) xs.length (fun σ i => (σ.set j1 (some (.int (i : Nat)))).set j2 xs[i]?) H := fun i H' e hi => by
  have h' : SqT K H' a xs := ex_t e h
  refine ⟨fun z => ⟨xs, h', Nat.le_of_eq z.symm⟩, fun hlt => ⟨⟨xs, xs[i], h', by simp [hlt]⟩, fun x H'' σ Q y k => ?_⟩⟩
  obtain ⟨T, z, rfl, hT, rfl, hz⟩ := y
  refine two_names (SqT.of upd_same) ?_
  have q := k _ (Ex.new (o := .tup [.int (i : Nat), z]) hT)
  simp only [hz xs h'] at q
  exact q
theorem wk_zipT {a b : Addr} {xs ys : List V} {j1 j2 : Nat} (h : SqT K H a xs) (h2 : SqT K H b ys) (hl : xs.length = ys.length) :
    Wlk (RZ.ItzT K a b) (gTup K 2 (gCons (gName j1) (gCons (gName j2) gNil))) xs.length (fun σ i => (σ.set j1 xs[i]?).set j2 ys[i]?) H := fun i H' e hi => by
  have h' : SqT K H' a xs := ex_t e h
  have h2' : SqT K H' b ys := ex_t e h2
  refine ⟨fun z => ⟨xs, ys, h', h2', .inl (Nat.le_of_eq z.symm)⟩, fun hlt => ⟨⟨xs, ys, xs[i], ys[i]'(by omega), h', h2', by simp [hlt], List.getElem?_eq_getElem (by omega)⟩, fun x H'' σ Q y k => ?_⟩⟩
  obtain ⟨T, z, z2, rfl, hT, rfl, hz, hz2⟩ := y
  refine two_names (SqT.of upd_same) ?_
  have q := k _ (Ex.new (o := .tup [z, z2]) hT)
  simp only [hz xs h', hz2 ys h2'] at q
  exact q
/-- a tuple of pairs -/
theorem wk_tupP {a : Addr} {n j1 j2 : Nat} {ad : Nat → Addr} {f g : Nat → V} (h : SqT K H a ((List.range n).map fun i => V.ref (ad i))) (hp : ∀ i, i < n → SqT K H (ad i) [f i, g i]) :
    Wlk (Itt K a) (gTup K 2 (gCons (gName j1) (gCons (gName j2) gNil))) n (fun σ i => (σ.set j1 (some (f i))).set j2 (some (g i))) H := fun i H' e hi => by
  have h' := ex_t e h
  refine ⟨fun z => ⟨_, h', by simp; omega⟩, fun hlt => ⟨⟨_, .ref (ad i), h', by simp [hlt]⟩, fun x H'' σ Q y k => ?_⟩⟩
  obtain ⟨rfl, y⟩ := y
  have ex : x = .ref (ad i) := by
    have q := y _ h'
    simp only [List.getElem?_map, List.getElem?_range hlt, Option.map_some, Option.some.injEq] at q
    exact q.symm
  subst ex
  exact two_names (ex_t e (hp i hlt)) (k _ (Ex.refl _))
/-- a list of pairs -/
theorem wk_listP {a : Addr} {n j1 j2 : Nat} {ad : Nat → Addr} {f g : Nat → V} (h : SqL K H a ((List.range n).map fun i => V.ref (ad i))) (hp : ∀ i, i < n → SqT K H (ad i) [f i, g i]) :
    Wlk (Itl K a) (gTup K 2 (gCons (gName j1) (gCons (gName j2) gNil))) n (fun σ i => (σ.set j1 (some (f i))).set j2 (some (g i))) H := fun i H' e hi => by
  have h' := ex_l e h
  refine ⟨fun z => ⟨_, h', by simp; omega⟩, fun hlt => ⟨⟨_, .ref (ad i), h', by simp [hlt]⟩, fun x H'' σ Q y k => ?_⟩⟩
  obtain ⟨rfl, y⟩ := y
  have ex : x = .ref (ad i) := by
    have q := y _ h'
    simp only [List.getElem?_map, List.getElem?_range hlt, Option.map_some, Option.some.injEq] at q
    exact q.symm
  subst ex
  exact two_names (ex_t e (hp i hlt)) (k _ (Ex.refl _))
end

/-! ### everything but D is kept -/
def ExB (D : Addr) (A B : Hp) : Prop := ∀ a o, a ≠ D → A a = some o → B a = some o
theorem ExB.refl (D : Addr) (A : Hp) : ExB D A A := fun _ _ _ h => h
theorem ExB.of {D : Addr} {A B : Hp} (e : Ex A B) : ExB D A B := fun a o _ h => e a o h
theorem ExB.trans {D : Addr} {A B C : Hp} (e : ExB D A B) (f : ExB D B C) : ExB D A C := fun a o n h => f a o n (e a o n h)
theorem ExB.upd {D : Addr} {A : Hp} {o : HO} : ExB D A (upd A D o) := fun a u n h => by rw [upd_ne n]; exact h
theorem ExB.ex {D : Addr} {H A B : Hp} (hD : H D = none) (e : Ex H A) (f : ExB D A B) : Ex H B := fun a o h => f a o (ne_of_none h hD) (e a o h)

theorem given_ext {n : Nat} {f : Nat → Bool} {v v' : Nat → V} (h : ∀ i, i < n → f i = true → v i = v' i) : given n f v = given n f v' := by
  unfold given
  refine List.map_congr_left fun i hi => ?_
  obtain ⟨a, b⟩ := List.mem_filter.mp hi
  exact h i (List.mem_range.mp a) b
def put1 (v : Nat → V) (i : Nat) (x : V) : Nat → V := fun j => if j = i then x else v j
theorem put1_same {v : Nat → V} {i : Nat} {x : V} : put1 v i x i = x := if_pos rfl
theorem put1_lt {v : Nat → V} {i j : Nat} {x : V} (h : j < i) : put1 v i x j = v j := if_neg (Nat.ne_of_lt h)

/-! ### the bodies of comprehensions and loops -/
def LcBody (J : It) (g : TG) (tt : TT) (te : TE) (vs : List Nat) (σ : SS) (H1 : Hp) (Q : VK) : Prop := tLc (fun _ H R => R J H) g tt te vs σ H1 Q
def DcBody (J : It) (g : TG) (tt : TT) (tk tv : TE) (vs : List Nat) (σ : SS) (H1 : Hp) (Q : VK) : Prop := tDc (fun _ H R => R J H) g tt tk tv vs σ H1 Q
def ForBody (J : It) (g : TG) (tb : TS) (D : Ends) (σ : SS) (H1 : Hp) : Prop := tFor (fun _ H R => R J H) g tb D σ H1
section
variable {K : PySem.W.Frag} {wi : TI} {J : It} {g : TG} {tt : TT} {te tk tv ta : TE} {tr : TA} {tb : TS} {D : Ends} {vs : List Nat} {σ : SS} {H : Hp} {Q : VK} {R : It → Hp → Prop} {n : Nat} {st : SS → Nat → SS}
theorem x_lc (k : wi σ H fun J H1 => LcBody J g tt te vs σ H1 Q) : tLc wi g tt te vs σ H Q := k
theorem x_dc (k : wi σ H fun J H1 => DcBody J g tt tk tv vs σ H1 Q) : tDc wi g tt tk tv vs σ H Q := k
theorem x_forB (k : wi σ H fun J H1 => ForBody J g tb D σ H1) : tFor wi g tb D σ H := k
theorem x_iList (k : ta σ H fun x H1 => ∃ a, x = .ref a ∧ (∃ xs, SqL K H1 a xs) ∧ R (Itl K a) H1) : iList K ta σ H R := k
theorem x_iTup (k : ta σ H fun x H1 => ∃ a, x = .ref a ∧ (∃ xs, SqT K H1 a xs) ∧ R (Itt K a) H1) : iTup K ta σ H R := k
theorem x_iRng1 (k : tr σ H fun vs H1 => ∃ j : Int, vs = [.int j] ∧ -(2 ^ 62) ≤ j ∧ j < 2 ^ 62 ∧ R (Itr 0 j.toNat) H1) : iRng1 tr σ H R := k
theorem x_iRng2 (k : tr σ H fun vs H1 => ∃ i j : Int, vs = [.int i, .int j] ∧ (-(2 ^ 62) ≤ i ∧ i < 2 ^ 62 ∧ -(2 ^ 62) ≤ j ∧ j < 2 ^ 62) ∧ R (Itr i (j - i).toNat) H1) : iRng2 tr σ H R := k
/-- a list comprehension: what each element is, whatever is added or done to the list meanwhile -/
theorem lc_r (W : Wlk J g n st H) (hn : n ≤ 50000) (P : Addr → Nat → V → Hp → Prop) (f : Nat → Bool) (hP : ∀ D i v A B, ExB D A B → P D i v A → P D i v B)
    (hw : ∀ i, i < n → wipe (st (wipe σ vs) i) vs = wipe σ vs) (ht : ∀ i, i < n → EvT tt (st (wipe σ vs) i) H (f i))
    (he : ∀ i, i < n → f i = true → ∀ D Ha, H D = none → Ex H Ha → (∃ xs, Ha D = some (.lst xs)) → ∀ Q' : VK, (∀ v H2, Ex Ha H2 → P D i v H2 → Q' v H2) → te (st (wipe σ vs) i) Ha Q')
    (k : ∀ p H2 v, H p = none → Ex H H2 → H2 p = some (.lst (given n f v)) → (∀ i, i < n → f i = true → P p i (v i) H2) → Q (.ref p) H2) : LcBody J g tt te vs σ H Q := by
  intro D hD
  let Pv : Nat → Hp → Prop := fun i H' => Ex H H' ∧ ∃ v, H' D = some (.lst (given i f v)) ∧ ∀ j, j < i → f j = true → P D j (v j) H'
  refine ⟨fun i m H' => m = n - i ∧ i ≤ n ∧ Pv i H', ⟨n, by simp, Nat.zero_le _, Ex.new hD, fun _ => nv 0, upd_same, fun j h => absurd h (Nat.not_lt_zero j)⟩, ?_⟩
  rintro i m H' ⟨rfl, hi, e, v, hv, hp⟩
  obtain ⟨w1, w2⟩ := W i H' e hi
  by_cases hlt : i < n
  · obtain ⟨go, step⟩ := w2 hlt
    refine .inr ⟨go, Pv (i + 1), fun H2 p => ⟨n - (i + 1), by omega, rfl, hlt, p⟩, fun x H'' y => step x H'' (wipe σ vs) _ y fun H2 e2 => ⟨hw i hlt, ht i hlt H2 (e.trans e2) _ fun H3 e3 => ?_⟩⟩
    cases hf : f i with
    | false =>
      refine ⟨(e.trans e2).trans e3, v, ?_, fun j hj fj => ?_⟩
      · rw [given_no hf]
        exact e3 D _ (e2 D _ hv)
      · rcases Nat.lt_succ_iff_lt_or_eq.mp hj with hj | rfl
        · exact hP D j _ _ _ (ExB.of (e2.trans e3)) (hp j hj fj)
        · rw [hf] at fj
          cases fj
    | true =>
      refine he i hlt hf D H3 hD ((e.trans e2).trans e3) ⟨_, e3 D _ (e2 D _ hv)⟩ _ fun y H4 e4 py => ⟨given i f v, e4 D _ (e3 D _ (e2 D _ hv)), sz_lt (by have := given_len i f v; omega), Ex.mut (((e.trans e2).trans e3).trans e4) hD, put1 v i y, ?_, fun j hj fj => ?_⟩
      · rw [given_yes hf, put1_same, given_ext (v := put1 v i y) (v' := v) fun j hj _ => put1_lt hj]
        exact upd_same
      · rcases Nat.lt_succ_iff_lt_or_eq.mp hj with hj | rfl
        · rw [put1_lt hj]
          exact hP D j _ _ _ ExB.upd (hP D j _ _ _ (ExB.of ((e2.trans e3).trans e4)) (hp j hj fj))
        · rw [put1_same]
          exact hP D j _ _ _ ExB.upd py
  · have z : i = n := by omega
    subst z
    exact .inl ⟨w1 rfl, k D H' v hD e hv hp⟩
/-- .. by values -/
theorem lc_v (W : Wlk J g n st H) (hn : n ≤ 50000) (f : Nat → Bool) (v : Nat → V) (hw : ∀ i, i < n → wipe (st (wipe σ vs) i) vs = wipe σ vs) (ht : ∀ i, i < n → EvT tt (st (wipe σ vs) i) H (f i))
    (he : ∀ i, i < n → f i = true → Ev te (st (wipe σ vs) i) H (v i)) (k : ∀ p H2, H p = none → Ex H H2 → H2 p = some (.lst (given n f v)) → Q (.ref p) H2) : LcBody J g tt te vs σ H Q :=
  lc_r W hn (fun _ i x _ => x = v i) f (fun _ _ _ _ _ _ h => h) hw ht (fun i hi hf D Ha _ e _ Q' k' => he i hi hf Ha e Q' fun H2 e2 => k' _ H2 e2 rfl)
    fun p H2 v' hp e h hv => k p H2 hp e (by rw [← given_ext (v := v') (v' := v) fun i hi fi => hv i hi fi]; exact h)
theorem given_all {n : Nat} {v : Nat → V} : given n (fun _ => true) v = (List.range n).map v := by
  unfold given
  rw [List.filter_eq_self.mpr fun _ _ => rfl]
theorem et_yes : EvT tYes σ H true := fun H1 _ _ q => q H1 (Ex.refl H1)
/-- no test -/
theorem lc_y (W : Wlk J g n st H) (hn : n ≤ 50000) (v : Nat → V) (hw : ∀ i, i < n → wipe (st (wipe σ vs) i) vs = wipe σ vs)
    (he : ∀ i, i < n → Ev te (st (wipe σ vs) i) H (v i)) (k : ∀ p H2, H p = none → Ex H H2 → H2 p = some (.lst ((List.range n).map v)) → Q (.ref p) H2) : LcBody J g tYes te vs σ H Q :=
  lc_v W hn (fun _ => true) v hw (fun _ _ => et_yes) (fun i hi _ => he i hi) fun p H2 hp e h => k p H2 hp e (by rw [← given_all]; exact h)
theorem lc_ry (W : Wlk J g n st H) (hn : n ≤ 50000) (P : Addr → Nat → V → Hp → Prop) (hP : ∀ D i v A B, ExB D A B → P D i v A → P D i v B)
    (hw : ∀ i, i < n → wipe (st (wipe σ vs) i) vs = wipe σ vs)
    (he : ∀ i, i < n → ∀ D Ha, H D = none → Ex H Ha → (∃ xs, Ha D = some (.lst xs)) → ∀ Q' : VK, (∀ v H2, Ex Ha H2 → P D i v H2 → Q' v H2) → te (st (wipe σ vs) i) Ha Q')
    (k : ∀ p H2 v, H p = none → Ex H H2 → H2 p = some (.lst ((List.range n).map v)) → (∀ i, i < n → P p i (v i) H2) → Q (.ref p) H2) : LcBody J g tYes te vs σ H Q :=
  lc_r W hn P (fun _ => true) hP hw (fun _ _ => et_yes) (fun i hi _ => he i hi) fun p H2 v hp e h hv => k p H2 v hp e (by rw [← given_all]; exact h) fun i hi => hv i hi rfl
/-- a dict comprehension without tests, its keys distinct ints -/
theorem dc_r (W : Wlk J g n st H) (hn : n ≤ 50000) (key : Nat → Int) (hk : ∀ i j, i < j → j < n → key i ≠ key j) (P : Addr → Nat → V → Hp → Prop) (F : Nat → V → Hp → Prop) (hP : ∀ D i v A B, ExB D A B → P D i v A → P D i v B)
    (hw : ∀ i, i < n → wipe (st (wipe σ vs) i) vs = wipe σ vs) (hkey : ∀ i, i < n → Ev tk (st (wipe σ vs) i) H (.int (key i)))
    (he : ∀ i, i < n → ∀ D Ha, H D = none → Ex H Ha → (∃ kvs, Ha D = some (.dK kvs)) → ∀ Q' : VK, (∀ v H2, Ex Ha H2 → P D i v H2 → F i v Ha → Q' v H2) → tv (st (wipe σ vs) i) Ha Q')
    (k : ∀ p H2 (v : Nat → V), H p = none → Ex H H2 → H2 p = some (.dK ((List.range n).map fun i => (Sum.inl (key i), v i))) → (∀ i, i < n → P p i (v i) H2) →
      (∀ i j, i < j → j < n → ∃ Hm, P p i (v i) Hm ∧ F j (v j) Hm) → Q (.ref p) H2) : DcBody J g tYes tk tv vs σ H Q := by
  intro D hD
  let Pv : Nat → Hp → Prop := fun i H' => Ex H H' ∧ ∃ v : Nat → V, H' D = some (.dK ((List.range i).map fun i => (Sum.inl (key i), v i))) ∧ (∀ j, j < i → P D j (v j) H') ∧ ∀ j j', j < j' → j' < i → ∃ Hm, P D j (v j) Hm ∧ F j' (v j') Hm
  refine ⟨fun i m H' => m = n - i ∧ i ≤ n ∧ Pv i H', ⟨n, by simp, Nat.zero_le _, Ex.new hD, fun _ => nv 0, upd_same, fun j h => absurd h (Nat.not_lt_zero j), fun j j' _ h => absurd h (Nat.not_lt_zero j')⟩, ?_⟩
  rintro i m H' ⟨rfl, hi, e, v, hv, hp, hf⟩
  obtain ⟨w1, w2⟩ := W i H' e hi
  by_cases hlt : i < n
  · obtain ⟨go, step⟩ := w2 hlt
    refine .inr ⟨go, Pv (i + 1), fun H2 p => ⟨n - (i + 1), by omega, rfl, hlt, p⟩, fun x H'' y => step x H'' (wipe σ vs) _ y fun H2 e2 => ⟨hw i hlt, ?_⟩⟩
    refine hkey i hlt H2 (e.trans e2) _ fun H3 e3 => he i hlt D H3 hD ((e.trans e2).trans e3) ⟨_, e3 D _ (e2 D _ hv)⟩ _ fun y H4 e4 py fy => ⟨_, Sum.inl (key i), rfl, e4 D _ (e3 D _ (e2 D _ hv)), sz_lt (by simp; omega), Ex.mut (((e.trans e2).trans e3).trans e4) hD, put1 v i y, ?_, fun j hj => ?_, fun j j' hj hj' => ?_⟩
    · have hq : putK ((List.range i).map fun i => ((Sum.inl (key i) : Key), v i)) (Sum.inl (key i)) y = (List.range (i + 1)).map fun j => ((Sum.inl (key j) : Key), put1 v i y j) := by
        unfold putK
        rw [if_neg, List.range_succ, List.map_append]
        · congr 1
          · refine List.map_congr_left fun j hj => ?_
            rw [put1_lt (List.mem_range.mp hj)]
          · show [_] = [((Sum.inl (key i) : Key), put1 v i y i)]
            rw [put1_same]
        · simp only [List.any_map, List.any_eq_true, List.mem_range, Function.comp, decide_eq_true_eq, not_exists, not_and, Sum.inl.injEq]
          exact fun j hj => hk j i hj hlt
      rw [hq]
      exact upd_same
    · rcases Nat.lt_succ_iff_lt_or_eq.mp hj with hj | rfl
      · rw [put1_lt hj]
        exact hP D j _ _ _ ExB.upd (hP D j _ _ _ (ExB.of ((e2.trans e3).trans e4)) (hp j hj))
      · rw [put1_same]
        exact hP D j _ _ _ ExB.upd py
    · rcases Nat.lt_succ_iff_lt_or_eq.mp hj' with hj' | rfl
      · rw [put1_lt hj', put1_lt (Nat.lt_trans hj hj')]
        exact hf j j' hj hj'
      · rw [put1_same, put1_lt hj]
        exact ⟨H3, hP D j _ _ _ (ExB.of (e2.trans e3)) (hp j hj), fy⟩
  · have z : i = n := by omega
    subst z
    exact .inl ⟨w1 rfl, k D H' v hD e hv hp hf⟩
/-- a loop over what stays -/
theorem for_w {H0 : Hp} (Pv : Nat → SS → Hp → Prop) (W : Wlk J g n st H0) (hE : ∀ i σ' H', i ≤ n → Pv i σ' H' → Ex H0 H') (h0 : Pv 0 σ H)
    (hs : ∀ i σ' H', i < n → Pv i σ' H' → ∀ H2, Ex H' H2 → tb { D with nx := Pv (i + 1), ct := Pv (i + 1), bk := D.nx } (st σ' i) H2) (hd : ∀ σ' H', Pv n σ' H' → D.nx σ' H') : ForBody J g tb D σ H := by
  refine ⟨fun i m σ' H' => m = n - i ∧ i ≤ n ∧ Pv i σ' H', ⟨n, by simp, Nat.zero_le _, h0⟩, ?_⟩
  rintro i m σ' H' ⟨rfl, hi, p⟩
  obtain ⟨w1, w2⟩ := W i H' (hE i σ' H' hi p) hi
  by_cases hlt : i < n
  · obtain ⟨go, step⟩ := w2 hlt
    exact .inr ⟨go, Pv (i + 1), fun σ2 H2 p2 => ⟨n - (i + 1), by omega, rfl, hlt, p2⟩, fun x H'' y => step x H'' σ' _ y fun H2 e2 => hs i σ' H' hlt p H2 e2⟩
  · have z : i = n := by omega
    subst z
    exact .inl ⟨w1 rfl, hd σ' H' p⟩
/-! ### walks over dicts -/
theorem wk_keys {d : Addr} {o : Obj} {j : Nat} {key : Nat → Int} {v : Nat → V} (h : H d = some (.frz o (.dK ((List.range n).map fun i => (Sum.inl (key i), v i))))) : Wlk (Itk d o ((List.range n).map fun i => (Sum.inl (key i), v i))) (gName j) n (fun σ i => σ.set j (some (.int (key i)))) H := fun i H' e hi => by
  refine ⟨fun z => ⟨e d _ h, by simp; omega⟩, fun hlt => ⟨⟨e d _ h, by simpa using hlt⟩, fun x H'' σ Q y k => ?_⟩⟩
  obtain ⟨rfl, kk, vv, q, rfl⟩ := y
  simp only [List.getElem?_map, List.getElem?_range hlt, Option.map_some, Option.some.injEq, Prod.mk.injEq] at q
  obtain ⟨rfl, rfl⟩ := q
  exact k _ (Ex.refl _)
theorem wk_items {d : Addr} {o : Obj} {j1 j2 : Nat} {key : Nat → Int} {v : Nat → V} (h : H d = some (.frz o (.dK ((List.range n).map fun i => (Sum.inl (key i), v i))))) : Wlk (Iti d o ((List.range n).map fun i => (Sum.inl (key i), v i))) (gTup K 2 (gCons (gName j1) (gCons (gName j2) gNil))) n (fun σ i => (σ.set j1 (some (.int (key i)))).set j2 (some (v i))) H := fun i H' e hi => by
  refine ⟨fun z => ⟨e d _ h, by simp; omega⟩, fun hlt => ⟨⟨e d _ h, by simpa using hlt⟩, fun x H'' σ Q y k => ?_⟩⟩
  obtain ⟨T, kk, vv, q, rfl, hT, rfl⟩ := y
  simp only [List.getElem?_map, List.getElem?_range hlt, Option.map_some, Option.some.injEq, Prod.mk.injEq] at q
  obtain ⟨rfl, rfl⟩ := q
  exact two_names (SqT.of upd_same) (k _ (Ex.new (o := .tup [.int (key i), v i]) hT))
/-- keys that are pairs -/
theorem wk_keysT {d : Addr} {o : Obj} {j1 j2 : Nat} {k1 k2 : Nat → Int} {v : Nat → V} (h : H d = some (.frz o (.dT ((List.range n).map fun i => ([Sum.inl (k1 i), Sum.inl (k2 i)], v i))))) :
    Wlk (Itkt d o ((List.range n).map fun i => ([Sum.inl (k1 i), Sum.inl (k2 i)], v i))) (gTup K 2 (gCons (gName j1) (gCons (gName j2) gNil))) n (fun σ i => (σ.set j1 (some (.int (k1 i)))).set j2 (some (.int (k2 i)))) H := fun i H' e hi => by
  refine ⟨fun z => ⟨e d _ h, by simp; omega⟩, fun hlt => ⟨⟨e d _ h, by simpa using hlt⟩, fun x H'' σ Q y k => ?_⟩⟩
  obtain ⟨rfl, kk, vv, q, hq, rfl, ht⟩ := y
  simp only [List.getElem?_map, List.getElem?_range hlt, Option.map_some, Option.some.injEq, Prod.mk.injEq] at hq
  obtain ⟨rfl, rfl⟩ := hq
  exact two_names (SqT.of ht) (k _ (Ex.refl _))
/-- sequences told by a function -/
theorem Wlk.is {st' : SS → Nat → SS} (W : Wlk J g n st H) (h : ∀ σ i, i < n → st σ i = st' σ i) : Wlk J g n st' H := fun i H' e hi => by
  obtain ⟨a, b⟩ := W i H' e hi
  refine ⟨a, fun hlt => ⟨(b hlt).1, fun x H'' σ Q y k => (b hlt).2 x H'' σ Q y fun H2 e2 => ?_⟩⟩
  rw [h σ i hlt]
  exact k H2 e2
theorem Wlk.mono {H' : Hp} (W : Wlk J g n st H) (e : Ex H H') : Wlk J g n st H' := fun i H2 e2 hi => W i H2 (e.trans e2) hi
end
/-! ### sequences of naturals -/
def ent (l : List Nat) (i : Nat) : Nat := l.getD i 0
theorem ent_get {l : List Nat} {i : Nat} (h : i < l.length) : l[i]? = some (ent l i) := by
  unfold ent
  rw [List.getD_eq_getElem?_getD, List.getElem?_eq_getElem h]
  rfl
theorem ent_map {l : List Nat} {i : Nat} (h : i < l.length) : (l.map nv)[i]? = some (nv (ent l i)) := by rw [List.getElem?_map, ent_get h]; rfl
theorem ent_mem {l : List Nat} {i : Nat} (h : i < l.length) : ent l i ∈ l := List.mem_of_getElem? (ent_get h)
theorem at_nat {xs : List V} {i : Nat} {j : Int} {v : V} (hj : j = (i : Int)) (h : xs[i]? = some v) : atI xs j = some v := by
  subst hj
  exact atI_nat h
theorem at_ns {l : List Nat} {i : Nat} {j : Int} (hj : j = (i : Int)) (h : i < l.length) : atI (l.map nv) j = some (nv (ent l i)) := at_nat hj (ent_map h)
theorem at_fn {n : Nat} {f : Nat → V} {i : Nat} {j : Int} (hj : j = (i : Int)) (h : i < n) : atI ((List.range n).map f) j = some (f i) := at_nat hj (by simp [h])
section
variable {K : PySem.W.Frag} {H : Hp}
theorem wk_tupN {a : Addr} {l : List Nat} {j : Nat} (h : H a = some (.tup (l.map nv))) : Wlk (Itt K a) (gName j) l.length (fun σ i => σ.set j (some (nv (ent l i)))) H :=
  Wlk.is (by have q := wk_tup (K := K) (j := j) (SqT.of h); rw [List.length_map] at q; exact q) fun σ i hi => by rw [ent_map hi]
theorem wk_listN {a : Addr} {l : List Nat} {j : Nat} (h : H a = some (.lst (l.map nv))) : Wlk (Itl K a) (gName j) l.length (fun σ i => σ.set j (some (nv (ent l i)))) H :=
  Wlk.is (by have q := wk_list (K := K) (j := j) (SqL.of h); rw [List.length_map] at q; exact q) fun σ i hi => by rw [ent_map hi]
theorem wk_enumTN {a : Addr} {l : List Nat} {j1 j2 : Nat} (h : H a = some (.tup (l.map nv))) : Wlk (IteT K a) (gTup K 2 (gCons (gName j1) (gCons (gName j2) gNil))) l.length (fun σ i => (σ.set j1 (some (nv i))).set j2 (some (nv (ent l i)))) H :=
  Wlk.is (by have q := wk_enumT (K := K) (j1 := j1) (j2 := j2) (SqT.of h); rw [List.length_map] at q; exact q) fun σ i hi => by rw [ent_map hi]
theorem wk_zipN {a b : Addr} {l m : List Nat} {j1 j2 : Nat} (h : H a = some (.tup (l.map nv))) (h2 : H b = some (.tup (m.map nv))) (hl : l.length = m.length) :
    Wlk (RZ.ItzT K a b) (gTup K 2 (gCons (gName j1) (gCons (gName j2) gNil))) l.length (fun σ i => (σ.set j1 (some (nv (ent l i)))).set j2 (some (nv (ent m i)))) H :=
  Wlk.is (by have q := wk_zipT (K := K) (j1 := j1) (j2 := j2) (SqT.of h) (SqT.of h2) (by simpa using hl); rw [List.length_map] at q; exact q) fun σ i hi => by rw [ent_map hi, ent_map (hl ▸ hi)]
theorem wk_tupF {a : Addr} {n : Nat} {f : Nat → V} {j : Nat} (h : H a = some (.tup ((List.range n).map f))) : Wlk (Itt K a) (gName j) n (fun σ i => σ.set j (some (f i))) H :=
  Wlk.is (by have q := wk_tup (K := K) (j := j) (SqT.of h); rw [List.length_map, List.length_range] at q; exact q) fun σ i hi => by simp [hi]
theorem wk_listF {a : Addr} {n : Nat} {f : Nat → V} {j : Nat} (h : H a = some (.lst ((List.range n).map f))) : Wlk (Itl K a) (gName j) n (fun σ i => σ.set j (some (f i))) H :=
  Wlk.is (by have q := wk_list (K := K) (j := j) (SqL.of h); rw [List.length_map, List.length_range] at q; exact q) fun σ i hi => by simp [hi]
theorem wk_enumLF {a : Addr} {n : Nat} {f : Nat → V} {j1 j2 : Nat} (h : H a = some (.lst ((List.range n).map f))) : Wlk (Ite K a) (gTup K 2 (gCons (gName j1) (gCons (gName j2) gNil))) n (fun σ i => (σ.set j1 (some (nv i))).set j2 (some (f i))) H :=
  Wlk.is (by have q := wk_enumL (K := K) (j1 := j1) (j2 := j2) (SqL.of h); rw [List.length_map, List.length_range] at q; exact q) fun σ i hi => by simp [hi]
theorem wk_enumTF {a : Addr} {n : Nat} {f : Nat → V} {j1 j2 : Nat} (h : H a = some (.tup ((List.range n).map f))) : Wlk (IteT K a) (gTup K 2 (gCons (gName j1) (gCons (gName j2) gNil))) n (fun σ i => (σ.set j1 (some (nv i))).set j2 (some (f i))) H :=
  Wlk.is (by have q := wk_enumT (K := K) (j1 := j1) (j2 := j2) (SqT.of h); rw [List.length_map, List.length_range] at q; exact q) fun σ i hi => by simp [hi]
theorem wk_rng0 {n j : Nat} : Wlk (Itr 0 n) (gName j) n (fun σ i => σ.set j (some (nv i))) H := Wlk.is wk_range fun σ i _ => by rw [Int.zero_add]
theorem wk_rng1 {n j : Nat} : Wlk (Itr 1 n) (gName j) n (fun σ i => σ.set j (some (nv (i + 1)))) H := Wlk.is wk_range fun σ i _ => by
  have e : (1 : Int) + ((i : Nat) : Int) = ((i + 1 : Nat) : Int) := by omega
  rw [e]
end
end FV
/-! The program's places, what its top has made, leaves of readings. -/
namespace FV
open PySem PySem.Spec PyProof.Rows L2 Evl
open C8 (Cal Mak Def InsC)

def top (i : Nat) : Stmt := PySem.Challenge.pw_foldervotes_k36_whole_verdicts_on_histor.main.body.getD i (.Pass ⟨0, 0, 0, 0⟩)
/-- what the top has made -/
structure Txt (K : PySem.W.Frag) (mg : Str → Option Value) (cT cW cH : Addr) : Prop where
  t_cl : Cls K cT
  t_hung : NoAttr K cT "hung"
  w_cl : Cls K cW
  w_blocks : NoAttr K cW "blocks"
  w_ups : NoAttr K cW "ups"
  w_lists : NoAttr K cW "lists"
  h_cl : Cls K cH
  h_tree : NoAttr K cH "tree"
  h_moves : NoAttr K cH "moves"
  i_Tree : InsC K cT
  i_Words : InsC K cW
  m_Tree : ∃ u, mg "Tree" = some u ∧ RelV (.ref cT) u
  m_Words : ∃ u, mg "Words" = some u ∧ RelV (.ref cW) u
  m_MOST_BLOCKS : ∃ u, mg "MOST_BLOCKS" = some u ∧ RelV (.int 40) u
  m_MOST_MOVES : ∃ u, mg "MOST_MOVES" = some u ∧ RelV (.int 100) u
  m_HEAD : ∃ u, mg "HEAD" = some u ∧ RelV (.int 0) u
  z_isinstance : mg "isinstance" = none
  z_int : mg "int" = none
  z_bool : mg "bool" = none
  z_tuple : mg "tuple" = none
  z_str : mg "str" = none
  z_len : mg "len" = none
  z_range : mg "range" = none
  z_sorted : mg "sorted" = none
  z_list : mg "list" = none
  z_set : mg "set" = none
  z_dict : mg "dict" = none
  z_abs : mg "abs" = none
  z_min : mg "min" = none
  z_max : mg "max" = none
  z_all : mg "all" = none
  z_enumerate : mg "enumerate" = none
  z_zip : mg "zip" = none

/-- a def of the module that may be called -/
structure Df (K : PySem.W.Frag) (mg : Str → Option Value) (x : Str) (st : Stmt) (ps : List Str) : Prop where
  ex : ∃ f fd, Def K mg x st f fd ∧ Binds K fd ps []
theorem cal_of {P : Program} {w : World} {K : PySem.W.Frag} {mg : Str → Option Value} {base : Heap} {x : Str} {st : Stmt} {N ps : List Str} {k : Nat} {sp : Sp} (F : Df K mg x st ps) (S : FnScope N ps (C8.fnScope st)) (len : ∀ vs H Q E, sp vs H Q E → vs.length = ps.length)
    (hbody : ∀ (f : Addr) (cdv : Value) (A : Around) (outer : List Env) (s : Shared) (H : Hp) (vs : List V) (Q : VK) (E : XK), Room k (A.deeper (envOfC x (C8.fnScope st) s.heap.objs.size f cdv)) → sp vs H Q E →
      ∃ t, PSs (cxOf C8.CX0 P w K mg base N x (C8.fnScope st) f cdv A outer s H E).nox (C8.fnBody st) t ∧ t { nx := fun _ H' => Q .non H', rt := Q } (start N vs) H) : Cal P w K mg base (k + 1) x sp [] := by
  obtain ⟨f, fd, d, b⟩ := F.ex
  exact C8.cal0 d b .nil S len (hbody f)

/-! ### leaves -/
def QTup (Q : VK) : List V → Hp → Prop := fun xs H1 => xs.length ≤ sizeLine ∧ ∀ p, H1 p = none → Q (.ref p) (upd H1 p (.tup xs))
def QLst (Q : VK) : List V → Hp → Prop := fun xs H1 => xs.length ≤ sizeLine ∧ ∀ p, H1 p = none → Q (.ref p) (upd H1 p (.lst xs))
def leafR1 (R : It → Hp → Prop) : List V → Hp → Prop := fun vs H1 => ∃ j : Int, vs = [.int j] ∧ -(2 ^ 62) ≤ j ∧ j < 2 ^ 62 ∧ R (Itr 0 j.toNat) H1
def leafR2 (R : It → Hp → Prop) : List V → Hp → Prop := fun vs H1 => ∃ i j : Int, vs = [.int i, .int j] ∧ (-(2 ^ 62) ≤ i ∧ i < 2 ^ 62 ∧ -(2 ^ 62) ≤ j ∧ j < 2 ^ 62) ∧ R (Itr i (j - i).toNat) H1
def leafDGet (Q : VK) : V → V → Hp → Prop := fun x y H2 => ∃ a v, x = .ref a ∧ DGet H2 a y (some v) ∧ Q v H2
def leafDIn (Q : VK) : V → V → Hp → Prop := fun x y H2 => ∃ a o, x = .ref a ∧ DGet H2 a y o ∧ Q (.bl o.isSome) H2
def leafDNotIn (Q : VK) : V → V → Hp → Prop := fun x y H2 => ∃ a o, x = .ref a ∧ DGet H2 a y o ∧ Q (.bl (!o.isSome)) H2
def leafBm (K : PySem.W.Frag) (T : String) (rm : V → List V → Hp → VK → Prop) (tr : TA) (σ : SS) (Q : VK) : V → Hp → Prop := fun x H1 => tyV K T x H1 ∧ tr σ H1 fun xs H2 => rm x xs H2 Q
def leafBm0 (K : PySem.W.Frag) (T : String) (rm : V → List V → Hp → VK → Prop) (Q : VK) : V → Hp → Prop := fun x H1 => tyV K T x H1 ∧ rm x [] H1 Q
def leafFrz (Q : VK) : VK := fun v H1 => ∃ d u, v = .ref d ∧ H1 d = some u ∧ Mut (some u) ∧ ∀ od, Q v (upd H1 d (.frz od u))
def leafSfld (K : PySem.W.Frag) (f : Str) (y : V) (Q : Hp → Prop) : V → Hp → Prop := fun x H2 => ∃ a C dx fs, x = .ref a ∧ H2 a = some (.ins C dx fs) ∧ Cls K C ∧ NoAttr K C f ∧ fs.length < 1000 ∧ Q (upd H2 a (.ins C dx (putF f y fs)))
def leafDPut (Q : Hp → Prop) (v : V) : V → V → Hp → Prop := fun x y H3 => ∃ a H4, x = .ref a ∧ DPut H3 a y v H4 ∧ Q H4
def leafMake (C : Addr) (sp : Sp) (dvs : List V) (E : XK) (Q : VK) : List V → Hp → Prop := fun vs H1 => ∀ x dx, H1 x = none → H1 dx = none → dx ≠ x →
  sp (.ref x :: (vs ++ dvs)) (upd (upd H1 dx (.own x)) x (.ins C dx [])) (fun v H2 => v = .non ∧ Q (.ref x) H2) E
section
variable {K : PySem.W.Frag} {σ : SS} {H : Hp} {Q : VK} {ta tb tc te : TE} {tr : TA} {v x y : V} {D : Ends} {R : It → Hp → Prop}
theorem y_tup (k : tr σ H (QTup Q)) : tTup tr σ H Q := k
theorem y_lst (k : tr σ H (QLst Q)) : tLst tr σ H Q := k
theorem l_tup {xs : List V} (hn : xs.length ≤ 100000) (k : ∀ p H2, H p = none → Ex H H2 → H2 p = some (.tup xs) → Q (.ref p) H2) : QTup Q xs H := ⟨sz100 hn, fun p hp => k p _ hp (Ex.new hp) upd_same⟩
theorem l_lst {xs : List V} (hn : xs.length ≤ 100000) (k : ∀ p H2, H p = none → Ex H H2 → H2 p = some (.lst xs) → Q (.ref p) H2) : QLst Q xs H := ⟨sz100 hn, fun p hp => k p _ hp (Ex.new hp) upd_same⟩
theorem y_rng1 (k : tr σ H (leafR1 R)) : iRng1 tr σ H R := k
theorem y_rng2 (k : tr σ H (leafR2 R)) : iRng2 tr σ H R := k
theorem l_rng1 {i : Int} (n : Nat) (h : i = (n : Int)) (hn : n ≤ 100000) (k : R (Itr 0 n) H) : leafR1 R [.int i] H := by
  subst h
  exact ⟨n, rfl, by omega, by omega, by rw [Int.toNat_natCast]; exact k⟩
theorem l_rng2 {i j : Int} (n : Nat) (h : j - i = (n : Int)) (hi : 0 ≤ i ∧ i ≤ 100000) (hn : n ≤ 100000) (k : R (Itr i n) H) : leafR2 R [.int i, .int j] H :=
  ⟨i, j, rfl, by omega, by rw [h, Int.toNat_natCast]; exact k⟩
theorem y_dget (k : ta σ H fun x H1 => tb σ H1 (leafDGet Q x)) : tDGet ta tb σ H Q := k
theorem l_dget {a : Addr} (h : DGet H a y (some v)) (k : Q v H) : leafDGet Q (.ref a) y H := ⟨a, v, rfl, h, k⟩
theorem y_din (k : tb σ H fun y H1 => ta σ H1 fun x H2 => leafDIn Q x y H2) : tDIn tb ta σ H Q := k
theorem l_din {a : Addr} {o : Option V} (h : DGet H a y o) (k : Q (.bl o.isSome) H) : leafDIn Q (.ref a) y H := ⟨a, o, rfl, h, k⟩
theorem y_dnotin (k : tb σ H fun y H1 => ta σ H1 fun x H2 => leafDNotIn Q x y H2) : tDNotIn tb ta σ H Q := k
theorem l_dnotin {a : Addr} {o : Option V} (h : DGet H a y o) (k : Q (.bl (!o.isSome)) H) : leafDNotIn Q (.ref a) y H := ⟨a, o, rfl, h, k⟩
theorem y_bm {T : String} {rm : V → List V → Hp → VK → Prop} (k : ta σ H (leafBm K T rm tr σ Q)) : tBM K T rm ta tr σ H Q := k
theorem y_bm0 {T : String} {rm : V → List V → Hp → VK → Prop} (k : ta σ H (leafBm0 K T rm Q)) : tBM0 K T rm ta σ H Q := k
theorem l_bmL {a : Addr} {xs : List V} {rm : V → List V → Hp → VK → Prop} (h : SqL K H a xs) (k : tr σ H fun ys H2 => rm (.ref a) ys H2 Q) : leafBm K "list" rm tr σ Q (.ref a) H := ⟨.inl ⟨rfl, _, h⟩, k⟩
theorem y_bmF {rm : V → List V → Hp → VK → Prop} (k : ta σ H (leafBmF rm tr σ Q)) : tBMF rm ta tr σ H Q := k
theorem l_bmF {a : Addr} {xs : List V} {rm : V → List V → Hp → VK → Prop} (h : TupX H a xs) (k : tr σ H fun ys H2 => rm (.ref a) ys H2 Q) : leafBmF rm tr σ Q (.ref a) H := ⟨⟨a, xs, rfl, h⟩, k⟩
theorem l_bm0L {a : Addr} {xs : List V} {rm : V → List V → Hp → VK → Prop} (h : SqL K H a xs) (k : rm (.ref a) [] H Q) : leafBm0 K "list" rm Q (.ref a) H := ⟨.inl ⟨rfl, _, h⟩, k⟩
theorem y_frz (k : ta σ H (leafFrz Q)) : tFrz ta σ H Q := k
theorem l_frz {a : Addr} {u : HO} (h : H a = some u) (m : Mut (some u)) (k : ∀ od, Q (.ref a) (upd H a (.frz od u))) : leafFrz Q (.ref a) H := ⟨a, u, rfl, h, m, k⟩
theorem y_sfld {f : Str} (k : tb σ H fun y H1 => ta σ H1 (leafSfld K f y (D.nx σ))) : sFld K ta tb f D σ H := k
theorem l_sfld {f : Str} {Qh : Hp → Prop} {a C dx : Addr} {fs : List (Str × V)} (h : H a = some (.ins C dx fs)) (hc : Cls K C) (hn : NoAttr K C f) (hl : fs.length < 1000) (k : Qh (upd H a (.ins C dx (putF f y fs)))) : leafSfld K f y Qh (.ref a) H := ⟨a, C, dx, fs, rfl, h, hc, hn, hl, k⟩
theorem y_dput (k : tc σ H fun v H1 => ta σ H1 fun x H2 => tb σ H2 fun y H3 => leafDPut (D.nx σ) v x y H3) : sDPut ta tb tc D σ H := k
theorem l_dput {Qh : Hp → Prop} {a : Addr} {H4 : Hp} (h : DPut H a y v H4) (k : Qh H4) : leafDPut Qh v (.ref a) y H := ⟨a, H4, rfl, h, k⟩
theorem y_make {C : Addr} {sp : Sp} {dvs : List V} {E : XK} (k : tr σ H (leafMake C sp dvs E Q)) : tMake C sp dvs E tr σ H Q := k
theorem x_augG {i : Nat} {ti : TIp} {x : V} (h : σ[i]? = some (some x)) (k : te σ H fun y H1 => ti x y H1 fun z H2 => D.nx (σ.set i (some z)) H2) : tAug i te ti D σ H := ⟨x, h, k⟩
theorem r_ip {f : Int → Int → Int} {a b : Int} (k : Q (.int (f a b)) H) : ipI f (.int a) (.int b) H Q := ⟨a, b, rfl, rfl, k⟩
/-! ### by values, results told by what they are -/
theorem cutV_to (xs : List V) (k : Nat) : cutV xs none (some (k : Int)) = xs.take k := by
  unfold cutV
  rw [HT.sIx_none, HT.sIx_nat, List.drop_zero, Nat.sub_zero]
  rcases Nat.le_total k xs.length with h | h
  · rw [Nat.min_eq_left h]
  · rw [Nat.min_eq_right h, List.take_of_length_le (Nat.le_refl _), List.take_of_length_le h]
theorem cutV_from (xs : List V) (k : Nat) : cutV xs (some (k : Int)) none = xs.drop k := by
  unfold cutV
  rw [HT.sIx_none, HT.sIx_nat]
  rcases Nat.le_total k xs.length with h | h
  · rw [Nat.min_eq_left h, List.take_of_length_le (by simp)]
  · rw [Nat.min_eq_right h, List.drop_of_length_le (Nat.le_refl _), List.drop_of_length_le h]
    simp
theorem cutV_whole {xs : List V} {lo hi : Option Int} (h : HT.sIx xs.length 0 lo = 0 ∧ HT.sIx xs.length xs.length hi = xs.length) : cutV xs lo hi = xs := by
  unfold cutV
  rw [h.1, h.2, List.drop_zero, Nat.sub_zero, List.take_of_length_le (Nat.le_refl _)]
theorem r_slA {a : Addr} {xs ys : List V} {lo hi : Option Int} (h : H a = some (.tup xs)) (hy : cutV xs lo hi = ys) (k : RetT ys H Q) : rSlA K (.ref a) lo hi H Q := by
  subst hy
  refine ⟨a, xs, rfl, SqT.of h, fun w => k a H (Ex.refl _) ?_, fun _ p hp => k p _ (Ex.new hp) upd_same⟩
  rw [cutV_whole w]
  exact h
theorem r_slL {a : Addr} {xs ys : List V} {lo hi : Option Int} (h : SqL K H a xs) (hy : cutV xs lo hi = ys) (k : RetL ys H Q) : rSlL K (.ref a) lo hi H Q := by
  subst hy
  exact ⟨a, xs, rfl, h, fun p hp => k p _ hp (Ex.new hp) upd_same⟩
theorem r_catA {a b : Addr} {xs ys : List V} (ha : H a = some (.tup xs)) (hb : H b = some (.tup ys)) (hz : xs.length + ys.length ≤ 100000) (k : RetT (xs ++ ys) H Q) : rCatA K (.ref a) (.ref b) H Q := by
  refine ⟨a, b, xs, ys, rfl, rfl, SqT.of ha, SqT.of hb, sz100 hz, fun e => k b H (Ex.refl _) (by rw [e]; exact hb), fun _ e => k a H (Ex.refl _) (by rw [e, List.append_nil]; exact ha), fun _ _ p hp => k p _ (Ex.new hp) upd_same⟩
theorem r_cat {a b : Addr} {xs ys : List V} (ha : H a = some (.lst xs)) (hb : H b = some (.lst ys)) (hz : xs.length + ys.length ≤ 100000) (k : RetL (xs ++ ys) H Q) : rCat (.ref a) (.ref b) H Q :=
  ⟨a, b, xs, ys, rfl, rfl, ha, hb, sz100 hz, fun p hp => k p _ hp (Ex.new hp) upd_same⟩
theorem l_lenL {a : Addr} {xs : List V} (h : SqL K H a xs) (n : Nat) (hn : xs.length = n) (k : Q (nv n) H) : rLenS K [.ref a] H Q := ⟨a, xs, rfl, .inl h, by rw [hn]; exact k⟩
theorem l_lenT {a : Addr} {xs : List V} (h : SqT K H a xs) (n : Nat) (hn : xs.length = n) (k : Q (nv n) H) : rLenS K [.ref a] H Q := ⟨a, xs, rfl, .inr h, by rw [hn]; exact k⟩
def rTupOf (K : PySem.W.Frag) : List V → Hp → VK → Prop := fun xs H Q => ∃ p ys, xs = [.ref p] ∧ ((SqL K H p ys ∧ ∀ l, H l = none → Q (.ref l) (upd H l (.tup ys))) ∨ (SqT K H p ys ∧ Q (.ref p) H))
theorem c_tupOf {X : Cx} : CallR X (.type "tuple") (rTupOf X.K) := call_tuple_of
theorem c_len {X : Cx} : CallR X (.builtin "len") (rLenS X.K) := call_len_seq
theorem l_tupOf {a : Addr} {xs : List V} (h : SqL K H a xs) (k : ∀ p H2, H p = none → Ex H H2 → H2 p = some (.tup xs) → Q (.ref p) H2) : rTupOf K [.ref a] H Q := ⟨a, xs, rfl, .inl ⟨h, fun p hp => k p _ hp (Ex.new hp) upd_same⟩⟩
theorem l_tupF {a : Addr} {xs : List V} (h : SqL K H a xs) (k : ∀ p H2, H p = none → Ex H H2 → TupX H2 p xs → Q (.ref p) H2) : rTupF K [.ref a] H Q := ⟨a, xs, rfl, h, fun p o hp ho => k p _ hp (Ex.new hp) ⟨o, upd_same, ho⟩⟩
def rLenD : List V → Hp → VK → Prop := fun xs H Q => ∃ a kvs, xs = [V.ref a] ∧ Rd H a (.dK kvs) ∧ Q (.int (kvs.length : Nat)) H
theorem c_lenD {X : Cx} : CallR X (.builtin "len") rLenD := call_lenRd
theorem l_lenD {a : Addr} {kvs : List (Key × V)} (h : Rd H a (.dK kvs)) (n : Nat) (hn : kvs.length = n) (k : Q (nv n) H) : rLenD [.ref a] H Q := ⟨a, kvs, rfl, h, by rw [hn]; exact k⟩
def rInt1 : List V → Hp → VK → Prop := fun xs H Q => (∃ i, xs = [.int i] ∧ Q (.int i) H) ∨ ∃ k, xs = [.bl k] ∧ Q (.int (if k then 1 else 0)) H
theorem c_int1 {X : Cx} : CallR X (.type "int") rInt1 := call_int1
theorem l_intI {i : Int} (k : Q (.int i) H) : rInt1 [.int i] H Q := .inl ⟨i, rfl, k⟩
theorem l_intB {b : Bool} (k : Q (.int (if b then 1 else 0)) H) : rInt1 [.bl b] H Q := .inr ⟨b, rfl, k⟩
def rDictP (K : PySem.W.Frag) : List V → Hp → VK → Prop := fun xs H Q => ∃ (a : Addr) (ps : List Addr) (kvs : List (Key × V)), xs = [.ref a] ∧ SqL K H a (ps.map V.ref) ∧ Paired (fun p kv => SqT K H p [kV kv.1, kv.2]) ps kvs ∧
    ∀ p, H p = none → Q (.ref p) (upd H p (.dK (mergeK [] kvs)))
theorem c_dictP {X : Cx} (h : X.calm = true) : CallR X (.type "dict") (rDictP X.K) := call_dictP h
def rSortDI : List V → Hp → VK → Prop := fun xs H Q => ∃ (a : Addr) (kvs : List (Key × V)) (ks : List Int), xs = [.ref a] ∧ Rd H a (.dK kvs) ∧ kvs.map (·.1) = ks.map Sum.inl ∧ ks.length < 64 ∧
    ∀ (ys : List Int) (p : Addr), ys.Perm ks → ys.Pairwise (· ≤ ·) → H p = none → Q (.ref p) (upd H p (.lst (ys.map V.int)))
theorem c_sortDI {X : Cx} (h : X.calm = true) : CallR X (.builtin "sorted") rSortDI := call_sortedDI h
theorem l_isC {C a dx : Addr} {fs : List (Str × V)} {p : Prop} (h : H a = some (.ins C dx fs)) (k : p) : ∃ a' dx fs, [V.ref a, V.ref C] = [.ref a', .ref C] ∧ H a' = some (.ins C dx fs) ∧ p := ⟨a, dx, fs, rfl, h, k⟩
theorem x_retV (k : ∀ H2, Ex H H2 → Q v H2) : RetV v H Q := k
/-! isinstance of built-in types -/
theorem r_isi_int {i : Int} (k : Q (.bl true) H) : rIsi K [.int i, .ty "int"] H Q := ⟨_, _, _, _, true, rfl, .ty _, .base (.int i), kit_ty (by decide +kernel), k⟩
theorem r_isi_intb {i : Int} (k : Q (.bl false) H) : rIsi K [.int i, .ty "bool"] H Q := ⟨_, _, _, _, false, rfl, .ty _, .base (.int i), kit_ty (by decide +kernel), k⟩
theorem r_isi_bl {b : Bool} (k : Q (.bl true) H) : rIsi K [.bl b, .ty "bool"] H Q := ⟨_, _, _, _, true, rfl, .ty _, .base (.bl b), kit_ty (by decide +kernel), k⟩
theorem r_isi_str {s : Str} (k : Q (.bl true) H) : rIsi K [.str s, .ty "str"] H Q := ⟨_, _, _, _, true, rfl, .ty _, .base (.str s), kit_ty (by decide +kernel), k⟩
theorem r_isi_tup {a : Addr} {xs : List V} (h : H a = some (.tup xs)) (k : Q (.bl true) H) : rIsi K [.ref a, .ty "tuple"] H Q := ⟨_, _, _, _, true, rfl, .ty _, .base (.tup h), kit_ty (by decide +kernel), k⟩
end
/-- membership of naturals -/
theorem inV_ns (p : Nat) (l : List Nat) : inV (nv p) (l.map nv) = decide (p ∈ l) := by
  unfold inV
  rw [List.any_map, Bool.eq_iff_iff, List.any_eq_true, decide_eq_true_iff]
  constructor
  · rintro ⟨x, hx, e⟩
    have e' : ((x : Int) == (p : Int)) = true := e
    have e2 : x = p := by
      have := eq_of_beq e'
      omega
    exact e2 ▸ hx
  · intro h
    exact ⟨p, h, show (((p : Nat) : Int) == ((p : Nat) : Int)) = true from beq_self_eq_true _⟩
theorem flat_ns (l : List Nat) : (l.map nv).all flatV = true := by
  rw [List.all_map]
  exact List.all_eq_true.mpr fun _ _ => rfl
section
variable {K : PySem.W.Frag} {H : Hp} {Q : VK}
theorem r_inNT {a : Addr} {l : List Nat} {p : Nat} (h : H a = some (.tup (l.map nv))) (k : Q (.bl (decide (p ∈ l))) H) : rIn K false (nv p) (.ref a) H Q := r_inT (SqT.of h) rfl (flat_ns l) (by rw [inV_ns]; exact k)
theorem r_ninNT {a : Addr} {l : List Nat} {p : Nat} (h : H a = some (.tup (l.map nv))) (k : Q (.bl (!decide (p ∈ l))) H) : rIn K true (nv p) (.ref a) H Q := r_inT (SqT.of h) rfl (flat_ns l) (by rw [inV_ns]; exact k)
theorem r_inNL {a : Addr} {l : List Nat} {p : Nat} (h : H a = some (.lst (l.map nv))) (k : Q (.bl (decide (p ∈ l))) H) : rIn K false (nv p) (.ref a) H Q := r_inL (SqL.of h) rfl (flat_ns l) (by rw [inV_ns]; exact k)
theorem r_ninNL {a : Addr} {l : List Nat} {p : Nat} (h : H a = some (.lst (l.map nv))) (k : Q (.bl (!decide (p ∈ l))) H) : rIn K true (nv p) (.ref a) H Q := r_inL (SqL.of h) rfl (flat_ns l) (by rw [inV_ns]; exact k)
end
end FV
/-! Plain law, trees and moves: no program in sight. -/
namespace FV
/-! ### lists -/
theorem pigeon : ∀ (l m : List Nat), l.Nodup → (∀ x, x ∈ l → x ∈ m) → l.length ≤ m.length
  | [], m, _, _ => Nat.zero_le _
  | x :: l, m, h, s => by
    have hx : x ∈ m := s x List.mem_cons_self
    obtain ⟨h1, h2⟩ := List.nodup_cons.mp h
    have q := pigeon l (m.erase x) h2 fun y hy => (List.mem_erase_of_ne fun (e : y = x) => h1 (by rw [← e]; exact hy)).mpr (s y (List.mem_cons_of_mem _ hy))
    rw [List.length_erase_of_mem hx] at q
    have : 0 < m.length := List.length_pos_of_mem hx
    simp only [List.length_cons]
    omega
theorem pigeon_lt {l : List Nat} {n : Nat} (h : l.Nodup) (s : ∀ x, x ∈ l → 1 ≤ x ∧ x ≤ n) : l.length ≤ n := by
  have q := pigeon l ((List.range n).map (· + 1)) h fun x hx => by
    obtain ⟨a, b⟩ := s x hx
    exact List.mem_map.mpr ⟨x - 1, List.mem_range.mpr (by omega), by omega⟩
  simpa using q
theorem pigeon_le {l : List Nat} {n : Nat} (h : l.Nodup) (s : ∀ x, x ∈ l → x ≤ n) : l.length ≤ n + 1 := by
  have q := pigeon l (List.range (n + 1)) h fun x hx => List.mem_range.mpr (Nat.lt_succ_of_le (s x hx))
  simpa using q
/-- a full one -/
theorem pigeon_all {l : List Nat} {n : Nat} (h : l.Nodup) (hn : l.length = n + 1) (s : ∀ x, x ∈ l → x ≤ n) (y : Nat) (hy : y ≤ n) : y ∈ l := by
  refine Classical.byContradiction fun z => ?_
  have q := pigeon_le (l := y :: l) (n := n) (List.nodup_cons.mpr ⟨z, h⟩) fun x hx => by
    rcases List.mem_cons.mp hx with rfl | hx
    · exact hy
    · exact s x hx
  simp only [List.length_cons] at q
  omega
/-- two ascending lists with the same members are one -/
theorem asc_eq : ∀ {l m : List Nat}, l.Pairwise (· < ·) → m.Pairwise (· < ·) → (∀ x, x ∈ l ↔ x ∈ m) → l = m
  | [], [], _, _, _ => rfl
  | [], y :: m, _, _, h => absurd ((h y).mpr List.mem_cons_self) List.not_mem_nil
  | x :: l, [], _, _, h => absurd ((h x).mp List.mem_cons_self) List.not_mem_nil
  | x :: l, y :: m, hl, hm, h => by
    obtain ⟨a1, a2⟩ := List.pairwise_cons.mp hl
    obtain ⟨b1, b2⟩ := List.pairwise_cons.mp hm
    have e : x = y := by
      rcases List.mem_cons.mp ((h x).mp List.mem_cons_self) with e | e
      · exact e
      · rcases List.mem_cons.mp ((h y).mpr List.mem_cons_self) with e2 | e2
        · exact e2.symm
        · have := a1 y e2
          have := b1 x e
          omega
    subst e
    congr 1
    refine asc_eq a2 b2 fun z => ?_
    have hz := h z
    constructor
    · intro hzl
      rcases List.mem_cons.mp (hz.mp (List.mem_cons_of_mem _ hzl)) with e | e
      · have := a1 z hzl
        omega
      · exact e
    · intro hzm
      rcases List.mem_cons.mp (hz.mpr (List.mem_cons_of_mem _ hzm)) with e | e
      · have := b1 z hzm
        omega
      · exact e

/-! ### trees -/
def par (h : List Nat) (b : Nat) : Nat := ent h (b - 1)
def Tr (h : List Nat) : Prop := ∃ r : Nat → Nat, ∀ b, 1 ≤ b → b ≤ h.length → par h b ≤ h.length ∧ r (par h b) < r b
theorem Tr.le {h : List Nat} (t : Tr h) {b : Nat} (h1 : 1 ≤ b) (h2 : b ≤ h.length) : par h b ≤ h.length := by
  obtain ⟨r, t⟩ := t
  exact (t b h1 h2).1
theorem Tr.ne {h : List Nat} (t : Tr h) {b : Nat} (h1 : 1 ≤ b) (h2 : b ≤ h.length) : par h b ≠ b := by
  obtain ⟨r, t⟩ := t
  intro e
  have := (t b h1 h2).2
  rw [e] at this
  omega
def up (h : List Nat) (b : Nat) : Nat → Nat
  | 0 => b
  | k + 1 => par h (up h b k)
theorem home {h : List Nat} (t : Tr h) {b : Nat} (hb : b ≤ h.length) : ∃ k, k ≤ h.length ∧ up h b k = 0 := by
  refine Classical.byContradiction fun no => ?_
  have no' : ∀ k, k ≤ h.length → up h b k ≠ 0 := fun k hk e => no ⟨k, hk, e⟩
  obtain ⟨r, t⟩ := t
  have le : ∀ k, k ≤ h.length → up h b k ≤ h.length := by
    intro k
    induction k with
    | zero => exact fun _ => hb
    | succ k ih => exact fun hk => (t (up h b k) (Nat.pos_of_ne_zero (no' k (by omega))) (ih (by omega))).1
  have dec : ∀ k j, k ≤ h.length → j < k → r (up h b k) < r (up h b j) := by
    intro k
    induction k with
    | zero => intro j _ hj; omega
    | succ k ih =>
      intro j hk hj
      have q : r (up h b (k + 1)) < r (up h b k) := (t (up h b k) (Nat.pos_of_ne_zero (no' k (by omega))) (le k (by omega))).2
      rcases Nat.lt_or_eq_of_le (Nat.le_of_lt_succ hj) with l | rfl
      · exact Nat.lt_trans q (ih j (by omega) l)
      · exact q
  have nd : ((List.range (h.length + 1)).map (up h b)).Nodup := by
    refine List.pairwise_map.mpr (List.pairwise_lt_range.imp_of_mem fun {i j} hi hj hij e => ?_)
    have q := dec j i (by have := List.mem_range.mp hj; omega) hij
    rw [e] at q
    omega
  have q := pigeon_lt (n := h.length) nd fun x hx => by
    obtain ⟨k, hk, rfl⟩ := List.mem_map.mp hx
    have hk' := List.mem_range.mp hk
    exact ⟨Nat.pos_of_ne_zero (no' k (by omega)), le k (by omega)⟩
  simp at q
  omega
/-- a hangs somewhere above x -/
inductive Desc (h : List Nat) (a : Nat) : Nat → Prop where
  | child {x : Nat} (h1 : 1 ≤ x) (h2 : x ≤ h.length) (e : par h x = a) : Desc h a x
  | more {x : Nat} (h1 : 1 ≤ x) (h2 : x ≤ h.length) (d : Desc h a (par h x)) : Desc h a x
theorem Desc.le {h : List Nat} {a x : Nat} (d : Desc h a x) : 1 ≤ x ∧ x ≤ h.length := by
  cases d with
  | child h1 h2 _ => exact ⟨h1, h2⟩
  | more h1 h2 _ => exact ⟨h1, h2⟩
theorem Desc.ne {h : List Nat} {a x : Nat} (t : Tr h) (d : Desc h a x) : x ≠ a := by
  obtain ⟨r, t⟩ := t
  have q : r a < r x := by
    induction d with
    | child h1 h2 e => rw [← e]; exact (t _ h1 h2).2
    | more h1 h2 _ ih => exact Nat.lt_trans ih (t _ h1 h2).2
  intro e
  rw [e] at q
  omega
/-- below a child is below -/
theorem Desc.up {h : List Nat} {a w x : Nat} (dw : Desc h a w) (h1 : 1 ≤ x) (h2 : x ≤ h.length) (e : par h x = w) : Desc h a x := .more h1 h2 (e.symm ▸ dw)
theorem Desc.chain {h : List Nat} {a x : Nat} (d : Desc h a x) : ∃ k, 1 ≤ k ∧ FV.up h x k = a ∧ ∀ j, j < k → FV.up h x j ≠ 0 := by
  have shift : ∀ (x k : Nat), FV.up h x (k + 1) = FV.up h (par h x) k := by
    intro x k
    induction k with
    | zero => rfl
    | succ k ih => show par h (FV.up h x (k + 1)) = par h (FV.up h (par h x) k); rw [ih]
  induction d with
  | @child x h1 h2 e => exact ⟨1, Nat.le_refl _, e, fun j hj => by have : j = 0 := by omega
                                                                   subst this; show x ≠ 0; omega⟩
  | @more x h1 h2 _ ih =>
    obtain ⟨k, k1, ke, kn⟩ := ih
    refine ⟨k + 1, by omega, by rw [shift]; exact ke, fun j hj => ?_⟩
    cases j with
    | zero => show x ≠ 0; omega
    | succ j => rw [shift]; exact kn j (by omega)
/-! ### a move -/
def Mv (h : List Nat) (b p : Nat) : Prop := 1 ≤ b ∧ b ≤ h.length ∧ p ≤ h.length ∧ p ≠ b ∧ ¬ Desc h b p
theorem par_set {h : List Nat} {b p x : Nat} (hb : 1 ≤ b) (hb2 : b ≤ h.length) (hx : 1 ≤ x) : par (h.set (b - 1) p) x = if x = b then p else par h x := by
  unfold par ent
  rw [List.getD_eq_getElem?_getD, List.getD_eq_getElem?_getD, List.getElem?_set]
  by_cases e : x = b
  · subst e
    rw [if_pos rfl, if_pos rfl, if_pos (by omega)]
    rfl
  · rw [if_neg e, if_neg (by omega)]
theorem Mv.tree {h : List Nat} {b p : Nat} (t : Tr h) (m : Mv h b p) : Tr (h.set (b - 1) p) := by
  obtain ⟨b1, b2, p2, pb, nd⟩ := m
  obtain ⟨r, t⟩ := t
  classical
  refine ⟨fun k => if k = b ∨ Desc h b k then r k + r p + 1 else r k, fun x x1 x2 => ?_⟩
  rw [List.length_set] at x2 ⊢
  rw [par_set b1 b2 x1]
  by_cases e : x = b
  · subst e
    rw [if_pos rfl]
    refine ⟨p2, ?_⟩
    show (if p = x ∨ Desc h x p then r p + r p + 1 else r p) < (if x = x ∨ Desc h x x then r x + r p + 1 else r x)
    rw [if_neg (fun z => z.elim pb nd), if_pos (.inl rfl)]
    omega
  · rw [if_neg e]
    have q := t x x1 x2
    refine ⟨q.1, ?_⟩
    show (if par h x = b ∨ Desc h b (par h x) then r (par h x) + r p + 1 else r (par h x)) < (if x = b ∨ Desc h b x then r x + r p + 1 else r x)
    by_cases c : par h x = b ∨ Desc h b (par h x)
    · have d : Desc h b x := c.elim (fun z => .child x1 x2 z) (fun z => .more x1 x2 z)
      rw [if_pos c, if_pos (.inr d)]
      omega
    · rw [if_neg c]
      split
      · omega
      · exact q.2
/-- moves, one behind the other -/
def appM : List Nat → List (Nat × Nat) → List Nat
  | h, [] => h
  | h, (b, p) :: M => appM (h.set (b - 1) p) M
def Vm : List Nat → List (Nat × Nat) → Prop
  | _, [] => True
  | h, (b, p) :: M => Mv h b p ∧ Vm (h.set (b - 1) p) M
theorem appM_len : ∀ (M : List (Nat × Nat)) (h : List Nat), (appM h M).length = h.length
  | [], _ => rfl
  | (b, p) :: M, h => by
    unfold appM
    rw [appM_len M, List.length_set]
theorem appM_snoc : ∀ (M : List (Nat × Nat)) (h : List Nat) (b p : Nat), appM h (M ++ [(b, p)]) = (appM h M).set (b - 1) p
  | [], _, _, _ => rfl
  | (c, q) :: M, h, b, p => appM_snoc M (h.set (c - 1) q) b p
theorem Vm_snoc : ∀ (M : List (Nat × Nat)) (h : List Nat) (b p : Nat), Vm h M → Mv (appM h M) b p → Vm h (M ++ [(b, p)])
  | [], _, _, _, _, m => ⟨m, True.intro⟩
  | (c, q) :: M, h, b, p, v, m => ⟨v.1, Vm_snoc M _ b p v.2 m⟩
theorem Vm.tree : ∀ (M : List (Nat × Nat)) (h : List Nat), Tr h → Vm h M → Tr (appM h M)
  | [], _, t, _ => t
  | (b, p) :: M, h, t, v => Vm.tree M _ (v.1.tree t) v.2
def mb (M : List (Nat × Nat)) (i : Nat) : Nat := (M.getD i (0, 0)).1
def mp (M : List (Nat × Nat)) (i : Nat) : Nat := (M.getD i (0, 0)).2
theorem m_get {M : List (Nat × Nat)} {i : Nat} (hi : i < M.length) : M[i]? = some (mb M i, mp M i) := by
  unfold mb mp
  rw [List.getD_eq_getElem?_getD, List.getElem?_eq_getElem hi]
  rfl
theorem m_mem {M : List (Nat × Nat)} {i : Nat} (hi : i < M.length) : (mb M i, mp M i) ∈ M := List.mem_of_getElem? (m_get hi)
/-- the i-th move is one of the tree that the moves ahead make -/
theorem Vm.at : ∀ (M : List (Nat × Nat)) (h : List Nat) (i : Nat), Vm h M → i < M.length → Mv (appM h (M.take i)) (mb M i) (mp M i)
  | (b, p) :: M, h, 0, v, _ => v.1
  | (b, p) :: M, h, i + 1, v, hi => Vm.at M _ i v.2 (Nat.lt_of_succ_lt_succ hi)
theorem appM_take {M : List (Nat × Nat)} {h : List Nat} {i : Nat} (hi : i < M.length) : appM h (M.take (i + 1)) = (appM h (M.take i)).set (mb M i - 1) (mp M i) := by
  rw [List.take_succ, m_get hi]
  exact appM_snoc _ _ _ _
theorem Vm.mem : ∀ (M : List (Nat × Nat)) (h : List Nat), Vm h M → ∀ b p, (b, p) ∈ M → 1 ≤ b ∧ b ≤ h.length ∧ p ≤ h.length ∧ p ≠ b
  | [], _, _, _, _, hm => absurd hm List.not_mem_nil
  | (c, q) :: M, h, v, b, p, hm => by
    rcases List.mem_cons.mp hm with e | hm
    · cases e
      obtain ⟨a1, a2, a3, a4, _⟩ := v.1
      exact ⟨a1, a2, a3, a4⟩
    · have z := Vm.mem M _ v.2 b p hm
      rw [List.length_set] at z
      exact z
/-! ### what each block had -/
def hadL (h : List Nat) (M : List (Nat × Nat)) (b : Nat) : List Nat := (List.range (h.length + 1)).filter fun p => decide (par h b = p ∨ (b, p) ∈ M)
/-- each block's lot of places: not none, ascending, no block its own -/
structure Lots (n : Nat) (L : Nat → List Nat) : Prop where
  some : ∀ b, 1 ≤ b → b ≤ n → L b ≠ []
  le : ∀ b, 1 ≤ b → b ≤ n → ∀ p, p ∈ L b → p ≤ n
  ne : ∀ b, 1 ≤ b → b ≤ n → b ∉ L b
  asc : ∀ b, 1 ≤ b → b ≤ n → (L b).Pairwise (· < ·)
theorem mem_hadL {h : List Nat} {M : List (Nat × Nat)} (t : Tr h) (v : Vm h M) {b p : Nat} (b1 : 1 ≤ b) (b2 : b ≤ h.length) : p ∈ hadL h M b ↔ (par h b = p ∨ (b, p) ∈ M) := by
  unfold hadL
  rw [List.mem_filter, List.mem_range, decide_eq_true_iff]
  refine ⟨fun z => z.2, fun z => ⟨?_, z⟩⟩
  rcases z with rfl | z
  · exact Nat.lt_succ_of_le (t.le b1 b2)
  · exact Nat.lt_succ_of_le (Vm.mem M h v b p z).2.2.1
theorem had_lots {h : List Nat} {M : List (Nat × Nat)} (t : Tr h) (v : Vm h M) : Lots h.length (hadL h M) where
  some := fun b b1 b2 e => by
    have q : par h b ∈ hadL h M b := (mem_hadL t v b1 b2).mpr (.inl rfl)
    rw [e] at q
    exact absurd q List.not_mem_nil
  le := fun b b1 b2 p hp => by
    have q := (List.mem_filter.mp hp).1
    have := List.mem_range.mp q
    omega
  ne := fun b b1 b2 hp => by
    rcases (mem_hadL t v b1 b2).mp hp with z | z
    · exact t.ne b1 b2 z
    · exact (Vm.mem M h v b b z).2.2.2 rfl
  asc := fun b _ _ => List.pairwise_lt_range.filter _
end FV
/-! Plain law: what hangs beneath; sorted naturals. -/
namespace FV
def hangL (h : List Nat) (p : Nat) : List Nat := ((List.range h.length).filter fun i => decide (ent h i = p)).map (· + 1)
theorem mem_hangL {h : List Nat} {p x : Nat} : x ∈ hangL h p ↔ 1 ≤ x ∧ x ≤ h.length ∧ par h x = p := by
  unfold hangL
  simp only [List.mem_map, List.mem_filter, List.mem_range, decide_eq_true_iff]
  constructor
  · rintro ⟨i, ⟨hi, e⟩, rfl⟩
    exact ⟨by omega, by omega, e⟩
  · rintro ⟨a, b, e⟩
    exact ⟨x - 1, ⟨by omega, e⟩, by omega⟩
theorem nodup_hangL (h : List Nat) (p : Nat) : (hangL h p).Nodup := by
  unfold hangL
  refine List.pairwise_map.mpr ((List.pairwise_lt_range.filter _).imp fun hij e => ?_)
  omega
structure BInv (h : List Nat) (place : Nat) (fs ws ds : List Nat) : Prop where
  fnd : ∀ x, x ∈ fs ↔ 1 ≤ x ∧ x ≤ h.length ∧ par h x ∈ ds
  desc : ∀ x, x ∈ fs → Desc h place x
  fnod : fs.Nodup
  wnod : (ws ++ ds).Nodup
  wsub : ∀ x, x ∈ ws ++ ds → x = place ∨ x ∈ fs
theorem BInv.init (h : List Nat) (place : Nat) : BInv h place [] [place] [] where
  fnd := fun x => ⟨fun z => absurd z List.not_mem_nil, fun z => absurd z.2.2 List.not_mem_nil⟩
  desc := fun x z => absurd z List.not_mem_nil
  fnod := List.nodup_nil
  wnod := by simp
  wsub := fun x hx => .inl (by simpa using hx)
theorem BInv.step {h : List Nat} {place w : Nat} {fs ws ds : List Nat} (t : Tr h) (B : BInv h place fs (ws ++ [w]) ds) : BInv h place (fs ++ hangL h w) (ws ++ hangL h w) (w :: ds) := by
  have nd := B.wnod
  have hw : w ∉ ds := fun z => by
    have q := (List.nodup_append.mp nd).2.2
    exact q w (by simp) w z rfl
  have new : ∀ x, x ∈ hangL h w → x ∉ fs := fun x hx hf => hw ((mem_hangL.mp hx).2.2 ▸ ((B.fnd x).mp hf).2.2)
  have dw : ∀ x, x ∈ hangL h w → Desc h place x := fun x hx => by
    obtain ⟨x1, x2, e⟩ := mem_hangL.mp hx
    rcases B.wsub w (by simp) with z | z
    · exact .child x1 x2 (e.trans z)
    · exact (B.desc w z).up x1 x2 e
  have sub : ∀ x, x ∈ ws ++ (w :: ds) → x = place ∨ x ∈ fs := fun x hx => B.wsub x (by
    rcases List.mem_append.mp hx with z | z
    · simp [z]
    · rcases List.mem_cons.mp z with rfl | z
      · simp
      · simp [z])
  refine ⟨fun x => ?_, fun x hx => ?_, ?_, ?_, fun x hx => ?_⟩
  · rw [List.mem_append, B.fnd, mem_hangL, List.mem_cons]
    constructor
    · rintro (⟨a, b, c⟩ | ⟨a, b, c⟩)
      · exact ⟨a, b, .inr c⟩
      · exact ⟨a, b, .inl c⟩
    · rintro ⟨a, b, c | c⟩
      · exact .inr ⟨a, b, c⟩
      · exact .inl ⟨a, b, c⟩
  · rcases List.mem_append.mp hx with z | z
    · exact B.desc x z
    · exact dw x z
  · refine List.nodup_append.mpr ⟨B.fnod, nodup_hangL h w, fun x hx y hy e => ?_⟩
    subst e
    exact new x hy hx
  · have nd2 : (ws ++ (w :: ds)).Nodup := by
      have e : ws ++ (w :: ds) = ws ++ [w] ++ ds := by simp
      rw [e]
      exact nd
    rw [List.append_assoc]
    have q := List.nodup_append.mp nd2
    refine List.nodup_append.mpr ⟨q.1, List.nodup_append.mpr ⟨nodup_hangL h w, q.2.1, fun x hx y hy e => ?_⟩, fun x hx y hy e => ?_⟩
    · subst e
      rcases sub x (List.mem_append_right _ hy) with z | z
      · exact (dw x hx).ne t z
      · exact new x hx z
    · subst e
      rcases List.mem_append.mp hy with z | z
      · rcases sub x (List.mem_append_left _ hx) with u | u
        · exact (dw x z).ne t u
        · exact new x z u
      · exact q.2.2 x hx x z rfl
  · rw [List.append_assoc] at hx
    rcases List.mem_append.mp hx with z | z
    · rcases sub x (List.mem_append_left _ z) with u | u
      · exact .inl u
      · exact .inr (List.mem_append_left _ u)
    · rcases List.mem_append.mp z with z | z
      · exact .inr (List.mem_append_right _ z)
      · rcases sub x (List.mem_append_right _ z) with u | u
        · exact .inl u
        · exact .inr (List.mem_append_left _ u)
theorem BInv.flen {h : List Nat} {place : Nat} {fs ws ds : List Nat} (B : BInv h place fs ws ds) : fs.length ≤ h.length := pigeon_lt B.fnod fun x hx => (B.desc x hx).le
theorem BInv.wlen {h : List Nat} {place : Nat} {fs ws ds : List Nat} (B : BInv h place fs ws ds) : ws.length ≤ h.length + 1 := by
  have q := pigeon ws (place :: fs) (List.nodup_append.mp B.wnod).1 fun x hx => by
    rcases B.wsub x (List.mem_append_left _ hx) with z | z
    · exact z ▸ List.mem_cons_self
    · exact List.mem_cons_of_mem _ z
  have := B.flen
  simp only [List.length_cons] at q
  omega
theorem nil_or_snoc (l : List Nat) : l = [] ∨ ∃ l' v, l = l' ++ [v] := by
  rcases List.eq_nil_or_concat l with h | ⟨l', v, h⟩
  · exact .inl h
  · exact .inr ⟨l', v, by rw [h, List.concat_eq_append]⟩
/-- integers that are naturals -/
theorem nat_of {ns : List Int} {l : List Nat} (p : ns.Perm (l.map Int.ofNat)) : ∃ l' : List Nat, ns = l'.map Int.ofNat ∧ l'.Perm l := by
  have pos : ∀ z, z ∈ ns → 0 ≤ z := fun z hz => by
    obtain ⟨k, _, rfl⟩ := List.mem_map.mp (p.mem_iff.mp hz)
    exact Int.natCast_nonneg k
  refine ⟨ns.map Int.toNat, ?_, ?_⟩
  · rw [List.map_map]
    have q : ns.map (Int.ofNat ∘ Int.toNat) = ns.map id := List.map_congr_left fun z hz => Int.toNat_of_nonneg (pos z hz)
    rw [q, List.map_id]
  · have q := p.map Int.toNat
    rw [List.map_map] at q
    have e : l.map (Int.toNat ∘ Int.ofNat) = l.map id := List.map_congr_left fun _ _ => rfl
    rw [e, List.map_id] at q
    exact q
theorem nat_le {l : List Nat} (p : (l.map Int.ofNat).Pairwise (· ≤ ·)) : l.Pairwise (· ≤ ·) := (List.pairwise_map.mp p).imp fun h => Int.ofNat_le.mp h
theorem nat_lt {l : List Nat} (p : (l.map Int.ofNat).Pairwise (· < ·)) : l.Pairwise (· < ·) := (List.pairwise_map.mp p).imp fun h => Int.ofNat_lt.mp h
theorem sorted_is : ∀ {l m : List Nat}, l.Perm m → l.Pairwise (· ≤ ·) → m.Pairwise (· < ·) → l = m := fun {l m} p h1 h2 => by
  refine asc_eq ?_ h2 fun x => p.mem_iff
  have nd : l.Nodup := p.nodup_iff.mpr (h2.imp fun h => Nat.ne_of_lt h)
  exact List.pairwise_iff_getElem.mpr fun i j hi hj hij => by
    have a := List.pairwise_iff_getElem.mp h1 i j hi hj hij
    have b := List.pairwise_iff_getElem.mp nd i j hi hj hij
    omega
end FV
/-! Plain law: orders and rings. -/
namespace FV
/-- each block's place is one of the tree, and not itself -/
def Pl (U : List Nat) : Prop := ∀ b, 1 ≤ b → b ≤ U.length → par U b ≤ U.length ∧ par U b ≠ b
theorem Pl.le {U : List Nat} (t : Pl U) {b : Nat} (h1 : 1 ≤ b) (h2 : b ≤ U.length) : par U b ≤ U.length := (t b h1 h2).1
theorem Pl.ne {U : List Nat} (t : Pl U) {b : Nat} (h1 : 1 ≤ b) (h2 : b ≤ U.length) : par U b ≠ b := (t b h1 h2).2
theorem ent_app1 {l m : List Nat} {i : Nat} (h : i < l.length) : ent (l ++ m) i = ent l i := by
  unfold ent
  rw [List.getD_eq_getElem?_getD, List.getD_eq_getElem?_getD, List.getElem?_append_left h]
theorem ent_app2 {l m : List Nat} {i : Nat} (h : l.length ≤ i) : ent (l ++ m) i = ent m (i - l.length) := by
  unfold ent
  rw [List.getD_eq_getElem?_getD, List.getD_eq_getElem?_getD, List.getElem?_append_right h]
theorem mem_ent {l : List Nat} {x : Nat} (h : x ∈ l) : ∃ i, i < l.length ∧ ent l i = x := by
  obtain ⟨i, hi, e⟩ := List.mem_iff_getElem.mp h
  refine ⟨i, hi, ?_⟩
  unfold ent
  rw [List.getD_eq_getElem?_getD, List.getElem?_eq_getElem hi, e]
  rfl
theorem ent_inj {l : List Nat} (nd : l.Nodup) {i j : Nat} (hi : i < l.length) (hj : j < l.length) (e : ent l i = ent l j) : i = j := by
  have h1 := ent_get hi
  have h2 := ent_get hj
  rw [e, ← h2] at h1
  exact (List.getElem?_inj hi nd).mp h1
theorem all_ent {l : List Nat} (g : Nat → Bool) : (List.range l.length).all (fun i => g (ent l i)) = l.all g := by
  rw [Bool.eq_iff_iff, List.all_eq_true, List.all_eq_true]
  constructor
  · intro h x hx
    obtain ⟨i, hi, e⟩ := mem_ent hx
    rw [← e]
    exact h i (List.mem_range.mpr hi)
  · intro h i hi
    exact h _ (ent_mem (List.mem_range.mp hi))
/-! ### orders -/
structure Ord (L : Nat → List Nat) (n : Nat) (s : List Nat) : Prop where
  nd : s.Nodup
  zero : 0 ∈ s
  le : ∀ x, x ∈ s → x ≤ n
  bef : ∀ i, i < s.length → ent s i ≠ 0 → ∀ p, p ∈ L (ent s i) → ∃ j, j < i ∧ ent s j = p
def Closed (L : Nat → List Nat) (n : Nat) (s : List Nat) : Prop := ∀ b, 1 ≤ b → b ≤ n → (∀ p, p ∈ L b → p ∈ s) → b ∈ s
theorem Ord.sub {L : Nat → List Nat} {n : Nat} {s t : List Nat} (o : Ord L n s) (z : 0 ∈ t) (c : Closed L n t) : ∀ x, x ∈ s → x ∈ t := by
  have q : ∀ i, i < s.length → ent s i ∈ t := by
    intro i
    induction i using Nat.strongRecOn with
    | _ i ih =>
      intro hi
      by_cases h0 : ent s i = 0
      · rw [h0]
        exact z
      · refine c _ (Nat.pos_of_ne_zero h0) (o.le _ (ent_mem hi)) fun p hp => ?_
        obtain ⟨j, hj, e⟩ := o.bef i hi h0 p hp
        rw [← e]
        exact ih j hj (by omega)
  intro x hx
  obtain ⟨i, hi, e⟩ := mem_ent hx
  exact e ▸ q i hi
theorem Ord.len_eq {L : Nat → List Nat} {n : Nat} {s t : List Nat} (o : Ord L n s) (c : Closed L n s) (o' : Ord L n t) (c' : Closed L n t) : s.length = t.length :=
  Nat.le_antisymm (pigeon s t o.nd (o.sub o'.zero c')) (pigeon t s o'.nd (o'.sub o.zero c))
theorem Ord.start (L : Nat → List Nat) (n : Nat) : Ord L n [0] where
  nd := by simp
  zero := by simp
  le := fun x hx => by rw [List.mem_singleton] at hx; omega
  bef := fun i hi h0 => by
    have : i = 0 := by simpa using hi
    subst this
    exact absurd rfl h0
/-- more blocks behind, each with its lot ahead -/
theorem Ord.snoc {L : Nat → List Nat} {n : Nat} {s : List Nat} (o : Ord L n s) {b : Nat} (b2 : b ≤ n) (hb : b ∉ s) (hp : ∀ p, p ∈ L b → p ∈ s) : Ord L n (s ++ [b]) where
  nd := List.nodup_append.mpr ⟨o.nd, by simp, fun x hx y hy e => hb (by rw [List.mem_singleton] at hy; subst hy; exact e ▸ hx)⟩
  zero := List.mem_append_left _ o.zero
  le := fun x hx => by
    rcases List.mem_append.mp hx with h | h
    · exact o.le x h
    · rw [List.mem_singleton] at h
      omega
  bef := fun i hi h0 p hpp => by
    rw [List.length_append, List.length_singleton] at hi
    by_cases hlt : i < s.length
    · rw [ent_app1 hlt] at h0 hpp
      obtain ⟨j, hj, e⟩ := o.bef i hlt h0 p hpp
      exact ⟨j, hj, by rw [ent_app1 (by omega)]; exact e⟩
    · have e : i = s.length := by omega
      subst e
      rw [ent_app2 (Nat.le_refl _), Nat.sub_self] at hpp
      obtain ⟨j, hj, e⟩ := mem_ent (hp p hpp)
      exact ⟨j, hj, by rw [ent_app1 hj]; exact e⟩
theorem Ord.append {L : Nat → List Nat} {n : Nat} {s : List Nat} : ∀ {m : List Nat}, Ord L n s → m.Nodup → (∀ b, b ∈ m → b ≤ n ∧ b ∉ s ∧ ∀ p, p ∈ L b → p ∈ s) → Ord L n (s ++ m)
  | [], o, _, _ => by rw [List.append_nil]; exact o
  | b :: m, o, nd, h => by
    obtain ⟨h1, h2⟩ := List.nodup_cons.mp nd
    obtain ⟨a1, a2, a3⟩ := h b List.mem_cons_self
    have e : s ++ b :: m = (s ++ [b]) ++ m := by simp
    rw [e]
    refine Ord.append (o.snoc a1 a2 a3) h2 fun c hc => ?_
    obtain ⟨c1, c2, c3⟩ := h c (List.mem_cons_of_mem _ hc)
    refine ⟨c1, fun z => ?_, fun p hp => List.mem_append_left _ (c3 p hp)⟩
    rcases List.mem_append.mp z with z | z
    · exact c2 z
    · rw [List.mem_singleton] at z
      exact h1 (z ▸ hc)
theorem Ord.full {L : Nat → List Nat} {n : Nat} {s : List Nat} (o : Ord L n s) (h : n + 1 ≤ s.length) : Closed L n s := fun b _ b2 _ => pigeon_all o.nd (Nat.le_antisymm (pigeon_le o.nd o.le) h) o.le b b2
/-- the blocks 1 to n -/
def blocks (n : Nat) : List Nat := (List.range n).map (· + 1)
theorem mem_blocks {n b : Nat} : b ∈ blocks n ↔ 1 ≤ b ∧ b ≤ n := by
  unfold blocks
  rw [List.mem_map]
  constructor
  · rintro ⟨i, hi, rfl⟩
    have := List.mem_range.mp hi
    omega
  · rintro ⟨h1, h2⟩
    exact ⟨b - 1, List.mem_range.mpr (by omega), by omega⟩
theorem blocks_asc (n : Nat) : (blocks n).Pairwise (· < ·) := List.pairwise_map.mpr (List.pairwise_lt_range.imp fun h => by omega)
theorem blocks_len (n : Nat) : (blocks n).length = n := by simp [blocks]
theorem ent_blocks {n i : Nat} (h : i < n) : ent (blocks n) i = i + 1 := by
  unfold ent blocks
  rw [List.getD_eq_getElem?_getD]
  simp [h]
/-! ### passes: until nothing more can be put -/
def itr (f : List Nat → List Nat) : Nat → List Nat
  | 0 => [0]
  | k + 1 => f (itr f k)
theorem itr_closed {L : Nat → List Nat} {n : Nat} {f : List Nat → List Nat} (h1 : ∀ s, Ord L n s → Ord L n (f s)) (h2 : ∀ s, Ord L n s → Closed L n s → f s = s) (h3 : ∀ s, Ord L n s → ¬ Closed L n s → s.length < (f s).length) : Ord L n (itr f n) ∧ Closed L n (itr f n) := by
  have q : ∀ k, Ord L n (itr f k) ∧ (Closed L n (itr f k) ∨ k + 1 ≤ (itr f k).length) := by
    intro k
    induction k with
    | zero => exact ⟨Ord.start L n, .inr (Nat.le_refl _)⟩
    | succ k ih =>
      obtain ⟨o, c⟩ := ih
      refine ⟨h1 _ o, ?_⟩
      rcases Classical.em (Closed L n (itr f k)) with cl | cl
      · refine .inl ?_
        show Closed L n (f (itr f k))
        rw [h2 _ o cl]
        exact cl
      · have := h3 _ o cl
        rcases c with c | c
        · exact absurd c cl
        · refine .inr ?_
          show k + 1 + 1 ≤ (f (itr f k)).length
          omega
  obtain ⟨o, c⟩ := q n
  exact ⟨o, c.elim id o.full⟩
/-- one block's look, in the order's pass -/
def stp (L : Nat → List Nat) (s : List Nat) (b : Nat) : List Nat := if (!decide (b ∈ s) && (L b).all fun p => decide (p ∈ s)) = true then s ++ [b] else s
theorem stp_if {L : Nat → List Nat} {s : List Nat} {b : Nat} : (!decide (b ∈ s) && (L b).all fun p => decide (p ∈ s)) = true ↔ b ∉ s ∧ ∀ p, p ∈ L b → p ∈ s := by
  rw [Bool.and_eq_true, Bool.not_eq_true', decide_eq_false_iff_not, List.all_eq_true]
  simp only [decide_eq_true_iff]
theorem stp_ord {L : Nat → List Nat} {n : Nat} {s : List Nat} {b : Nat} (o : Ord L n s) (b2 : b ≤ n) : Ord L n (stp L s b) := by
  unfold stp
  split
  · rename_i h
    obtain ⟨a, c⟩ := stp_if.mp h
    exact o.snoc b2 a c
  · exact o
def trn (L : Nat → List Nat) (s : List Nat) (m : List Nat) : List Nat := m.foldl (stp L) s
theorem trn_ord {L : Nat → List Nat} {n : Nat} : ∀ {m s : List Nat}, Ord L n s → (∀ b, b ∈ m → b ≤ n) → Ord L n (trn L s m)
  | [], _, o, _ => o
  | b :: m, s, o, h => trn_ord (m := m) (stp_ord o (h b List.mem_cons_self)) fun c hc => h c (List.mem_cons_of_mem _ hc)
theorem trn_closed {L : Nat → List Nat} {n : Nat} {s : List Nat} (c : Closed L n s) : ∀ {m : List Nat}, (∀ b, b ∈ m → 1 ≤ b ∧ b ≤ n) → trn L s m = s
  | [], _ => rfl
  | b :: m, h => by
    have e : stp L s b = s := by
      unfold stp
      rw [if_neg]
      intro q
      obtain ⟨a, d⟩ := stp_if.mp q
      obtain ⟨b1, b2⟩ := h b List.mem_cons_self
      exact a (c b b1 b2 d)
    show trn L (stp L s b) m = s
    rw [e]
    exact trn_closed c fun c hc => h c (List.mem_cons_of_mem _ hc)
theorem stp_len {L : Nat → List Nat} {s : List Nat} {b : Nat} : s.length ≤ (stp L s b).length := by
  unfold stp
  split
  · simp
  · exact Nat.le_refl _
theorem trn_len {L : Nat → List Nat} : ∀ {m s : List Nat}, s.length ≤ (trn L s m).length
  | [], _ => Nat.le_refl _
  | b :: m, s => Nat.le_trans stp_len (trn_len (m := m) (s := stp L s b))
theorem trn_grow {L : Nat → List Nat} : ∀ {m s : List Nat} {b : Nat}, b ∈ m → b ∉ s → (∀ p, p ∈ L b → p ∈ s) → s.length < (trn L s m).length
  | c :: m, s, b, hb, hn, hp => by
    show s.length < (trn L (stp L s c) m).length
    by_cases e : stp L s c = s
    · rw [e]
      rcases List.mem_cons.mp hb with rfl | hb
      · exfalso
        have q : stp L s b = s ++ [b] := if_pos (stp_if.mpr ⟨hn, hp⟩)
        rw [q] at e
        have := congrArg List.length e
        simp at this
      · exact trn_grow hb hn hp
    · have q : stp L s c = s ++ [c] := by
        unfold stp at e ⊢
        split
        · rfl
        · rename_i h
          rw [if_neg h] at e
          exact absurd rfl e
      have q2 : (stp L s c).length = s.length + 1 := by rw [q]; simp
      have := trn_len (L := L) (m := m) (s := stp L s c)
      omega
def ordL (L : Nat → List Nat) (n : Nat) : List Nat := itr (fun s => trn L s (blocks n)) n
theorem ordL_ok (L : Nat → List Nat) (n : Nat) : Ord L n (ordL L n) ∧ Closed L n (ordL L n) := by
  refine itr_closed (fun s o => trn_ord o fun b hb => (mem_blocks.mp hb).2) (fun s _ c => trn_closed c fun b hb => mem_blocks.mp hb) fun s o c => ?_
  have : ∃ b, 1 ≤ b ∧ b ≤ n ∧ (∀ p, p ∈ L b → p ∈ s) ∧ b ∉ s := by
    refine Classical.byContradiction fun no => c fun b b1 b2 hp => ?_
    exact Classical.byContradiction fun hb => no ⟨b, b1, b2, hp, hb⟩
  obtain ⟨b, b1, b2, hp, hb⟩ := this
  exact trn_grow (mem_blocks.mpr ⟨b1, b2⟩) hb hp
/-- the law's own pass: all that can be put, at once -/
def rnd (L : Nat → List Nat) (n : Nat) (s : List Nat) : List Nat := s ++ (blocks n).filter fun b => !decide (b ∈ s) && (L b).all fun p => decide (p ∈ s)
def rndL (L : Nat → List Nat) (n : Nat) : List Nat := itr (rnd L n) n
theorem rnd_ord {L : Nat → List Nat} {n : Nat} {s : List Nat} (o : Ord L n s) : Ord L n (rnd L n s) :=
  o.append (((blocks_asc n).imp fun h => Nat.ne_of_lt h).filter _) fun b hb => by
    obtain ⟨h1, h2⟩ := List.mem_filter.mp hb
    obtain ⟨h3, h4⟩ := stp_if.mp h2
    exact ⟨(mem_blocks.mp h1).2, h3, h4⟩
theorem rndL_ok (L : Nat → List Nat) (n : Nat) : Ord L n (rndL L n) ∧ Closed L n (rndL L n) := by
  refine itr_closed (fun s o => rnd_ord o) (fun s _ c => ?_) fun s o c => ?_
  · unfold rnd
    rw [List.filter_eq_nil_iff.mpr, List.append_nil]
    intro b hb h
    obtain ⟨h3, h4⟩ := stp_if.mp h
    obtain ⟨b1, b2⟩ := mem_blocks.mp hb
    exact h3 (c b b1 b2 h4)
  · have : ∃ b, 1 ≤ b ∧ b ≤ n ∧ (∀ p, p ∈ L b → p ∈ s) ∧ b ∉ s := by
      refine Classical.byContradiction fun no => c fun b b1 b2 hp => ?_
      exact Classical.byContradiction fun hb => no ⟨b, b1, b2, hp, hb⟩
    obtain ⟨b, b1, b2, hp, hb⟩ := this
    have m : b ∈ (blocks n).filter fun b => !decide (b ∈ s) && (L b).all fun p => decide (p ∈ s) := List.mem_filter.mpr ⟨mem_blocks.mpr ⟨b1, b2⟩, stp_if.mpr ⟨hb, hp⟩⟩
    unfold rnd
    rw [List.length_append]
    have := List.length_pos_of_mem m
    omega
theorem ordL_take {L : Nat → List Nat} {m : List Nat} {s : List Nat} {i : Nat} (hi : i < m.length) : trn L s (m.take (i + 1)) = stp L (trn L s (m.take i)) (ent m i) := by
  unfold trn
  rw [List.take_succ, ent_get hi, List.foldl_append]
  rfl
/-! ### rings -/
def rot (R : List Nat) : List Nat := R.drop 1 ++ R.take 1
theorem rot_len {R : List Nat} (h : R ≠ []) : (rot R).length = R.length := by
  have := List.length_pos_iff.mpr h
  unfold rot
  rw [List.length_append, List.length_drop, List.length_take]
  omega
structure Ring (n : Nat) (L : Nat → List Nat) (R : List Nat) : Prop where
  ne : R ≠ []
  nd : R.Nodup
  inn : ∀ x, x ∈ R → 1 ≤ x ∧ x ≤ n
  had : ∀ i, i < R.length → ent (rot R) i ∈ L (ent R i)
/-- a row of blocks that cannot be put, each had by the one ahead -/
structure Row (n : Nat) (L : Nat → List Nat) (s r : List Nat) : Prop where
  ne : r ≠ []
  nd : r.Nodup
  inn : ∀ x, x ∈ r → 1 ≤ x ∧ x ≤ n ∧ x ∉ s
  had : ∀ i, i + 1 < r.length → ent r (i + 1) ∈ L (ent r i)
theorem Row.len {n : Nat} {L : Nat → List Nat} {s r : List Nat} (h : Row n L s r) : r.length ≤ n := pigeon_lt h.nd fun x hx => ⟨(h.inn x hx).1, (h.inn x hx).2.1⟩
def lst (r : List Nat) : Nat := ent r (r.length - 1)
theorem Row.last {n : Nat} {L : Nat → List Nat} {s r : List Nat} (h : Row n L s r) : lst r ∈ r := ent_mem (by have := List.length_pos_iff.mpr h.ne; omega)
theorem Row.more {n : Nat} {L : Nat → List Nat} {s r : List Nat} (h : Row n L s r) {x : Nat} (hx : 1 ≤ x ∧ x ≤ n ∧ x ∉ s) (hr : x ∉ r) (hl : x ∈ L (lst r)) : Row n L s (r ++ [x]) where
  ne := by simp
  nd := List.nodup_append.mpr ⟨h.nd, by simp, fun y hy z hz e => hr (by rw [List.mem_singleton] at hz; subst hz; exact e ▸ hy)⟩
  inn := fun y hy => by
    rcases List.mem_append.mp hy with hy | hy
    · exact h.inn y hy
    · rw [List.mem_singleton] at hy
      exact hy ▸ hx
  had := fun i hi => by
    have hp := List.length_pos_iff.mpr h.ne
    rw [List.length_append, List.length_singleton] at hi
    by_cases hlt : i + 1 < r.length
    · rw [ent_app1 hlt, ent_app1 (by omega)]
      exact h.had i hlt
    · have e : i = r.length - 1 := by omega
      subst e
      have e2 : r.length - 1 + 1 - r.length = 0 := by omega
      rw [ent_app2 (l := r) (i := r.length - 1 + 1) (by omega), ent_app1 (l := r) (i := r.length - 1) (by omega), e2]
      exact hl
theorem ent_drop {l : List Nat} {j i : Nat} : ent (l.drop j) i = ent l (j + i) := by
  unfold ent
  rw [List.getD_eq_getElem?_getD, List.getD_eq_getElem?_getD, List.getElem?_drop]
theorem ent_rot {R : List Nat} {i : Nat} (hi : i < R.length) : ent (rot R) i = if i + 1 < R.length then ent R (i + 1) else ent R 0 := by
  unfold rot
  by_cases h : i + 1 < R.length
  · rw [if_pos h, ent_app1 (by rw [List.length_drop]; omega), ent_drop, Nat.add_comm]
  · rw [if_neg h, ent_app2 (by rw [List.length_drop]; omega), List.length_drop]
    have e : i - (R.length - 1) = 0 := by omega
    rw [e]
    unfold ent
    rw [List.getD_eq_getElem?_getD, List.getD_eq_getElem?_getD, List.getElem?_take, if_pos (by omega)]
theorem Row.ring {n : Nat} {L : Nat → List Nat} {s r : List Nat} (h : Row n L s r) {j : Nat} (hj : j < r.length) (hl : ent r j ∈ L (lst r)) : Ring n L (r.drop j) where
  ne := by
    intro e
    have := congrArg List.length e
    rw [List.length_drop, List.length_nil] at this
    omega
  nd := h.nd.sublist (List.drop_sublist _ _)
  inn := fun x hx => by
    obtain ⟨a, b, _⟩ := h.inn x (List.mem_of_mem_drop hx)
    exact ⟨a, b⟩
  had := fun i hi => by
    rw [ent_rot hi]
    rw [List.length_drop] at hi ⊢
    rw [ent_drop, ent_drop, ent_drop]
    split
    · have q := h.had (j + i) (by omega)
      rw [← Nat.add_assoc]
      exact q
    · have e : j + i = r.length - 1 := by omega
      rw [e, Nat.add_zero]
      exact hl
/-- some block was not put, and so some place of it was not -/
theorem not_put {L : Nat → List Nat} {n : Nat} {s : List Nat} (o : Ord L n s) (h : s.length ≠ n + 1) : ∃ b, 1 ≤ b ∧ b ≤ n ∧ b ∉ s := by
  refine Classical.byContradiction fun no => h ?_
  refine Nat.le_antisymm (pigeon_le o.nd o.le) ?_
  have q := pigeon (List.range (n + 1)) s List.nodup_range fun x hx => by
    have hx := List.mem_range.mp hx
    refine Classical.byContradiction fun hs => ?_
    by_cases h0 : x = 0
    · exact hs (h0 ▸ o.zero)
    · exact no ⟨x, by omega, by omega, hs⟩
  simpa using q
theorem next_not {L : Nat → List Nat} {n : Nat} {s : List Nat} (z : 0 ∈ s) (c : Closed L n s) (lo : Lots n L) {b : Nat} (b1 : 1 ≤ b) (b2 : b ≤ n) (hb : b ∉ s) : ∃ p, p ∈ L b ∧ p ∉ s := by
  refine Classical.byContradiction fun no => hb (c b b1 b2 fun p hp => ?_)
  exact Classical.byContradiction fun hs => no ⟨p, hp, hs⟩
theorem next_in {L : Nat → List Nat} {n : Nat} {s : List Nat} (z : 0 ∈ s) (lo : Lots n L) {b p : Nat} (b1 : 1 ≤ b) (b2 : b ≤ n) (hp : p ∈ L b) (hs : p ∉ s) : 1 ≤ p ∧ p ≤ n ∧ p ∉ s :=
  ⟨Nat.pos_of_ne_zero fun e => hs (e ▸ z), lo.le b b1 b2 p hp, hs⟩
/-! ### the ring's words -/
def ringU (h R : List Nat) : Nat → List Nat
  | 0 => h
  | i + 1 => (ringU h R i).set (ent R i - 1) (ent (rot R) i)
theorem ringU_len (h R : List Nat) : ∀ i, (ringU h R i).length = h.length
  | 0 => rfl
  | i + 1 => by
    show ((ringU h R i).set _ _).length = _
    rw [List.length_set, ringU_len h R i]
theorem ringU_had {n : Nat} {L : Nat → List Nat} {h R : List Nat} (hn : h.length = n) (hp : ∀ b, 1 ≤ b → b ≤ n → par h b ∈ L b) (g : Ring n L R) : ∀ i, i ≤ R.length → ∀ b, 1 ≤ b → b ≤ n → par (ringU h R i) b ∈ L b
  | 0, _ => hp
  | i + 1, hi => fun b b1 b2 => by
    have hi' : i < R.length := hi
    obtain ⟨r1, r2⟩ := g.inn _ (ent_mem hi')
    show par ((ringU h R i).set (ent R i - 1) (ent (rot R) i)) b ∈ L b
    rw [par_set r1 (by rw [ringU_len, hn]; exact r2) b1]
    split
    · rename_i e
      rw [e]
      exact g.had i hi'
    · exact ringU_had hn hp g i (by omega) b b1 b2
theorem ringU_at {n : Nat} {L : Nat → List Nat} {h R : List Nat} (hn : h.length = n) (g : Ring n L R) : ∀ i, i ≤ R.length → ∀ j, j < i → par (ringU h R i) (ent R j) = ent (rot R) j
  | 0, _ => fun j hj => absurd hj (Nat.not_lt_zero j)
  | i + 1, hi => fun j hj => by
    have hi' : i < R.length := hi
    obtain ⟨r1, r2⟩ := g.inn _ (ent_mem hi')
    obtain ⟨s1, s2⟩ := g.inn _ (ent_mem (show j < R.length by omega))
    show par ((ringU h R i).set (ent R i - 1) (ent (rot R) i)) (ent R j) = ent (rot R) j
    rw [par_set r1 (by rw [ringU_len, hn]; exact r2) s1]
    by_cases e : j = i
    · rw [e, if_pos rfl]
    · rw [if_neg fun z => e (ent_inj g.nd (by omega) hi' z)]
      exact ringU_at hn g i (by omega) j (by omega)
theorem pl_of {n : Nat} {L : Nat → List Nat} {U : List Nat} (lo : Lots n L) (hn : U.length = n) (h : ∀ b, 1 ≤ b → b ≤ n → par U b ∈ L b) : Pl U := fun b b1 b2 => by
  rw [hn] at b2 ⊢
  refine ⟨lo.le b b1 b2 _ (h b b1 b2), fun e => lo.ne b b1 b2 ?_⟩
  have q := h b b1 b2
  rw [e] at q
  exact q
end FV
/-! Plain law: the law's own tree and its rows. -/
namespace FV
/-- a tree while it grows: what is left, the places, what each hangs from -/
structure TInv (n : Nat) (ls pl fs : List Nat) : Prop where
  lnd : ls.Nodup
  lin : ∀ x, x ∈ ls → 1 ≤ x ∧ x ≤ n
  pnd : pl.Nodup
  ple : ∀ x, x ∈ pl → x ≤ n
  zero : 0 ∈ pl
  dis : ∀ x, x ∈ ls → x ∉ pl
  all : ∀ x, 1 ≤ x → x ≤ n → x ∈ ls ∨ x ∈ pl
  len : fs.length = n
  bef : ∀ i, i < pl.length → ent pl i ≠ 0 → ∃ j, j < i ∧ ent fs (ent pl i - 1) = ent pl j
theorem TInv.init (n : Nat) : TInv n (blocks n) [0] (List.replicate n 0) where
  lnd := (blocks_asc n).imp fun h => Nat.ne_of_lt h
  lin := fun x hx => mem_blocks.mp hx
  pnd := by simp
  ple := fun x hx => by rw [List.mem_singleton] at hx; omega
  zero := by simp
  dis := fun x hx hp => by
    rw [List.mem_singleton] at hp
    have := mem_blocks.mp hx
    omega
  all := fun x h1 h2 => .inl (mem_blocks.mpr ⟨h1, h2⟩)
  len := by simp
  bef := fun i hi h0 => by
    have : i = 0 := by simpa using hi
    subst this
    exact absurd rfl h0
theorem ent_set {l : List Nat} {i j v : Nat} (hi : i < l.length) : ent (l.set i v) j = if j = i then v else ent l j := by
  unfold ent
  rw [List.getD_eq_getElem?_getD, List.getD_eq_getElem?_getD, List.getElem?_set]
  by_cases e : j = i
  · subst e
    rw [if_pos rfl, if_pos rfl, if_pos hi]
    rfl
  · rw [if_neg e, if_neg fun z => e z.symm]
theorem mem_erase {l : List Nat} (nd : l.Nodup) {k : Nat} (hk : k < l.length) {x : Nat} : x ∈ l.eraseIdx k ↔ x ∈ l ∧ x ≠ ent l k := by
  constructor
  · intro h
    obtain ⟨j, hj, e⟩ := List.mem_iff_getElem.mp h
    rw [List.length_eraseIdx_of_lt hk] at hj
    rw [List.getElem_eraseIdx] at e
    split at e
    · rename_i h1
      refine ⟨e ▸ List.getElem_mem _, fun z => ?_⟩
      have e1 : ent l j = ent l k := by
        rw [← z, ← e]
        unfold ent
        rw [List.getD_eq_getElem?_getD, List.getElem?_eq_getElem (by omega)]
        rfl
      have := ent_inj nd (by omega) hk e1
      omega
    · rename_i h1
      refine ⟨e ▸ List.getElem_mem _, fun z => ?_⟩
      have e1 : ent l (j + 1) = ent l k := by
        rw [← z, ← e]
        unfold ent
        rw [List.getD_eq_getElem?_getD, List.getElem?_eq_getElem (by omega)]
        rfl
      have := ent_inj nd (by omega) hk e1
      omega
  · rintro ⟨h, ne⟩
    obtain ⟨j, hj, e⟩ := List.mem_iff_getElem.mp h
    have ek : ent l k = l[k] := by
      unfold ent
      rw [List.getD_eq_getElem?_getD, List.getElem?_eq_getElem hk]
      rfl
    have jk : j ≠ k := fun z => by
      subst z
      exact ne (e.symm.trans ek.symm)
    rw [List.mem_iff_getElem]
    by_cases h1 : j < k
    · refine ⟨j, by rw [List.length_eraseIdx_of_lt hk]; omega, ?_⟩
      rw [List.getElem_eraseIdx]
      rw [dif_pos h1]
      exact e
    · refine ⟨j - 1, by rw [List.length_eraseIdx_of_lt hk]; omega, ?_⟩
      rw [List.getElem_eraseIdx, dif_neg (by omega)]
      have : j - 1 + 1 = j := by omega
      simp only [this]
      exact e
theorem TInv.step {n : Nat} {ls pl fs : List Nat} (T : TInv n ls pl fs) {k c : Nat} (hk : k < ls.length) (hc : c < pl.length) : TInv n (ls.eraseIdx k) (pl ++ [ent ls k]) (fs.set (ent ls k - 1) (ent pl c)) := by
  have bm : ent ls k ∈ ls := ent_mem hk
  obtain ⟨b1, b2⟩ := T.lin _ bm
  have bp : ent ls k ∉ pl := T.dis _ bm
  have hlt : ent ls k - 1 < fs.length := by rw [T.len]; omega
  refine ⟨T.lnd.sublist (List.eraseIdx_sublist _ _), fun x hx => T.lin x ((mem_erase T.lnd hk).mp hx).1, ?_, fun x hx => ?_, List.mem_append_left _ T.zero, fun x hx hp => ?_, fun x h1 h2 => ?_, by rw [List.length_set]; exact T.len, fun i hi h0 => ?_⟩
  · exact List.nodup_append.mpr ⟨T.pnd, by simp, fun x hx y hy e => bp (by rw [List.mem_singleton] at hy; subst hy; exact e ▸ hx)⟩
  · rcases List.mem_append.mp hx with h | h
    · exact T.ple x h
    · rw [List.mem_singleton] at h
      omega
  · obtain ⟨q1, q2⟩ := (mem_erase T.lnd hk).mp hx
    rcases List.mem_append.mp hp with h | h
    · exact T.dis x q1 h
    · rw [List.mem_singleton] at h
      exact q2 h
  · by_cases e : x = ent ls k
    · exact .inr (by rw [e]; simp)
    · rcases T.all x h1 h2 with h | h
      · exact .inl ((mem_erase T.lnd hk).mpr ⟨h, e⟩)
      · exact .inr (List.mem_append_left _ h)
  · rw [List.length_append, List.length_singleton] at hi
    by_cases hlt2 : i < pl.length
    · rw [ent_app1 hlt2] at h0 ⊢
      obtain ⟨j, hj, e⟩ := T.bef i hlt2 h0
      have ne : ent pl i ≠ ent ls k := fun z => bp (z ▸ ent_mem hlt2)
      refine ⟨j, hj, ?_⟩
      rw [ent_set hlt, if_neg (by omega), ent_app1 (by omega)]
      exact e
    · have e : i = pl.length := by omega
      subst e
      refine ⟨c, hc, ?_⟩
      rw [ent_app2 (Nat.le_refl _), Nat.sub_self, ent_app1 hc]
      show ent (fs.set (ent ls k - 1) (ent pl c)) (ent ls k - 1) = ent pl c
      rw [ent_set hlt, if_pos rfl]
theorem TInv.tree {n : Nat} {pl fs : List Nat} (T : TInv n [] pl fs) : Tr fs := by
  classical
  have pos : ∀ b, b ≤ n → ∃ i, i < pl.length ∧ ent pl i = b := fun b hb => by
    by_cases h0 : b = 0
    · exact mem_ent (h0 ▸ T.zero)
    · rcases T.all b (by omega) hb with h | h
      · exact absurd h List.not_mem_nil
      · exact mem_ent h
  refine ⟨fun b => if h : b ≤ n then Classical.choose (pos b h) else 0, fun b b1 b2 => ?_⟩
  rw [T.len] at b2 ⊢
  have hb := Classical.choose_spec (pos b b2)
  obtain ⟨j, hj, e⟩ := T.bef (Classical.choose (pos b b2)) hb.1 (by rw [hb.2]; omega)
  rw [hb.2] at e
  have e : par fs b = ent pl j := e
  have hp : par fs b ≤ n := by rw [e]; exact T.ple _ (ent_mem (by omega))
  refine ⟨hp, ?_⟩
  have hq := Classical.choose_spec (pos (par fs b) hp)
  have : Classical.choose (pos (par fs b) hp) = j := ent_inj T.pnd hq.1 (by omega) (hq.2.trans e)
  simp only [hp, b2, dif_pos]
  rw [this]
  exact hj
/-! the law's row of a place: what it hangs from, up to 0 -/
def rowF (h : List Nat) : Nat → Nat → List Nat
  | 0, _ => []
  | k + 1, x => if x = 0 then [] else par h x :: rowF h k (par h x)
def rowL (h : List Nat) (x : Nat) : List Nat := rowF h (h.length + 1) x
theorem rowF_len (h : List Nat) : ∀ k x, (rowF h k x).length ≤ k
  | 0, _ => Nat.le_refl _
  | k + 1, x => by
    unfold rowF
    split
    · exact Nat.zero_le _
    · have := rowF_len h k (par h x)
      simp only [List.length_cons]
      omega
theorem up_shift (h : List Nat) (x k : Nat) : up h x (k + 1) = up h (par h x) k := by
  induction k with
  | zero => rfl
  | succ k ih => show par h (up h x (k + 1)) = par h (up h (par h x) k); rw [ih]
theorem mem_rowF {h : List Nat} : ∀ (k x j : Nat), 1 ≤ j → j ≤ k → (∀ i, i < j → up h x i ≠ 0) → up h x j ∈ rowF h k x
  | 0, _, j, h1, h2, _ => by omega
  | k + 1, x, j, h1, h2, h3 => by
    have x0 : x ≠ 0 := h3 0 (by omega)
    unfold rowF
    rw [if_neg x0]
    obtain ⟨i, rfl⟩ : ∃ i, j = i + 1 := ⟨j - 1, by omega⟩
    rw [up_shift]
    by_cases hi : i = 0
    · subst hi
      exact List.mem_cons_self
    · exact List.mem_cons_of_mem _ (mem_rowF k (par h x) i (by omega) (by omega) fun c hc => by rw [← up_shift]; exact h3 (c + 1) (by omega))
theorem Desc.row {h : List Nat} (t : Tr h) {a x : Nat} (d : Desc h a x) : a ∈ rowL h x := by
  obtain ⟨j, j1, je, jn⟩ := d.chain
  obtain ⟨k0, k1, k2⟩ := home t d.le.2
  have : j ≤ k0 := Nat.le_of_not_lt fun z => jn k0 z k2
  have q := mem_rowF (h.length + 1) x j j1 (by omega) jn
  rw [je] at q
  exact q
/-- the law's blocks beneath -/
def benL (h : List Nat) (b : Nat) : List Nat := ((List.range h.length).filter fun i => decide (b ∈ (i + 1) :: rowL h (i + 1))).map (· + 1)
theorem mem_benL {h : List Nat} {b x : Nat} : x ∈ benL h b ↔ 1 ≤ x ∧ x ≤ h.length ∧ b ∈ x :: rowL h x := by
  unfold benL
  simp only [List.mem_map, List.mem_filter, List.mem_range, decide_eq_true_iff]
  constructor
  · rintro ⟨i, ⟨hi, e⟩, rfl⟩
    exact ⟨by omega, by omega, e⟩
  · rintro ⟨a, c, e⟩
    refine ⟨x - 1, ⟨by omega, ?_⟩, by omega⟩
    rw [show x - 1 + 1 = x by omega]
    exact e
/-- a place that is not beneath: a move -/
theorem mv_of {h : List Nat} (t : Tr h) {b p : Nat} (b1 : 1 ≤ b) (b2 : b ≤ h.length) (p2 : p ≤ h.length) (hp : p ∉ benL h b) : Mv h b p :=
  ⟨b1, b2, p2, fun e => hp (mem_benL.mpr ⟨by omega, p2, e ▸ List.mem_cons_self⟩), fun d => hp (mem_benL.mpr ⟨d.le.1, d.le.2, List.mem_cons_of_mem _ (d.row t)⟩)⟩
def freeL (h : List Nat) (b : Nat) : List Nat := (List.range (h.length + 1)).filter fun p => !decide (p ∈ benL h b)
theorem mem_freeL {h : List Nat} {b p : Nat} : p ∈ freeL h b ↔ p ≤ h.length ∧ p ∉ benL h b := by
  unfold freeL
  rw [List.mem_filter, List.mem_range, Bool.not_eq_true', decide_eq_false_iff_not]
  exact ⟨fun z => ⟨by omega, z.2⟩, fun z => ⟨by omega, z.2⟩⟩
theorem freeL_pos (h : List Nat) (b : Nat) : 0 < (freeL h b).length := by
  refine List.length_pos_of_mem (a := 0) (mem_freeL.mpr ⟨Nat.zero_le _, fun z => ?_⟩)
  have := (mem_benL.mp z).1
  omega
end FV
namespace FV
open PySem PySem.Spec PyProof.Rows L2 Evl
def WBody (W : Nat → SS → Hp → Prop) (m : Nat) (tb : TS) (D : Ends) (σ : SS) (H : Hp) : Prop := ∃ N : SS → Hp → Prop, (∀ σ' H', N σ' H' → ∃ m', m' < m ∧ W m' σ' H') ∧ tb { D with nx := N, ct := N, bk := D.nx } σ H
theorem while_w {t : TT} {tb : TS} {D : Ends} {σ : SS} {H : Hp} (W : Nat → SS → Hp → Prop) (m0 : Nat) (h0 : W m0 σ H) (hs : ∀ m σ' H', W m σ' H' → t σ' H' fun b H1 => if b = true then WBody W m tb D σ' H1 else D.nx σ' H1) : tWhile t tb D σ H := ⟨W, ⟨m0, h0⟩, hs⟩
theorem wbody {W : Nat → SS → Hp → Prop} {m : Nat} {tb : TS} {D : Ends} {σ : SS} {H : Hp} (k : tb { D with nx := fun σ' H' => ∃ m', m' < m ∧ W m' σ' H', ct := fun σ' H' => ∃ m', m' < m ∧ W m' σ' H', bk := D.nx } σ H) : WBody W m tb D σ H := ⟨_, fun _ _ h => h, k⟩
theorem nv_map (l : List Nat) : (l.map Int.ofNat).map V.int = l.map nv := by rw [List.map_map]; rfl
section
variable {K : PySem.W.Frag} {H : Hp} {Q : VK}
theorem l_sorted {a : Addr} {l : List Nat} (h : SqL K H a (l.map nv)) (hl : l.length < 64) (k : ∀ (l' : List Nat) p H2, l'.Perm l → l'.Pairwise (· ≤ ·) → H p = none → Ex H H2 → H2 p = some (.lst (l'.map nv)) → Q (.ref p) H2) : rSorted K [.ref a] H Q := by
  refine ⟨a, l.map Int.ofNat, rfl, by rw [nv_map]; exact h, by rw [List.length_map]; exact hl, fun ns p pm pw hp => ?_⟩
  obtain ⟨l', rfl, p2⟩ := nat_of pm
  exact k l' p _ p2 (nat_le pw) hp (Ex.new hp) (by rw [nv_map]; exact upd_same)
theorem l_sortedT {a : Addr} {l : List Nat} (h : SqT K H a (l.map nv)) (hl : l.length < 64) (k : ∀ (l' : List Nat) p H2, l'.Perm l → l'.Pairwise (· ≤ ·) → H p = none → Ex H H2 → H2 p = some (.lst (l'.map nv)) → Q (.ref p) H2) : rSortTu K [.ref a] H Q := by
  refine ⟨a, l.map Int.ofNat, rfl, by rw [nv_map]; exact h, by rw [List.length_map]; exact hl, fun ns p pm pw hp => ?_⟩
  obtain ⟨l', rfl, p2⟩ := nat_of pm
  exact k l' p _ p2 (nat_le pw) hp (Ex.new hp) (by rw [nv_map]; exact upd_same)
theorem l_sortedD {a : Addr} {kvs : List (Key × V)} {l : List Nat} (h : Rd H a (.dK kvs)) (hk : kvs.map (·.1) = (l.map Int.ofNat).map Sum.inl) (hl : l.length < 64) (k : ∀ (l' : List Nat) p H2, l'.Perm l → l'.Pairwise (· ≤ ·) → H p = none → Ex H H2 → H2 p = some (.lst (l'.map nv)) → Q (.ref p) H2) : rSortDI [.ref a] H Q := by
  refine ⟨a, kvs, l.map Int.ofNat, rfl, h, hk, by rw [List.length_map]; exact hl, fun ns p pm pw hp => ?_⟩
  obtain ⟨l', rfl, p2⟩ := nat_of pm
  exact k l' p _ p2 (nat_le pw) hp (Ex.new hp) (by rw [nv_map]; exact upd_same)
theorem l_make {C : Addr} {sp : Sp} {E : XK} {vs : List V} (k : ∀ x dx Hm, H x = none → Ex H Hm → Hm x = some (.ins C dx []) → sp (.ref x :: (vs ++ [])) Hm (fun v H2 => v = .non ∧ Q (.ref x) H2) E) : leafMake C sp [] E Q vs H :=
  fun x dx hx hd hn => k x dx _ hx (Ex.mut (Ex.new hd) hx) upd_same
theorem dget_rd {a : Addr} {kvs : List (Key × V)} {k : Key} {o : Option V} (h : Rd H a (.dK kvs)) (e : valV kvs k = o) : DGet H a (kV k) o := .inl ⟨kvs, k, h, rfl, e.symm⟩
theorem dget_rdT {a b : Addr} {kvs : List (List Key × V)} {k : List Key} {o : Option V} (h : Rd H a (.dT kvs)) (hb : H b = some (.tup (k.map kV))) (e : valV kvs k = o) : DGet H a (.ref b) o := .inr ⟨kvs, k, b, h, rfl, hb, e.symm⟩
theorem rd_frz {a : Addr} {o : Obj} {u : HO} (h : H a = some (.frz o u)) : Rd H a u := .inr ⟨o, h⟩
theorem rd_of {a : Addr} {u : HO} (h : H a = some u) : Rd H a u := .inl h
end
/-- a dict's value at one of its keys -/
theorem valV_at {κ : Type} [DecidableEq κ] {n : Nat} {key : Nat → κ} {v : Nat → V} {j : Nat} (hj : j < n) (inj : ∀ i, i < n → key i = key j → i = j) : valV ((List.range n).map fun i => (key i, v i)) (key j) = some (v j) := by
  have q : ∀ m, m ≤ n → valV ((List.range m).map fun i => (key i, v i)) (key j) = if j < m then some (v j) else none := by
    intro m
    induction m with
    | zero => intro _; rw [if_neg (Nat.not_lt_zero j)]; rfl
    | succ m ih =>
      intro hm
      have ih := ih (by omega)
      unfold valV at ih ⊢
      rw [List.range_succ, List.map_append, List.find?_append]
      by_cases hjm : j < m
      · rw [if_pos hjm] at ih
        rw [if_pos (by omega)]
        cases e : List.find? (fun kv => decide (kv.1 = key j)) ((List.range m).map fun i => (key i, v i)) with
        | none => rw [e] at ih; cases ih
        | some z => rw [e] at ih; exact ih
      · rw [if_neg hjm] at ih
        cases e : List.find? (fun kv => decide (kv.1 = key j)) ((List.range m).map fun i => (key i, v i)) with
        | some z => rw [e] at ih; cases ih
        | none =>
          by_cases e2 : m = j
          · subst e2
            rw [if_pos (Nat.lt_succ_self m)]
            simp
          · rw [if_neg (by omega)]
            have ne : ¬ key m = key j := fun z => e2 (inj m (by omega) z)
            simp [ne]
  rw [q n (Nat.le_refl n), if_pos hj]
theorem valV_no {κ : Type} [DecidableEq κ] {n : Nat} {key : Nat → κ} {v : Nat → V} {k : κ} (h : ∀ i, i < n → key i ≠ k) : valV ((List.range n).map fun i => (key i, v i)) k = none := by
  unfold valV
  rw [Option.map_eq_none_iff, List.find?_eq_none]
  intro x hx
  obtain ⟨i, hi, rfl⟩ := List.mem_map.mp hx
  simp only [decide_eq_true_eq]
  exact h i (List.mem_range.mp hi)
/-- blocks as keys -/
def kB (i : Nat) : Int := ((i + 1 : Nat) : Int)
theorem valV_b {n : Nat} {v : Nat → V} {b : Nat} (b1 : 1 ≤ b) (b2 : b ≤ n) : valV ((List.range n).map fun i => ((Sum.inl (kB i) : Key), v i)) (Sum.inl (b : Int)) = some (v (b - 1)) := by
  have q := valV_at (κ := Key) (n := n) (key := fun i => Sum.inl (kB i)) (v := v) (j := b - 1) (by omega) fun i _ e => by
    have e2 : kB i = kB (b - 1) := Sum.inl.inj e
    unfold kB at e2
    omega
  have e : kB (b - 1) = (b : Int) := by unfold kB; omega
  rw [← e]
  exact q
/-! ### what stands on the heap -/
def InsAt (C : Addr) (H : Hp) (t : Addr) (fs : List (Str × V)) : Prop := ∃ dx, H t = some (.ins C dx fs)
theorem InsAt.mono {C t : Addr} {H H' : Hp} {fs : List (Str × V)} (h : InsAt C H t fs) (e : Ex H H') : InsAt C H' t fs := let ⟨dx, q⟩ := h; ⟨dx, e _ _ q⟩
def NsT (H : Hp) (a : Addr) (l : List Nat) : Prop := H a = some (.tup (l.map nv))
def MovesAt (H : Hp) (m : Addr) (M : List (Nat × Nat)) : Prop := ∃ ad : Nat → Addr, H m = some (.tup ((List.range M.length).map fun i => V.ref (ad i))) ∧ ∀ i, i < M.length → H (ad i) = some (.tup [nv (mb M i), nv (mp M i)])
theorem MovesAt.mono {H H' : Hp} {m : Addr} {M : List (Nat × Nat)} (h : MovesAt H m M) (e : Ex H H') : MovesAt H' m M := let ⟨ad, a, b⟩ := h; ⟨ad, e _ _ a, fun i hi => e _ _ (b i hi)⟩
theorem s_mt : ¬ (("moves" : Str) = "tree") := by decide +kernel
theorem s_tm : ¬ (("tree" : Str) = "moves") := by decide +kernel
theorem s_ub : ¬ (("ups" : Str) = "blocks") := by decide +kernel
theorem s_bu : ¬ (("blocks" : Str) = "ups") := by decide +kernel
theorem s_lb : ¬ (("lists" : Str) = "blocks") := by decide +kernel
theorem s_bl : ¬ (("blocks" : Str) = "lists") := by decide +kernel
theorem s_ul : ¬ (("ups" : Str) = "lists") := by decide +kernel
def hF (t m : Addr) : List (Str × V) := putF "moves" (.ref m) (putF "tree" (.ref t) [])
theorem hF_tree (t m : Addr) : (hF t m).lookup ("tree" : Str) = some (.ref t) := by
  unfold hF
  rw [lookup_putF, if_neg s_tm, lookup_putF, if_pos rfl]
theorem hF_moves (t m : Addr) : (hF t m).lookup ("moves" : Str) = some (.ref m) := by
  unfold hF
  rw [lookup_putF, if_pos rfl]
def wF (n : Nat) (u l : Addr) : List (Str × V) := putF "lists" (.ref l) (putF "ups" (.ref u) (putF "blocks" (nv n) []))
theorem wF_lists (n : Nat) (u l : Addr) : (wF n u l).lookup ("lists" : Str) = some (.ref l) := by
  unfold wF
  rw [lookup_putF, if_pos rfl]
theorem wF_ups (n : Nat) (u l : Addr) : (wF n u l).lookup ("ups" : Str) = some (.ref u) := by
  unfold wF
  rw [lookup_putF, if_neg s_ul, lookup_putF, if_pos rfl]
theorem wF_blocks (n : Nat) (u l : Addr) : (wF n u l).lookup ("blocks" : Str) = some (nv n) := by
  unfold wF
  rw [lookup_putF, if_neg s_bl, lookup_putF, if_neg s_bu, lookup_putF, if_pos rfl]
theorem putF_len (f : Str) (v : V) (fs : List (Str × V)) : (putF f v fs).length ≤ fs.length + 1 := by
  induction fs with
  | nil => exact Nat.le_refl _
  | cons p r ih =>
    unfold putF
    split
    · simp
    · simp only [List.length_cons]; omega
structure HistAt (cT cH : Addr) (H : Hp) (hs h m : Addr) (hg : List Nat) (M : List (Nat × Nat)) : Prop where
  ex : ∃ t, InsAt cH H hs (hF t m) ∧ InsAt cT H t [("hung", .ref h)]
  hung : H h = some (.tup (hg.map nv))
  moves : MovesAt H m M
theorem HistAt.mono {cT cH : Addr} {H H' : Hp} {hs h m : Addr} {hg : List Nat} {M : List (Nat × Nat)} (x : HistAt cT cH H hs h m hg M) (e : Ex H H') : HistAt cT cH H' hs h m hg M :=
  ⟨let ⟨t, a, b⟩ := x.ex; ⟨t, a.mono e, b.mono e⟩, e _ _ x.hung, x.moves.mono e⟩
/-- the rows of the words' lists -/
def RowsAt (H : Hp) (l : Addr) (rows : Nat → Addr) (n : Nat) (U : List Nat) : Prop := H l = some (.tup ((List.range (n + 1)).map fun p => V.ref (rows p))) ∧ ∀ p, p ≤ n → H (rows p) = some (.tup ((List.range n).map fun k => V.bl (decide (ent U k = p))))
theorem RowsAt.mono {H H' : Hp} {l : Addr} {rows : Nat → Addr} {n : Nat} {U : List Nat} (h : RowsAt H l rows n U) (e : Ex H H') : RowsAt H' l rows n U := ⟨e _ _ h.1, fun p hp => e _ _ (h.2 p hp)⟩
structure WordsAt (cW : Addr) (H : Hp) (wd u l : Addr) (rows : Nat → Addr) (n : Nat) (U : List Nat) : Prop where
  ins : InsAt cW H wd (wF n u l)
  ups : H u = some (.tup (U.map nv))
  rows : RowsAt H l rows n U
theorem WordsAt.mono {cW : Addr} {H H' : Hp} {wd u l : Addr} {rows : Nat → Addr} {n : Nat} {U : List Nat} (x : WordsAt cW H wd u l rows n U) (e : Ex H H') : WordsAt cW H' wd u l rows n U := ⟨x.ins.mono e, e _ _ x.ups, x.rows.mono e⟩
/-- a known dict of blocks' lots -/
def HadAt (H : Hp) (d : Addr) (o : Obj) (ad : Nat → Addr) (n : Nat) (L : Nat → List Nat) : Prop := H d = some (.frz o (.dK ((List.range n).map fun i => (Sum.inl (kB i), V.ref (ad i))))) ∧ ∀ i, i < n → H (ad i) = some (.tup ((L (i + 1)).map nv))
theorem HadAt.mono {H H' : Hp} {d : Addr} {o : Obj} {ad : Nat → Addr} {n : Nat} {L : Nat → List Nat} (x : HadAt H d o ad n L) (e : Ex H H') : HadAt H' d o ad n L := ⟨e _ _ x.1, fun i hi => e _ _ (x.2 i hi)⟩
theorem HadAt.rd {H : Hp} {d : Addr} {o : Obj} {ad : Nat → Addr} {n : Nat} {L : Nat → List Nat} (x : HadAt H d o ad n L) : Rd H d (.dK ((List.range n).map fun i => (Sum.inl (kB i), V.ref (ad i)))) := rd_frz x.1
theorem HadAt.get {H : Hp} {d : Addr} {o : Obj} {ad : Nat → Addr} {n : Nat} {L : Nat → List Nat} (x : HadAt H d o ad n L) {b : Nat} (b1 : 1 ≤ b) (b2 : b ≤ n) : DGet H d (nv b) (some (.ref (ad (b - 1)))) ∧ H (ad (b - 1)) = some (.tup ((L b).map nv)) := by
  refine ⟨dget_rd (k := Sum.inl (b : Int)) x.rd (valV_b b1 b2), ?_⟩
  have q := x.2 (b - 1) (by omega)
  rw [show b - 1 + 1 = b by omega] at q
  exact q
end FV
namespace FV
open PySem PySem.Spec PyProof.Rows L2 Evl
def leafKeys (R : It → Hp → Prop) : V → Hp → Prop := fun x H1 => ∃ d o, x = .ref d ∧ ((∃ kvs, H1 d = some (.frz o (.dK kvs)) ∧ R (Itk d o kvs) H1) ∨ ∃ kvs, H1 d = some (.frz o (.dT kvs)) ∧ R (Itkt d o kvs) H1)
def leafItems (R : It → Hp → Prop) : V → Hp → Prop := fun x H1 => ∃ d o kvs, x = .ref d ∧ H1 d = some (.frz o (.dK kvs)) ∧ R (Iti d o kvs) H1
def leafEnT (K : PySem.W.Frag) (R : It → Hp → Prop) : List V → Hp → Prop := fun vs H1 => ∃ a xs, vs = [.ref a] ∧ SqT K H1 a xs ∧ R (IteT K a) H1
def leafEnL (K : PySem.W.Frag) (R : It → Hp → Prop) : List V → Hp → Prop := fun vs H1 => ∃ a xs, vs = [.ref a] ∧ SqL K H1 a xs ∧ R (Ite K a) H1
def leafZip (K : PySem.W.Frag) (R : It → Hp → Prop) : List V → Hp → Prop := fun vs H1 => ∃ a b xs ys, vs = [.ref a, .ref b] ∧ ((SqL K H1 a xs ∧ SqL K H1 b ys ∧ R (Itz K a b) H1) ∨ (SqT K H1 a xs ∧ SqT K H1 b ys ∧ R (RZ.ItzT K a b) H1))
section
variable {K : PySem.W.Frag} {σ : SS} {H : Hp} {Q : VK} {td : TE} {ta : TA} {R : It → Hp → Prop}
theorem y_keys (k : td σ H (leafKeys R)) : iKeys td σ H R := k
theorem l_keys {d : Addr} {o : Obj} {kvs : List (Key × V)} (h : H d = some (.frz o (.dK kvs))) (k : R (Itk d o kvs) H) : leafKeys R (.ref d) H := ⟨d, o, rfl, .inl ⟨kvs, h, k⟩⟩
theorem l_keysT {d : Addr} {o : Obj} {kvs : List (List Key × V)} (h : H d = some (.frz o (.dT kvs))) (k : R (Itkt d o kvs) H) : leafKeys R (.ref d) H := ⟨d, o, rfl, .inr ⟨kvs, h, k⟩⟩
theorem y_items (k : td σ H (leafItems R)) : iItems td σ H R := k
theorem l_items {d : Addr} {o : Obj} {kvs : List (Key × V)} (h : H d = some (.frz o (.dK kvs))) (k : R (Iti d o kvs) H) : leafItems R (.ref d) H := ⟨d, o, kvs, rfl, h, k⟩
theorem y_enT (k : ta σ H (leafEnT K R)) : iEnumT K ta σ H R := k
theorem l_enT {a : Addr} {xs : List V} (h : SqT K H a xs) (k : R (IteT K a) H) : leafEnT K R [.ref a] H := ⟨a, xs, rfl, h, k⟩
theorem y_enL (k : ta σ H (leafEnL K R)) : iEnum K ta σ H R := k
theorem l_enL {a : Addr} {xs : List V} (h : SqL K H a xs) (k : R (Ite K a) H) : leafEnL K R [.ref a] H := ⟨a, xs, rfl, h, k⟩
theorem y_zip (k : ta σ H (leafZip K R)) : RZ.iZipA K ta σ H R := k
theorem l_zipT {a b : Addr} {xs ys : List V} (h : SqT K H a xs) (h2 : SqT K H b ys) (k : R (RZ.ItzT K a b) H) : leafZip K R [.ref a, .ref b] H := ⟨a, b, xs, ys, rfl, .inr ⟨h, h2, k⟩⟩
theorem l_all {a : Addr} (bs : List Bool) (h : SqL K H a (bs.map V.bl)) (k : Q (.bl (bs.all id)) H) : rAll K [.ref a] H Q := ⟨a, bs, rfl, h, k⟩
theorem l_allT {a : Addr} {xs : List V} (h : SqL K H a xs) (hx : ∀ x, x ∈ xs → x = .bl true) (k : Q (.bl true) H) : rAll K [.ref a] H Q := by
  have e : xs = (List.replicate xs.length true).map V.bl := by
    rw [List.map_replicate]
    exact List.eq_replicate_of_mem hx
  rw [e] at h
  refine ⟨a, _, rfl, h, ?_⟩
  rw [show (List.replicate xs.length true).all id = true from List.all_eq_true.mpr fun x hx => (List.eq_of_mem_replicate hx)]
  exact k
theorem l_allF {a : Addr} {n : Nat} (f : Nat → Bool) (h : H a = some (.lst ((List.range n).map fun i => V.bl (f i)))) (k : Q (.bl ((List.range n).all f)) H) : rAll K [.ref a] H Q := by
  refine l_all ((List.range n).map f) (SqL.of (by rw [List.map_map]; exact h)) ?_
  rw [List.all_map]
  exact k
end
theorem asc_of {l' l m : List Nat} (p : l'.Perm l) (h1 : l'.Pairwise (· ≤ ·)) (nd : l.Nodup) (h2 : m.Pairwise (· < ·)) (h : ∀ q, q ∈ l ↔ q ∈ m) : l' = m := by
  have pm : l.Perm m := by
    refine (List.perm_ext_iff_of_nodup nd (h2.imp fun h => Nat.ne_of_lt h)).mpr h
  exact sorted_is (p.trans pm) h1 h2
def bls (l : List Nat) : List (Key × V) := l.map fun (q : Nat) => ((Sum.inl (q : Int) : Key), V.bl true)
theorem bls_put {l : List Nat} {q : Nat} : putK (bls l) (Sum.inl (q : Int)) (.bl true) = bls (if q ∈ l then l else l ++ [q]) := by
  have e : ((bls l).any fun kv => decide (kv.1 = (Sum.inl (q : Int) : Key))) = decide (q ∈ l) := by
    unfold bls
    rw [List.any_map, Bool.eq_iff_iff, List.any_eq_true, decide_eq_true_iff]
    constructor
    · rintro ⟨x, hx, z⟩
      have z2 : (Sum.inl (x : Int) : Key) = Sum.inl (q : Int) := of_decide_eq_true z
      have z3 : (x : Int) = (q : Int) := Sum.inl.inj z2
      have : x = q := by omega
      exact this ▸ hx
    · intro h
      exact ⟨q, h, decide_eq_true rfl⟩
  unfold putK
  rw [e]
  by_cases h : q ∈ l
  · rw [decide_eq_true h, if_pos rfl, if_pos h]
    unfold bls
    rw [List.map_map]
    refine List.map_congr_left fun x _ => ?_
    show (if (Sum.inl (x : Int) : Key) = Sum.inl (q : Int) then _ else _) = _
    split
    · rfl
    · rfl
  · rw [decide_eq_false h, if_neg Bool.false_ne_true, if_neg h]
    unfold bls
    rw [List.map_append]
    rfl
theorem bls_keys (l : List Nat) : (bls l).map (·.1) = (l.map Int.ofNat).map Sum.inl := by
  unfold bls
  rw [List.map_map, List.map_map]
  rfl
theorem bls_len (l : List Nat) : (bls l).length = l.length := by unfold bls; rw [List.length_map]
theorem kB_inj : ∀ n i j : Nat, i < j → j < n → kB i ≠ kB j := fun n i j h _ e => by
  unfold kB at e
  omega
theorem seqT_and {K : PySem.W.Frag} {H : Hp} {a : Addr} {xs : List V} {p : Prop} (h : SqT K H a xs) (k : p) : (∃ xs, SqT K H a xs) ∧ p := ⟨⟨xs, h⟩, k⟩
theorem seqL_and {K : PySem.W.Frag} {H : Hp} {a : Addr} {xs : List V} {p : Prop} (h : SqL K H a xs) (k : p) : (∃ xs, SqL K H a xs) ∧ p := ⟨⟨xs, h⟩, k⟩
theorem mem_true {n : Nat} {x : V} (h : x ∈ (List.range n).map fun _ => V.bl true) : x = .bl true := by
  obtain ⟨_, _, rfl⟩ := List.mem_map.mp h
  rfl
/-- addresses, chosen -/
theorem pick {n : Nat} {v : Nat → V} {P : Nat → Addr → Prop} (h : ∀ i, i < n → ∃ r, v i = .ref r ∧ P i r) : ∃ ad : Nat → Addr, (List.range n).map v = (List.range n).map (fun i => V.ref (ad i)) ∧ ∀ i, i < n → v i = .ref (ad i) ∧ P i (ad i) := by
  classical
  refine ⟨fun i => if h' : i < n then Classical.choose (h i h') else 0, List.map_congr_left fun i hi => ?_, fun i hi => ?_⟩
  · have hi := List.mem_range.mp hi
    simp only [hi, dif_pos]
    exact (Classical.choose_spec (h i hi)).1
  · simp only [hi, dif_pos]
    exact Classical.choose_spec (h i hi)
/-- the pairs of a dict: where each block is told to be -/
def PairsAt (H : Hp) (d : Addr) (U : List Nat) : Prop := H d = some (.dT ((List.range U.length).map fun k => ([Sum.inl ((ent U k : Nat) : Int), Sum.inl (kB k)], V.bl true)))
theorem pairs_val {U : List Nat} {k p : Nat} (hk : k < U.length) : valV ((List.range U.length).map fun k => (([Sum.inl ((ent U k : Nat) : Int), Sum.inl (kB k)] : List Key), V.bl true)) [Sum.inl (p : Int), Sum.inl (kB k)] = if ent U k = p then some (.bl true) else none := by
  by_cases e : ent U k = p
  · rw [if_pos e, ← e]
    exact valV_at (κ := List Key) (key := fun k => [Sum.inl ((ent U k : Nat) : Int), Sum.inl (kB k)]) (v := fun _ => V.bl true) (j := k) hk fun i _ q => by
      simp only [List.cons.injEq, Sum.inl.injEq, and_true] at q
      have := q.2
      unfold kB at this
      omega
  · rw [if_neg e]
    refine valV_no (κ := List Key) (key := fun k => [Sum.inl ((ent U k : Nat) : Int), Sum.inl (kB k)]) (v := fun _ => V.bl true) fun i _ q => e ?_
    simp only [List.cons.injEq, Sum.inl.injEq, and_true] at q
    obtain ⟨q1, q2⟩ := q
    have : i = k := by unfold kB at q2; omega
    subst this
    omega
end FV
namespace FV
open PySem PySem.Spec PyProof.Rows L2 Evl
/-- a heap with one address out of sight: what may change there -/
def hide (H : Hp) (a : Addr) : Hp := fun b => if b = a then none else H b
theorem hide_same {H : Hp} {a : Addr} : hide H a a = none := if_pos rfl
theorem hide_ne {H : Hp} {a b : Addr} (h : b ≠ a) : hide H a b = H b := if_neg h
theorem hide_some {H : Hp} {a b : Addr} {o : HO} (h : hide H a b = some o) : b ≠ a ∧ H b = some o := by
  by_cases e : b = a
  · rw [e, hide_same] at h
    cases h
  · rw [hide_ne e] at h
    exact ⟨e, h⟩
theorem hide_ex (H : Hp) (a : Addr) : Ex (hide H a) H := fun b o h => (hide_some h).2
theorem hide_none {H : Hp} {a b : Addr} (h : H b = none) : hide H a b = none := by
  by_cases e : b = a
  · rw [e]
    exact hide_same
  · rw [hide_ne e]
    exact h
theorem hide_fact {H : Hp} {a b : Addr} {o u : HO} (h : H b = some o) (ha : H a = some u) (d : o ≠ u) : hide H a b = some o := by
  rw [hide_ne (ne_of h ha d)]
  exact h
theorem hide_mono {H H' : Hp} {a : Addr} (e : Ex H H') : Ex (hide H a) (hide H' a) := fun b o h => by
  obtain ⟨h1, h2⟩ := hide_some h
  rw [hide_ne h1]
  exact e _ _ h2
theorem bls_val {l : List Nat} {q : Nat} : (valV (bls l) (Sum.inl (q : Int))).isSome = decide (q ∈ l) := by
  unfold valV bls
  rw [Option.isSome_map, List.find?_map, Option.isSome_map, Bool.eq_iff_iff, List.find?_isSome, decide_eq_true_iff]
  constructor
  · rintro ⟨x, hx, z⟩
    have z2 : (Sum.inl (x : Int) : Key) = Sum.inl (q : Int) := of_decide_eq_true z
    have z3 : (x : Int) = (q : Int) := Sum.inl.inj z2
    have e : x = q := by omega
    exact e ▸ hx
  · intro h
    exact ⟨q, h, decide_eq_true rfl⟩
theorem at_last {l : List Nat} (h : l ≠ []) : atI (l.map nv) (-1) = some (nv (lst l)) := by
  have hp := List.length_pos_iff.mpr h
  have e : ixN (l.map nv).length (-1) = some (l.length - 1) := by
    unfold ixN
    rw [List.length_map, if_neg (by omega), if_pos (by omega)]
    congr 1
    omega
  unfold atI
  rw [e]
  exact ent_map (by omega)
section
variable {K : PySem.W.Frag} {H : Hp} {Q : VK}
theorem l_min {a : Addr} {l : List Nat} (h : SqL K H a (l.map nv)) (hl : 0 < l.length) (k : ∀ m, m ∈ l → (∀ y, y ∈ l → m ≤ y) → Q (nv m) H) : rMin K [.ref a] H Q := by
  refine ⟨a, l.map Int.ofNat, rfl, by rw [nv_map]; exact h, by rw [List.length_map]; exact hl, fun m hm hle => ?_⟩
  obtain ⟨x, hx, rfl⟩ := List.mem_map.mp hm
  exact k x hx fun y hy => Int.ofNat_le.mp (hle _ (List.mem_map.mpr ⟨y, hy, rfl⟩))
theorem l_max {a : Addr} {l : List Nat} (h : SqL K H a (l.map nv)) (hl : 0 < l.length) (k : ∀ m, m ∈ l → Q (nv m) H) : rMax K [.ref a] H Q := by
  refine ⟨a, l.map Int.ofNat, rfl, by rw [nv_map]; exact h, by rw [List.length_map]; exact hl, fun m hm _ => ?_⟩
  obtain ⟨x, hx, rfl⟩ := List.mem_map.mp hm
  exact k x hx
theorem l_index {a : Addr} {l : List Nat} {x j : Nat} (h : SqL K H a (l.map nv)) (nd : l.Nodup) (hj : j < l.length) (e : ent l j = x) (k : Q (nv j) H) : rIndex K (.ref a) [nv x] H Q := by
  refine ⟨a, l.map nv, nv x, j, nv x, rfl, rfl, h, rfl, flat_ns l, by rw [ent_map hj, e], ?_, fun m z' hm hz => ?_, k⟩
  · show (((x : Nat) : Int) == ((x : Nat) : Int)) = true
    exact beq_self_eq_true _
  · rw [ent_map (by omega)] at hz
    cases hz
    show (((ent l m : Nat) : Int) == ((x : Nat) : Int)) = false
    refine beq_eq_false_iff_ne.mpr fun z => ?_
    have e2 : ent l m = ent l j := by omega
    have := ent_inj nd (by omega) hj e2
    omega
theorem l_indexT {a : Addr} {l : List Nat} {x j : Nat} (h : SqT K H a (l.map nv)) (nd : l.Nodup) (hj : j < l.length) (e : ent l j = x) (k : Q (nv j) H) : rTupIx K (.ref a) [nv x] H Q := by
  refine ⟨a, l.map Int.ofNat, (x : Int), j, rfl, rfl, by rw [nv_map]; exact h, by rw [List.getElem?_map, ent_get hj, e]; rfl, fun m hm hz => ?_, k⟩
  rw [List.getElem?_map, ent_get (by omega)] at hz
  have z : ((ent l m : Nat) : Int) = ((x : Nat) : Int) := Option.some.inj hz
  have e2 : ent l m = ent l j := by omega
  have := ent_inj nd (by omega) hj e2
  omega
/-- `all` of a test of a list's naturals -/
theorem l_allE {a : Addr} {l : List Nat} (g : Nat → Bool) (h : H a = some (.lst ((List.range l.length).map fun i => V.bl (g (ent l i))))) (k : Q (.bl (l.all g)) H) : rAll K [.ref a] H Q :=
  l_allF _ h (by rw [all_ent]; exact k)
end
end FV
namespace FV
open PySem PySem.Spec PyProof.Rows L2 Evl
def pI (l : List Nat) : List PyData := (l.map Int.ofNat).map PyData.int
theorem dpAll {K : PySem.W.Frag} {H : Hp} : ∀ l : List Nat, DpAll K H (l.map nv) (pI l)
  | [] => .nil
  | x :: l => .cons (.int _) (dpAll l)
theorem eqvAll_pI : ∀ l m : List Nat, PyData.eqvAll (pI l) (pI m) = decide (l = m)
  | [], [] => by simp [pI, PyData.eqvAll]
  | [], y :: m => by simp [pI, PyData.eqvAll]
  | x :: l, [] => by simp [pI, PyData.eqvAll]
  | x :: l, y :: m => by
    have ih := eqvAll_pI l m
    show PyData.eqvAll (PyData.int (Int.ofNat x) :: pI l) (PyData.int (Int.ofNat y) :: pI m) = _
    unfold PyData.eqvAll
    rw [ih]
    unfold PyData.eqv
    by_cases h : x = y
    · subst h
      simp
    · have : (Int.ofNat x == Int.ofNat y) = false := beq_eq_false_iff_ne.mpr fun z => h (Int.ofNat.inj z)
      rw [this]
      simp [h]
theorem shL (l : List Nat) : SeqAt.shaped (.list (pI l)) = true := by
  show SeqAt.shaped (.list ((l.map Int.ofNat).map PyData.int)) = true
  simp only [SeqAt.shaped, PyData.canLay0, PyData.depth, PySem.W.ke_canLayAll0, PySem.W.ke_depthAll]
  rfl
theorem shT (x : Nat) : SeqAt.shaped (.tuple (pI [x])) = true := by
  show SeqAt.shaped (.tuple [.int _]) = true
  simp [SeqAt.shaped, PyData.canLay0, PyData.canLayAll0, PyData.depth, PyData.depthAll]
section
variable {K : PySem.W.Frag} {H : Hp} {Q : VK}
theorem l_neL {a b : Addr} {l m : List Nat} (ha : SqL K H a (l.map nv)) (hb : SqL K H b (m.map nv)) (k : Q (.bl (!decide (l = m))) H) : rNeD K (.ref a) (.ref b) H Q := by
  refine ⟨.list (pI l), .list (pI m), .lst ha (dpAll l), .lst hb (dpAll m), shL l, shL m, ?_⟩
  have e : PyData.eqv (.list (pI l)) (.list (pI m)) = decide (l = m) := by unfold PyData.eqv; exact eqvAll_pI l m
  rw [e]
  exact k
theorem eqT1 (x y : Nat) : PyData.eqv (.tuple (pI [x])) (.tuple (pI [y])) = decide (x = y) := by
  unfold PyData.eqv
  rw [eqvAll_pI]
  simp
theorem l_eqT1 {a b : Addr} {x y : Nat} (ha : SqT K H a ([x].map nv)) (hb : SqT K H b ([y].map nv)) (k : Q (.bl (decide (x = y))) H) : rEqD K (.ref a) (.ref b) H Q := by
  refine ⟨.tuple (pI [x]), .tuple (pI [y]), .tup ha (dpAll [x]), .tup hb (dpAll [y]), shT x, shT y, ?_⟩
  rw [eqT1]
  exact k
theorem l_neT1 {a b : Addr} {x y : Nat} (ha : SqT K H a ([x].map nv)) (hb : SqT K H b ([y].map nv)) (k : Q (.bl (!decide (x = y))) H) : rNeD K (.ref a) (.ref b) H Q := by
  refine ⟨.tuple (pI [x]), .tuple (pI [y]), .tup ha (dpAll [x]), .tup hb (dpAll [y]), shT x, shT y, ?_⟩
  rw [eqT1]
  exact k
theorem r_isi_tupF {a : Addr} {xs : List V} (h : TupX H a xs) (k : Q (.bl true) H) : rIsi K [.ref a, .ty "tuple"] H Q := by
  obtain ⟨o, e, _⟩ := h
  exact ⟨_, _, _, _, true, rfl, .ty _, .fTuple e, kit_ty (by decide +kernel), k⟩
theorem wk_tupS {a : Addr} {l : List Nat} {j : Nat} (h : SqT K H a (l.map nv)) : Wlk (Itt K a) (gName j) l.length (fun σ i => σ.set j (some (nv (ent l i)))) H :=
  Wlk.is (by have q := wk_tup (K := K) (j := j) h; rw [List.length_map] at q; exact q) fun σ i hi => by rw [ent_map hi]
/-- list(range(..)) -/
def leafRg (Q : VK) : Int → Int → Hp → Prop := fun a b H1 => RgOk a b ∧ ∀ q, H1 q = none → Q (.ref q) (upd H1 q (.lst (rgV a b)))
theorem y_lstRg {σ : SS} {te : SS → Hp → (Int → Int → Hp → Prop) → Prop} (k : te σ H (leafRg Q)) : tLstRg te σ H Q := k
theorem y_rg1 {σ : SS} {ta : TE} {QI : Int → Int → Hp → Prop} (k : ta σ H fun x H1 => ∃ n, x = .int n ∧ QI 0 n H1) : tRg1 ta σ H QI := k
theorem y_rg2 {σ : SS} {ta tb : TE} {QI : Int → Int → Hp → Prop} (k : ta σ H fun x H1 => tb σ H1 fun y H2 => ∃ i j, x = .int i ∧ y = .int j ∧ QI i j H2) : tRg2 ta tb σ H QI := k
theorem l_rg0 {j : Int} (n : Nat) (h : j = (n : Int)) (hn : n ≤ 100000) (k : ∀ q H2, H q = none → Ex H H2 → H2 q = some (.lst ((List.range n).map nv)) → Q (.ref q) H2) : leafRg Q 0 j H := by
  subst h
  refine ⟨RgOk.of_le (by omega) (by omega) (by omega) (by omega), fun q hq => k q _ hq (Ex.new hq) ?_⟩
  rw [upd_same]
  unfold rgV
  rw [show ((n : Int) - 0).toNat = n by omega]
  congr 2
  exact List.map_congr_left fun i _ => by rw [Int.zero_add]
theorem l_rg1 {j : Int} (n : Nat) (h : j = ((n + 1 : Nat) : Int)) (hn : n ≤ 100000) (k : ∀ q H2, H q = none → Ex H H2 → H2 q = some (.lst ((blocks n).map nv)) → Q (.ref q) H2) : leafRg Q 1 j H := by
  subst h
  refine ⟨RgOk.of_le (by omega) (by omega) (by omega) (by omega), fun q hq => k q _ hq (Ex.new hq) ?_⟩
  rw [upd_same]
  unfold rgV blocks
  rw [show (((n + 1 : Nat) : Int) - 1).toNat = n by omega, List.map_map]
  congr 2
  exact List.map_congr_left fun i _ => by
    show V.int (1 + (i : Int)) = nv (i + 1)
    rw [show (1 : Int) + (i : Int) = ((i + 1 : Nat) : Int) by omega]
end
/-! a comprehension of two clauses, all of whose items are true -/
def Lc2Body (J : It) (g : TG) (tt : TT) (wi1 : TI) (g1 : TG) (tt1 : TT) (te : TE) (vs vs1 : List Nat) (σ : SS) (H1 : Hp) (Q : VK) : Prop := tLc2 (fun _ H R => R J H) g tt wi1 g1 tt1 te vs vs1 σ H1 Q
theorem x_lc2 {wi wi1 : TI} {g g1 : TG} {tt tt1 : TT} {te : TE} {vs vs1 : List Nat} {σ : SS} {H : Hp} {Q : VK} (k : wi σ H fun J H1 => Lc2Body J g tt wi1 g1 tt1 te vs vs1 σ H1 Q) : tLc2 wi g tt wi1 g1 tt1 te vs vs1 σ H Q := k
theorem lc2_t {J : It} {g g1 : TG} {wi1 : TI} {te : TE} {vs vs1 : List Nat} {σ : SS} {H : Hp} {Q : VK} {n : Nat} {st : SS → Nat → SS} (W : Wlk J g n st H) (hn : n ≤ 200) (hw : ∀ i, i < n → wipe (st (wipe σ vs) i) vs = wipe σ vs)
    (hi : ∀ i, i < n → ∃ (J1 : It) (n1 : Nat) (st1 : SS → Nat → SS), n1 ≤ 200 ∧ Wlk J1 g1 n1 st1 H ∧ (∀ j, j < n1 → wipe (st1 (wipe (st (wipe σ vs) i) vs1) j) vs1 = wipe (st (wipe σ vs) i) vs1 ∧ Ev te (st1 (wipe (st (wipe σ vs) i) vs1) j) H (.bl true)) ∧
      ∀ Ha, Ex H Ha → ∀ R : It → Hp → Prop, R J1 Ha → wi1 (st (wipe σ vs) i) Ha R)
    (k : ∀ p H2 xs, H p = none → Ex H H2 → H2 p = some (.lst xs) → (∀ x, x ∈ xs → x = V.bl true) → Q (.ref p) H2) : Lc2Body J g tYes wi1 g1 tYes te vs vs1 σ H Q := by
  intro D hD
  let Pv : Nat → Hp → Prop := fun c H' => Ex H H' ∧ ∃ xs, H' D = some (.lst xs) ∧ xs.length ≤ c ∧ ∀ x, x ∈ xs → x = V.bl true
  refine ⟨fun i m H' => m = n - i ∧ i ≤ n ∧ Pv (200 * i) H', ⟨n, by simp, Nat.zero_le _, Ex.new hD, [], upd_same, Nat.le_refl _, fun x hx => absurd hx List.not_mem_nil⟩, ?_⟩
  rintro i m H' ⟨rfl, hi', e, xs, hx, hl, ht⟩
  obtain ⟨w1, w2⟩ := W i H' e hi'
  by_cases hlt : i < n
  · obtain ⟨go, step⟩ := w2 hlt
    refine .inr ⟨go, Pv (200 * (i + 1)), fun H2 p => ⟨n - (i + 1), by omega, rfl, hlt, p⟩, fun x H'' y => step x H'' (wipe σ vs) _ y fun H2 e2 => ⟨hw i hlt, ?_⟩⟩
    obtain ⟨J1, n1, st1, h200, W1, hel, hwi⟩ := hi i hlt
    refine hwi H2 (e.trans e2) _ ?_
    refine ⟨fun j m H' => m = n1 - j ∧ j ≤ n1 ∧ Pv (200 * i + j) H', ⟨n1, by simp, Nat.zero_le _, e.trans e2, xs, e2 _ _ hx, by omega, ht⟩, ?_⟩
    rintro j m H3 ⟨rfl, hj', e3, ys, hy, hyl, hyt⟩
    obtain ⟨v1, v2⟩ := W1 j H3 e3 hj'
    by_cases hjlt : j < n1
    · obtain ⟨go1, step1⟩ := v2 hjlt
      refine .inr ⟨go1, Pv (200 * i + (j + 1)), fun H2 p => ⟨n1 - (j + 1), by omega, rfl, hjlt, p⟩, fun x H'' y => step1 x H'' (wipe (st (wipe σ vs) i) vs1) _ y fun H4 e4 => ⟨(hel j hjlt).1, ?_⟩⟩
      refine (hel j hjlt).2 H4 (e3.trans e4) _ fun H5 e5 => ⟨ys, e5 _ _ (e4 _ _ hy), sz_lt (by omega), Ex.mut ((e3.trans e4).trans e5) hD, ys ++ [.bl true], upd_same, by rw [List.length_append, List.length_singleton]; omega, fun x hx => ?_⟩
      rcases List.mem_append.mp hx with z | z
      · exact hyt x z
      · exact List.mem_singleton.mp z
    · have z : j = n1 := by omega
      subst z
      exact .inl ⟨v1 rfl, e3, ys, hy, by omega, hyt⟩
  · have z : i = n := by omega
    subst z
    exact .inl ⟨w1 rfl, k D H' xs hD e hx ht⟩
end FV
namespace FV
open PySem PySem.Spec PyProof.Rows L2 Evl
theorem x_cut {t u : TS} {D : Ends} {σ : SS} {H : Hp} (M : SS → Hp → Prop) (h1 : t { D with nx := M } σ H) (h2 : ∀ σ' H', M σ' H' → u D σ' H') : Evl.tCut t u D σ H := ⟨M, h1, h2⟩
theorem x_gsub {to ti : TE} {t : TSet} {v : V} {σ : SS} {H : Hp} {QS : SS → Hp → Prop} (k : to σ H fun o H1 => ti σ H1 fun i H2 => t o i v H2 fun H3 => QS σ H3) : gSub to ti t v σ H QS := k
theorem l_set {p : Addr} {xs : List V} {k : Int} {j : Nat} {v : V} {H : Hp} {Qh : Hp → Prop} (h : H p = some (.lst xs)) (hj : ixN xs.length k = some j) (q : Qh (upd H p (.lst (xs.set j v)))) : rSetL (.ref p) (.int k) v H Qh := ⟨p, xs, k, j, rfl, rfl, h, hj, q⟩
/-- the hand: its cells, the next one, the big cell, the sum, the counter -/
def hl (c : Addr) (i b s n : Int) : List V := [.ref c, .int i, .int b, .int s, .int n]
def Hand (H : Hp) (a c : Addr) (ns : List Int) : Prop := (∃ i b s n : Int, 0 ≤ i ∧ H a = some (.lst (hl c i b s n))) ∧ H c = some (.lst (ns.map V.int))
theorem Hand.ne {H : Hp} {a c : Addr} {ns : List Int} (h : Hand H a c ns) : c ≠ a := by
  obtain ⟨⟨i, b, s, n, _, h1⟩, h2⟩ := h
  intro e
  rw [e, h1] at h2
  cases ns with
  | nil => cases h2
  | cons z r => cases h2
theorem Hand.up {H : Hp} {a c x : Addr} {ns : List Int} {o : HO} (h : Hand H a c ns) (hx : x ≠ a) (hc : x ≠ c) : Hand (upd H x o) a c ns := by
  obtain ⟨⟨i, b, s, n, h0, h1⟩, h2⟩ := h
  exact ⟨⟨i, b, s, n, h0, by rw [upd_ne hx.symm]; exact h1⟩, by rw [upd_ne hc.symm]; exact h2⟩
theorem Hand.ex {H H' : Hp} {a c : Addr} {ns : List Int} (h : Hand H a c ns) (e : Ex H H') : Hand H' a c ns := by
  obtain ⟨⟨i, b, s, n, h0, h1⟩, h2⟩ := h
  exact ⟨⟨i, b, s, n, h0, e _ _ h1⟩, e _ _ h2⟩
theorem hand_new {H : Hp} {a c x : Addr} {ns : List Int} (h : Hand H a c ns) (hx : H x = none) : x ≠ a ∧ x ≠ c := by
  obtain ⟨⟨i, b, s, n, h0, h1⟩, h2⟩ := h
  exact ⟨(ne_of_none h1 hx).symm, (ne_of_none h2 hx).symm⟩
theorem ExB.ex2 {D : Addr} {A B C : Hp} (e : ExB D A B) (f : Ex B C) : ExB D A C := e.trans (ExB.of f)
theorem ExB.mut {D x : Addr} {A B : Hp} {o : HO} (e : ExB D A B) (hx : A x = none) : ExB D A (L2.upd B x o) := fun b u hb h => by
  rw [upd_ne (ne_of_none h hx)]
  exact e b u hb h
theorem ExB.tup {D a : Addr} {A B : Hp} {xs ys : List V} (e : ExB D A B) (h : A a = some (.tup xs)) (hD : A D = some (.lst ys)) : B a = some (.tup xs) := e a _ (ne_of h hD (fun z => by cases z)) h
theorem Hand.tup {H H' : Hp} {a c x : Addr} {ns : List Int} {xs : List V} (h : Hand H a c ns) (e : ExB a H H') (hx : H x = some (.tup xs)) : H' x = some (.tup xs) := by
  obtain ⟨⟨i, b, s, n, h0, h1⟩, h2⟩ := h
  exact e.tup hx h1
theorem Hand.lst {H : Hp} {a c : Addr} {ns : List Int} (h : Hand H a c ns) : ∃ xs, H a = some (.lst xs) := by
  obtain ⟨⟨i, b, s, n, h0, h1⟩, h2⟩ := h
  exact ⟨_, h1⟩
theorem erase_map : ∀ (l : List Nat) (k : Nat), (l.map nv).eraseIdx k = (l.eraseIdx k).map nv
  | [], _ => rfl
  | x :: l, 0 => rfl
  | x :: l, k + 1 => congrArg (fun z => nv x :: z) (erase_map l k)
theorem rep_map : ∀ n : Nat, (List.replicate n [nv 0]).flatten = (List.replicate n 0).map nv
  | 0 => rfl
  | n + 1 => congrArg (fun z => nv 0 :: z) (rep_map n)
theorem l_popAt {p : Addr} {l : List Nat} {d : Nat} {H : Hp} {Q : VK} (h : H p = some (.lst (l.map nv))) (hd : d < l.length) (hz : l.length ≤ 100000) (k : Q (nv (ent l d)) (upd H p (.lst ((l.eraseIdx d).map nv)))) : rPopAt (.ref p) [nv d] H Q := by
  refine ⟨p, l.map nv, (d : Int), d, nv (ent l d), rfl, rfl, h, by omega, by omega, ?_, ent_map hd, ?_⟩
  · refine (ixN_seq (j := d) ?_).1
    unfold ixN
    rw [List.length_map, if_pos (by omega), if_pos (by omega), Int.toNat_natCast]
  · rw [erase_map]
    exact k
theorem l_rep {p : Addr} {n : Nat} {H : Hp} {Q : VK} (h : H p = some (.lst [nv 0])) (hn : n ≤ 100000) (k : ∀ q H2, H q = none → Ex H H2 → H2 q = some (.lst ((List.replicate n 0).map nv)) → Q (.ref q) H2) : rRep (.ref p) (.int (n : Int)) H Q := by
  refine ⟨p, (n : Int), [nv 0], rfl, rfl, h, by omega, by omega, by simp [sizeLine_eq]; omega, fun q hq => k q _ hq (Ex.new hq) ?_⟩
  rw [upd_same, Int.toNat_natCast]
  rw [rep_map]
end FV
local macro_rules | `(tactic| walk_at "fv_fact") => `(tactic| first
  | assumption
  | exact L2.upd_same
  | exact FV.ex_ap (by assumption) (by walk_at "fv_fact")
  | exact FV.upd_old (by assumption) (by walk_at "fv_fact"))
local macro_rules | `(tactic| walk_at "fv_ex") => `(tactic| first
  | assumption
  | exact Evl.Ex.refl _
  | exact Evl.Ex.trans (by walk_at "fv_ex") (by assumption)
  | exact Evl.Ex.trans (by walk_at "fv_ex") (Evl.Ex.new (by assumption)))
local macro_rules | `(tactic| walk_at "fv_seqL") => `(tactic| first
  | assumption
  | exact L2.SqL.of (by walk_at "fv_fact")
  | exact Evl.ex_l (by assumption) (by walk_at "fv_seqL"))
local macro_rules | `(tactic| walk_at "fv_seqT") => `(tactic| first
  | assumption
  | exact L2.SqT.of (by walk_at "fv_fact")
  | exact Evl.ex_t (by assumption) (by walk_at "fv_seqT"))
local macro_rules | `(tactic| walk_at "fv1") => `(tactic| first
  | with_reducible refine FV.x_seq ?_
  | with_reducible refine FV.x_var rfl ?_
  | with_reducible refine FV.x_c ?_
  | with_reducible refine FV.x_op ?_
  | with_reducible refine FV.r_I0 ?_
  | with_reducible refine FV.x_cons ?_
  | with_reducible refine FV.x_nil ?_
  | with_reducible refine FV.x_cb ?_
  | with_reducible refine FV.x_call ?_
  | with_reducible refine FV.x_asg ?_
  | with_reducible refine FV.x_ret ?_
  | with_reducible refine FV.x_ifS ?_
  | with_reducible refine FV.x_test ?_
  | with_reducible refine FV.x_B ?_
  | with_reducible refine FV.x_fld ?_
  | with_reducible refine FV.y_tup ?_
  | with_reducible refine FV.y_lst ?_
  | with_reducible refine FV.x_chain ?_
  | with_reducible refine FV.x_andV ?_
  | with_reducible refine FV.x_orV ?_
  | with_reducible refine FV.x_notV ?_
  | with_reducible refine FV.x_and ?_
  | with_reducible refine FV.x_or ?_
  | with_reducible refine FV.x_not ?_
  | with_reducible refine FV.x_yes ?_
  | with_reducible refine FV.x_if ?_
  | with_reducible refine FV.x_sl ?_
  | with_reducible refine FV.x_none ?_
  | with_reducible refine FV.x_part ?_
  | with_reducible refine FV.y_dget ?_
  | with_reducible refine FV.y_din ?_
  | with_reducible refine FV.y_dnotin ?_
  | with_reducible refine FV.y_bm ?_
  | with_reducible refine FV.y_bm0 ?_
  | with_reducible refine FV.y_bmF ?_
  | with_reducible refine FV.y_frz ?_
  | with_reducible refine FV.y_sfld ?_
  | with_reducible refine FV.y_dput ?_
  | with_reducible refine FV.y_make ?_
  | with_reducible refine FV.x_asgG ?_
  | with_reducible refine FV.x_drop ?_
  | with_reducible refine FV.x_next ?_
  | with_reducible refine FV.x_par ?_
  | with_reducible refine FV.x_augG rfl ?_
  | with_reducible refine FV.r_ip ?_
  | with_reducible refine FV.x_un ?_
  | with_reducible refine FV.r_neg ?_
  | with_reducible refine FV.x_lc ?_
  | with_reducible refine FV.x_retV fun _ _ => ?_
  | with_reducible refine FV.x_dc ?_
  | with_reducible refine FV.x_forB ?_
  | with_reducible refine FV.y_rng1 ?_
  | with_reducible refine FV.y_rng2 ?_
  | with_reducible refine FV.x_gsub ?_
  | with_reducible refine FV.x_lc2 ?_
  | with_reducible refine FV.y_lstRg ?_
  | with_reducible refine FV.y_rg1 ?_
  | with_reducible refine FV.y_rg2 ?_
  | with_reducible refine FV.y_keys ?_
  | with_reducible refine FV.y_items ?_
  | with_reducible refine FV.y_enT ?_
  | with_reducible refine FV.y_enL ?_
  | with_reducible refine FV.y_zip ?_
  | with_reducible refine FV.x_iList ?_
  | with_reducible refine FV.x_iTup ?_
  | with_reducible refine FV.g_name ?_
  | with_reducible refine FV.r_eq rfl ?_
  | with_reducible refine FV.r_ne rfl ?_
  | with_reducible refine ⟨_, rfl, ?_⟩
  | with_reducible refine ⟨_, _, rfl, rfl, ?_⟩
  | with_reducible refine ⟨rfl, ?_⟩
  | ((with_reducible show (∃ _, L2.SqT _ _ _ _) ∧ _); refine FV.seqT_and (by walk_at "fv_seqT") ?_)
  | ((with_reducible show (∃ _, L2.SqL _ _ _ _) ∧ _); refine FV.seqL_and (by walk_at "fv_seqL") ?_))
local macro_rules | `(tactic| walk_at "fv") => `(tactic| repeat walk_at "fv1")
namespace FV
open PySem PySem.Spec PyProof.Rows L2 Evl
open C8 (Cal Mak Def InsC)
section
variable {P : Program} {w : World} {K : PySem.W.Frag} {mg : Str → Option Value} {base : Heap} {cT cW cH : Addr}
abbrev spIsInt : Sp := fun vs H Q _ => ∃ i : Int, vs = [.int i] ∧ RetV (.bl true) H Q
abbrev spIsWithin : Sp := fun vs H Q _ => ∃ i lo hi : Int, vs = [.int i, .int lo, .int hi] ∧ lo ≤ i ∧ i ≤ hi ∧ RetV (.bl true) H Q
abbrev spIsPair : Sp := fun vs H Q _ => ∃ (a : Addr) (x y : V), vs = [.ref a] ∧ H a = some (.tup [x, y]) ∧ RetV (.bl true) H Q
abbrev spIsFlag : Sp := fun vs H Q _ => ∃ b : Bool, vs = [.bl b] ∧ RetV (.bl true) H Q
abbrev s_is_integer : Stmt := top 8
theorem sc_is_integer : FnScope ["thing"] ["thing"] (C8.fnScope s_is_integer) := C8.fnScope_by (by decide +kernel)
theorem k_is_integer (F : Df K mg "is_integer" s_is_integer ["thing"]) (T : Txt K mg cT cW cH) : Cal P w K mg base 1 "is_integer" spIsInt [] := by
  refine cal_of F sc_is_integer (fun vs H Q E h => ?_) (fun f cdv A outer s H vs Q E hr h => ?_)
  · obtain ⟨i, rfl, _⟩ := h; rfl
  · obtain ⟨i, rfl, k⟩ := h
    have nd := sc_is_integer.nd
    refine ⟨_, (pss_one (ps_ret (pe_and (pe_callB (show CallR _ _ (rIsi K) from call_isi) (by rfl) T.z_isinstance (by decide +kernel) (pa_cons (pv 0) (pa_cons (pe_bltn (v := .ty "int") (by rfl) T.z_int (by decide +kernel) rfl) pa_nil))) (pe_one (pe_not (pe_callB (show CallR _ _ (rIsi K) from call_isi) (by rfl) T.z_isinstance (by decide +kernel) (pa_cons (pv 0) (pa_cons (pe_bltn (v := .ty "bool") (by rfl) T.z_bool (by decide +kernel) rfl) pa_nil)))))))), ?_⟩
    walk_at "fv"
    refine r_isi_int ?_
    walk_at "fv"
    refine ite_t rfl ?_
    walk_at "fv"
    refine r_isi_intb ?_
    walk_at "fv"
    exact k _ (Ex.refl _)
abbrev s_is_within : Stmt := top 9
theorem sc_is_within : FnScope ["thing", "least", "most"] ["thing", "least", "most"] (C8.fnScope s_is_within) := C8.fnScope_by (by decide +kernel)
theorem k_is_within (F : Df K mg "is_within" s_is_within ["thing", "least", "most"]) (T : Txt K mg cT cW cH) (c_is_integer : Cal P w K mg base 1 "is_integer" spIsInt []) : Cal P w K mg base 2 "is_within" spIsWithin [] := by
  refine cal_of F sc_is_within (fun vs H Q E h => ?_) (fun f cdv A outer s H vs Q E hr h => ?_)
  · obtain ⟨i, lo, hi, rfl, _⟩ := h; rfl
  · obtain ⟨i, lo, hi, rfl, h1, h2, k⟩ := h
    have nd := sc_is_within.nd
    refine ⟨_, (pss_one (ps_ret (pe_and (C8.pe_c c_is_integer hr (by decide) rfl (pa_cons (pv 0) pa_nil)) (pe_one (pe_chain op_le op_le (pv 1) (pv 0) (pv 2)))))), ?_⟩
    walk_at "fv"
    refine ite_t rfl ?_
    walk_at "fv"
    refine ite_t (decide_eq_true h1) ?_
    walk_at "fv"
    rw [decide_eq_true h2]
    exact k _ (by walk_at "fv_ex")
abbrev s_is_pair : Stmt := top 10
theorem sc_is_pair : FnScope ["thing"] ["thing"] (C8.fnScope s_is_pair) := C8.fnScope_by (by decide +kernel)
theorem k_is_pair (F : Df K mg "is_pair" s_is_pair ["thing"]) (T : Txt K mg cT cW cH) : Cal P w K mg base 1 "is_pair" spIsPair [] := by
  refine cal_of F sc_is_pair (fun vs H Q E h => ?_) (fun f cdv A outer s H vs Q E hr h => ?_)
  · obtain ⟨i, x, y, rfl, _⟩ := h; rfl
  · obtain ⟨a, x, y, rfl, h, k⟩ := h
    have nd := sc_is_pair.nd
    refine ⟨_, (pss_one (ps_ret (pe_and (pe_callB (show CallR _ _ (rIsi K) from call_isi) (by rfl) T.z_isinstance (by decide +kernel) (pa_cons (pv 0) (pa_cons (pe_bltn (v := .ty "tuple") (by rfl) T.z_tuple (by decide +kernel) rfl) pa_nil))) (pe_one (pe_cmpR op_eq (pe_callB (show CallR _ _ (rLenS K) from c_len) (by rfl) T.z_len (by decide +kernel) (pa_cons (pv 0) pa_nil)) pe_int (nomark _)))))), ?_⟩
    walk_at "fv"
    refine r_isi_tup h ?_
    walk_at "fv"
    refine ite_t rfl ?_
    walk_at "fv"
    refine l_lenT (SqT.of h) 2 rfl ?_
    walk_at "fv"
    exact k _ (Ex.refl _)
abbrev s_is_flag : Stmt := top 11
theorem sc_is_flag : FnScope ["thing"] ["thing"] (C8.fnScope s_is_flag) := C8.fnScope_by (by decide +kernel)
theorem k_is_flag (F : Df K mg "is_flag" s_is_flag ["thing"]) (T : Txt K mg cT cW cH) : Cal P w K mg base 1 "is_flag" spIsFlag [] := by
  refine cal_of F sc_is_flag (fun vs H Q E h => ?_) (fun f cdv A outer s H vs Q E hr h => ?_)
  · obtain ⟨b, rfl, _⟩ := h; rfl
  · obtain ⟨b, rfl, k⟩ := h
    have nd := sc_is_flag.nd
    refine ⟨_, (pss_one (ps_ret (pe_callB (show CallR _ _ (rIsi K) from call_isi) (by rfl) T.z_isinstance (by decide +kernel) (pa_cons (pv 0) (pa_cons (pe_bltn (v := .ty "bool") (by rfl) T.z_bool (by decide +kernel) rfl) pa_nil))))), ?_⟩
    walk_at "fv"
    refine r_isi_bl ?_
    exact k _ (Ex.refl _)
end
end FV
namespace FV
open PySem PySem.Spec PyProof.Rows L2 Evl
open C8 (Cal Mak Def InsC)
theorem at_par {h : List Nat} {b : Nat} (b1 : 1 ≤ b) (b2 : b ≤ h.length) : atI (h.map nv) ((b : Int) - 1) = some (nv (par h b)) := at_ns (i := b - 1) (by omega) (by omega)
theorem Tr.up_le {h : List Nat} (t : Tr h) {b : Nat} (hb : b ≤ h.length) : ∀ k, (∀ j, j < k → up h b j ≠ 0) → up h b k ≤ h.length
  | 0, _ => hb
  | k + 1, no => t.le (Nat.pos_of_ne_zero (no k (Nat.lt_succ_self k))) (Tr.up_le t hb k fun j hj => no j (Nat.lt_succ_of_lt hj))
section
variable {P : Program} {w : World} {K : PySem.W.Frag} {mg : Str → Option Value} {base : Heap} {cT cW cH : Addr}
abbrev spLeads : Sp := fun vs H Q _ => ∃ (a : Addr) (hg : List Nat) (b : Nat), vs = [.ref a, nv b] ∧ H a = some (.tup (hg.map nv)) ∧ hg.length ≤ 1000 ∧ Tr hg ∧ b ≤ hg.length ∧ RetV (.bl true) H Q
abbrev s_leads_home : Stmt := top 14
theorem sc_leads_home : FnScope ["hung", "block", "here", "turn"] ["hung", "block"] (C8.fnScope s_leads_home) := C8.fnScope_by (by decide +kernel)
theorem k_leads_home (F : Df K mg "leads_home" s_leads_home ["hung", "block"]) (T : Txt K mg cT cW cH) : Cal P w K mg base 1 "leads_home" spLeads [] := by
  refine cal_of F sc_leads_home (fun vs H Q E h => ?_) (fun f cdv A outer s H vs Q E hr h => ?_)
  · obtain ⟨a, hg, b, rfl, _⟩ := h; rfl
  · obtain ⟨a, hg, b, rfl, ha, hz, t, hb, k⟩ := h
    have nd := sc_leads_home.nd
    refine ⟨_, (pss_cons (ps_set (i := 2) nd rfl (Or.inl rfl) (pv 1))
        (pss_cons (ps_for PassesOwn.never rfl (pi_range1 (by rfl) T.z_range (pa_cons (pe_op op_add (pe_callB (show CallR _ _ (rLenS K) from c_len) (by rfl) T.z_len (by decide +kernel) (pa_cons (pv 0) pa_nil)) pe_int) pa_nil)) (pg_name (i := 3) nd rfl (Or.inl rfl))
          (pss_cons (ps_if (pt_cmpR op_eq (pv 2) (C8.pe_gc rfl T.m_HEAD) (nomark _))
              (pss_one (ps_ret pe_bl))
              pss_nil)
            (pss_one (ps_set (i := 2) nd rfl (Or.inl rfl) (pe_ix (show IxR _ (rIxT K) from ix_tup) (pv 0) (pe_op op_sub (pv 2) pe_int) (fun _ _ => rfl))))))
        (pss_one (ps_ret pe_bl)))), ?_⟩
    walk_at "fv"
    refine l_lenT (SqT.of ha) hg.length (by simp) ?_
    walk_at "fv"
    refine l_rng1 (hg.length + 1) (by omega) (by omega) ?_
    refine for_w (H0 := H) (fun i σ' H' => Ex H H' ∧ ∃ v, σ' = [some (.ref a), some (nv b), some (nv (up hg b i)), v] ∧ ∀ j, j < i → up hg b j ≠ 0) wk_rng0 (fun _ _ _ _ p => p.1) ⟨Ex.refl _, _, rfl, fun j hj => absurd hj (Nat.not_lt_zero j)⟩ ?_ ?_
    · rintro i σ' H' hi ⟨e, v, rfl, no⟩ H2 e2
      walk_at "fv"
      by_cases hz : up hg b i = 0
      · refine ite_t (dI (by omega)) ?_
        walk_at "fv"
        exact k _ (e.trans e2)
      · refine ite_f (dN (by omega)) ?_
        walk_at "fv"
        refine r_ixT (SqT.of (e2 _ _ (e _ _ ha))) (at_par (by omega) (t.up_le hb i no)) ?_
        walk_at "fv"
        refine ⟨e.trans e2, _, rfl, fun j hj => ?_⟩
        rcases Nat.lt_or_eq_of_le (Nat.le_of_lt_succ hj) with l | rfl
        · exact no j l
        · exact hz
    · rintro σ' H' ⟨e, v, rfl, no⟩
      obtain ⟨k0, k1, k2⟩ := home t hb
      exact absurd k2 (no k0 (by omega))
abbrev spTree (cT : Addr) : Sp := fun vs H Q _ => ∃ (x a dx : Addr) (hg : List Nat), vs = [.ref x, .ref a] ∧ H x = some (.ins cT dx []) ∧ H a = some (.tup (hg.map nv)) ∧ 1 ≤ hg.length ∧ hg.length ≤ 40 ∧ Tr hg ∧
  ∀ H2, ExB x H H2 → H2 x = some (.ins cT dx [("hung", .ref a)]) → Q .non H2
abbrev s_Tree_init : Stmt := inClass (top 15) 0
theorem sc_Tree_init : FnScope ["self", "hung", "block"] ["self", "hung"] (C8.fnScope s_Tree_init) := C8.fnScope_by (by decide +kernel)
theorem ok_Tree {f : Addr} {fd : FuncData} (M : Mk K cT f) (hm : mg "Tree" = some (.ref cT)) (F : C8.Fun K "__init__" "Tree.__init__" s_Tree_init f fd) (b : Binds K fd ["self", "hung"] []) (T : Txt K mg cT cW cH)
    (c_is_within : Cal P w K mg base 2 "is_within" spIsWithin []) (c_leads_home : Cal P w K mg base 1 "leads_home" spLeads []) : Mak P w K mg base 3 "Tree" cT (spTree cT) [] := by
  refine C8.mak0 M hm F b .nil sc_Tree_init (fun vs H Q E h => ?_) (fun cdv A outer s H vs Q E hr h => ?_)
  · obtain ⟨x, a, dx, hg, rfl, _⟩ := h; rfl
  · obtain ⟨x, a, dx, hg, rfl, hx, ha, n1, n2, t, k⟩ := h
    have nd := sc_Tree_init.nd
    refine ⟨_, (pss_cons (ps_if (PW.pt (pw_or (pt_not (pt_val (pe_callB (show CallR _ _ (rIsi K) from call_isi) (by rfl) T.z_isinstance (by decide +kernel) (pa_cons (pv 1) (pa_cons (pe_bltn (v := .ty "tuple") (by rfl) T.z_tuple (by decide +kernel) rfl) pa_nil))))) (pw_or1 (pt_not (pt_chain op_le op_le pe_int (pe_callB (show CallR _ _ (rLenS K) from c_len) (by rfl) T.z_len (by decide +kernel) (pa_cons (pv 1) pa_nil)) (C8.pe_gc rfl T.m_MOST_BLOCKS))))))
          (pss_one ps_never)
          pss_nil)
        (pss_cons (ps_for PassesOwn.never rfl (pi_range2 (by rfl) T.z_range (pa_cons pe_int (pa_cons (pe_op op_add (pe_callB (show CallR _ _ (rLenS K) from c_len) (by rfl) T.z_len (by decide +kernel) (pa_cons (pv 1) pa_nil)) pe_int) pa_nil))) (pg_name (i := 2) nd rfl (Or.inl rfl))
          (pss_one (ps_if (PW.pt (pw_or (pt_not (pt_val (C8.pe_c c_is_within hr (by decide) rfl (pa_cons (pe_ix (show IxR _ (rIxT K) from ix_tup) (pv 1) (pe_op op_sub (pv 2) pe_int) (fun _ _ => rfl)) (pa_cons pe_int (pa_cons (pe_callB (show CallR _ _ (rLenS K) from c_len) (by rfl) T.z_len (by decide +kernel) (pa_cons (pv 1) pa_nil)) pa_nil)))))) (pw_or1 (pt_cmpR op_eq (pe_ix (show IxR _ (rIxT K) from ix_tup) (pv 1) (pe_op op_sub (pv 2) pe_int) (fun _ _ => rfl)) (pv 2) (nomark _)))))
              (pss_one ps_never)
              pss_nil)))
        (pss_cons (ps_for PassesOwn.never rfl (pi_range2 (by rfl) T.z_range (pa_cons pe_int (pa_cons (pe_op op_add (pe_callB (show CallR _ _ (rLenS K) from c_len) (by rfl) T.z_len (by decide +kernel) (pa_cons (pv 1) pa_nil)) pe_int) pa_nil))) (pg_name (i := 2) nd rfl (Or.inl rfl))
          (pss_one (ps_if (pt_not (pt_val (C8.pe_c c_leads_home hr (by decide) rfl (pa_cons (pv 1) (pa_cons (pv 2) pa_nil)))))
              (pss_one ps_never)
              pss_nil)))
        (pss_one (ps_fld (pv 0) (pv 1) rfl))))), ?_⟩
    walk_at "fv"
    refine r_isi_tup ha ?_
    walk_at "fv"
    refine ite_f rfl ?_
    walk_at "fv"
    refine l_lenT (SqT.of ha) hg.length (by simp) ?_
    walk_at "fv"
    refine ite_t (decide_eq_true (by omega)) ?_
    walk_at "fv"
    refine ite_f (by rw [decide_eq_true (show (hg.length : Int) ≤ 40 by omega)]; rfl) ?_
    walk_at "fv"
    refine l_lenT (SqT.of ha) hg.length (by simp) ?_
    walk_at "fv"
    refine l_rng2 hg.length (by omega) (by omega) (by omega) ?_
    refine for_w (H0 := H) (fun i σ' H' => Ex H H' ∧ ∃ v, σ' = [some (.ref x), some (.ref a), v]) wk_rng1 (fun _ _ _ _ p => p.1) ⟨Ex.refl _, _, rfl⟩ ?_ ?_
    · rintro i σ' H' hi ⟨e, v, rfl⟩ H2 e2
      have ha2 : H2 a = some (.tup (hg.map nv)) := e2 _ _ (e _ _ ha)
      have b1 : 1 ≤ i + 1 := by omega
      have b2 : i + 1 ≤ hg.length := by omega
      walk_at "fv"
      refine r_ixT (SqT.of ha2) (at_par b1 b2) ?_
      walk_at "fv"
      refine l_lenT (SqT.of ha2) hg.length (by simp) ?_
      walk_at "fv"
      have := t.le b1 b2
      have := t.ne b1 b2
      refine ⟨_, _, _, rfl, by omega, by omega, fun H3 e3 => ?_⟩
      walk_at "fv"
      refine ite_f rfl ?_
      walk_at "fv"
      refine r_ixT (SqT.of (e3 _ _ ha2)) (at_par b1 b2) ?_
      walk_at "fv"
      refine ite_f (dN (by omega)) ?_
      walk_at "fv"
      exact ⟨(e.trans e2).trans e3, _, rfl⟩
    · rintro σ' H' ⟨e, v, rfl⟩
      walk_at "fv"
      refine l_lenT (SqT.of (e _ _ ha)) hg.length (by simp) ?_
      walk_at "fv"
      refine l_rng2 hg.length (by omega) (by omega) (by omega) ?_
      refine for_w (H0 := H) (fun i σ' H' => Ex H H' ∧ ∃ v, σ' = [some (.ref x), some (.ref a), v]) wk_rng1 (fun _ _ _ _ p => p.1) ⟨e, _, rfl⟩ ?_ ?_
      · rintro i σ' H' hi ⟨e, v, rfl⟩ H2 e2
        walk_at "fv"
        refine ⟨a, hg, i + 1, rfl, e2 _ _ (e _ _ ha), by omega, t, by omega, ?_⟩
        walk_at "fv"
        refine ite_f rfl ?_
        walk_at "fv"
        exact ⟨(e.trans e2).trans (by assumption), _, rfl⟩
      · rintro σ' H' ⟨e, v, rfl⟩
        walk_at "fv"
        refine l_sfld (e _ _ hx) T.t_cl T.t_hung (by decide) ?_
        exact k _ (fun b o hb ho => by rw [upd_ne hb]; exact e _ _ ho) upd_same
abbrev spHang : Sp := fun vs H Q _ => ∃ (a : Addr) (hg : List Nat) (p : Nat), vs = [.ref a, nv p] ∧ H a = some (.tup (hg.map nv)) ∧ hg.length ≤ 1000 ∧ RetL ((hangL hg p).map nv) H Q
theorem given_nv {n : Nat} {f : Nat → Bool} {g : Nat → Nat} : given n f (fun i => nv (g i)) = (((List.range n).filter f).map g).map nv := by
  unfold given
  rw [List.map_map]
  rfl
abbrev s_hanging : Stmt := top 16
theorem sc_hanging : FnScope ["hung", "place", "block"] ["hung", "place"] (C8.fnScope s_hanging) := C8.fnScope_by (by decide +kernel)
theorem k_hanging (F : Df K mg "hanging" s_hanging ["hung", "place"]) (T : Txt K mg cT cW cH) : Cal P w K mg base 1 "hanging" spHang [] := by
  refine cal_of F sc_hanging (fun vs H Q E h => ?_) (fun f cdv A outer s H vs Q E hr h => ?_)
  · obtain ⟨a, hg, b, rfl, _⟩ := h; rfl
  · obtain ⟨a, hg, p, rfl, ha, hz, k⟩ := h
    have nd := sc_hanging.nd
    refine ⟨_, (pss_one (ps_ret (pe_lc (own := [("block", 2)]) rfl nd (pi_range2 (by rfl) T.z_range (pa_cons pe_int (pa_cons (pe_op op_add (pe_callB (show CallR _ _ (rLenS K) from c_len) (by rfl) T.z_len (by decide +kernel) (pa_cons (pv 0) pa_nil)) pe_int) pa_nil))) (blkOk_by (own := [("block", 2)]) (N := ["hung", "place", "block"]) (sc := (C8.fnScope s_hanging)) (by decide +kernel)) (fun _ _ _ _ _ => (pg_name (i := 2) nd rfl (Or.inl rfl))) (fun _ _ _ _ _ => (pts_one (pt_cmpR op_eq (pe_ix (show IxR _ (rIxT K) from ix_tup) (pv 0) (pe_op op_sub (pv 2) pe_int) (fun _ _ => rfl)) (pv 1) (nomark _)))) (fun _ _ _ _ _ => (pv 2))))), ?_⟩
    walk_at "fv"
    refine l_lenT (SqT.of ha) hg.length (by simp) ?_
    walk_at "fv"
    refine l_rng2 hg.length (by omega) (by omega) (by omega) ?_
    refine lc_v wk_rng1 (by omega) (fun i => decide (ent hg i = p)) (fun i => nv (i + 1)) (fun _ _ => rfl) (fun i hi H1 e1 Q1 k1 => ?_) (fun i hi hf H1 e1 Q1 k1 => ?_) (fun q H2 hq e2 h2 => k q H2 hq e2 (by rw [h2, given_nv]; rfl))
    · walk_at "fv"
      refine r_ixT (SqT.of (e1 _ _ ha)) (at_par (by omega) (by omega)) ?_
      walk_at "fv"
      rw [show decide (V.int ((par hg (i + 1) : Nat) : Int) = V.int ((p : Nat) : Int)) = decide (ent hg i = p) from (decI _ _).trans (by simp only [Int.ofNat_inj]; rfl)]
      exact k1 _ (Ex.refl _)
    · walk_at "fv"
      exact k1 _ (Ex.refl _)
abbrev spWith : Sp := fun vs H Q _ => ∃ (a : Addr) (hg : List Nat) (b p : Nat), vs = [.ref a, nv b, nv p] ∧ H a = some (.tup (hg.map nv)) ∧ hg.length ≤ 1000 ∧ 1 ≤ b ∧ b ≤ hg.length ∧ RetT ((hg.set (b - 1) p).map nv) H Q
theorem set_cut {h : List Nat} {b p : Nat} (b1 : 1 ≤ b) (b2 : b ≤ h.length) : ((h.map nv).take (b - 1) ++ [nv p]) ++ (h.map nv).drop b = (h.set (b - 1) p).map nv := by
  rw [List.set_eq_take_append_cons_drop, if_pos (by omega), List.map_append, List.map_cons, List.map_take, List.map_drop, List.append_assoc, show b - 1 + 1 = b by omega]
  rfl
abbrev s_with_place : Stmt := top 18
theorem sc_with_place : FnScope ["hung", "block", "place"] ["hung", "block", "place"] (C8.fnScope s_with_place) := C8.fnScope_by (by decide +kernel)
theorem k_with_place (F : Df K mg "with_place" s_with_place ["hung", "block", "place"]) (T : Txt K mg cT cW cH) : Cal P w K mg base 1 "with_place" spWith [] := by
  refine cal_of F sc_with_place (fun vs H Q E h => ?_) (fun f cdv A outer s H vs Q E hr h => ?_)
  · obtain ⟨a, hg, b, p, rfl, _⟩ := h; rfl
  · obtain ⟨a, hg, b, p, rfl, ha, hz, b1, b2, k⟩ := h
    have nd := sc_with_place.nd
    refine ⟨_, (pss_one (ps_ret (pe_op (show OpR _ _ (rCatA K) from op_catA) (pe_op (show OpR _ _ (rCatA K) from op_catA) (pe_slice (show SlR _ (rSlA K) from sl_tupA) (pv 0) po_none (po_some (pe_op op_sub (pv 1) pe_int))) (pe_tup (pa_cons (pv 2) pa_nil))) (pe_slice (show SlR _ (rSlA K) from sl_tupA) (pv 0) (po_some (pv 1)) po_none)))), ?_⟩
    walk_at "fv"
    refine r_slA (ys := (hg.map nv).take (b - 1)) ha (by rw [show ((b : Nat) : Int) - 1 = ((b - 1 : Nat) : Int) by omega]; exact cutV_to _ _) fun q1 H1 e1 h1 => ?_
    walk_at "fv"
    refine l_tup (by simp) fun q2 H2 hq2 e2 h2 => ?_
    walk_at "fv"
    refine r_catA (e2 _ _ h1) h2 (by simp; omega) fun q3 H3 e3 h3 => ?_
    walk_at "fv"
    refine r_slA (ys := (hg.map nv).drop b) (e3 _ _ (e2 _ _ (e1 _ _ ha))) (cutV_from _ _) fun q4 H4 e4 h4 => ?_
    refine r_catA (e4 _ _ h3) h4 (by simp; omega) fun q5 H5 e5 h5 => ?_
    exact k q5 H5 ((((e1.trans e2).trans e3).trans e4).trans e5) (by rw [h5, set_cut b1 b2])
end
end FV
namespace FV
open PySem PySem.Spec PyProof.Rows L2 Evl
open C8 (Cal Mak Def InsC)
section
variable {P : Program} {w : World} {K : PySem.W.Frag} {mg : Str → Option Value} {base : Heap} {cT cW cH : Addr}
abbrev spBeneath : Sp := fun vs H Q _ => ∃ (a : Addr) (hg : List Nat) (p : Nat), vs = [.ref a, nv p] ∧ H a = some (.tup (hg.map nv)) ∧ hg.length ≤ 40 ∧ Tr hg ∧ ∀ xs : List Nat, (∀ x, x ∈ xs → Desc hg p x) → RetT (xs.map nv) H Q
abbrev s_beneath_in : Stmt := top 17
theorem sc_beneath_in : FnScope ["hung", "place", "found", "waiting", "more"] ["hung", "place"] (C8.fnScope s_beneath_in) := C8.fnScope_by (by decide +kernel)
theorem k_beneath_in (F : Df K mg "beneath_in" s_beneath_in ["hung", "place"]) (T : Txt K mg cT cW cH) (c_hanging : Cal P w K mg base 1 "hanging" spHang []) : Cal P w K mg base 2 "beneath_in" spBeneath [] := by
  refine cal_of F sc_beneath_in (fun vs H Q E h => ?_) (fun f cdv A outer s H vs Q E hr h => ?_)
  · obtain ⟨a, hg, b, rfl, _⟩ := h; rfl
  · obtain ⟨a, hg, p, rfl, ha, hz, t, k⟩ := h
    have nd := sc_beneath_in.nd
    refine ⟨_, (pss_cons (ps_set (i := 2) nd rfl (Or.inl rfl) (pe_lst pa_nil))
        (pss_cons (ps_set (i := 3) nd rfl (Or.inl rfl) (pe_lst (pa_cons (pv 1) pa_nil)))
        (pss_cons (ps_while PassesOwn.never (pt_cmpR op_gt (pe_callB (show CallR _ _ (rLenS K) from c_len) (by rfl) T.z_len (by decide +kernel) (pa_cons (pv 3) pa_nil)) pe_int (nomark _))
          (pss_cons (ps_set (i := 4) nd rfl (Or.inl rfl) (C8.pe_c c_hanging hr (by decide) rfl (pa_cons (pv 0) (pa_cons (pe_bm0 PySem.F.plainAttrs_list PySem.F.slot_list_pop PySem.F.type_list_pop mt_pop (pv 3)) pa_nil))))
            (pss_cons (ps_expr (pe_bm PySem.F.plainAttrs_list PySem.F.slot_list_extend PySem.F.type_list_extend mt_extend (pv 2) (pa_cons (pv 4) pa_nil)))
            (pss_one (ps_expr (pe_bm PySem.F.plainAttrs_list PySem.F.slot_list_extend PySem.F.type_list_extend mt_extend (pv 3) (pa_cons (pv 4) pa_nil)))))))
        (pss_one (ps_ret (pe_callTy (show CallR _ _ (rTupOf K) from c_tupOf) (by rfl) T.z_tuple (by decide +kernel) (pa_cons (pe_callB (show CallR _ _ (rSorted K) from cr_sorted) (by rfl) T.z_sorted (by decide +kernel) (pa_cons (pv 2) pa_nil)) pa_nil))))))), ?_⟩
    walk_at "fv"
    refine l_lst (by simp) fun fd H1 hfd e1 h1 => ?_
    walk_at "fv"
    refine l_lst (by simp) fun wq H2 hwq e2 h2 => ?_
    walk_at "fv"
    have nfw : fd ≠ wq := ne_of_none h1 hwq
    have hwq0 : H wq = none := fresh_back e1 hwq
    refine while_w (fun m σ' H' => ∃ fs ws ds v4, σ' = [some (.ref a), some (nv p), some (.ref fd), some (.ref wq), v4] ∧ Ex H H' ∧ H' fd = some (.lst (fs.map nv)) ∧ H' wq = some (.lst (ws.map nv)) ∧ BInv hg p fs ws ds ∧ m = 2 * (hg.length - fs.length) + ws.length) _
      ⟨[], [p], [], _, rfl, e1.trans e2, e2 _ _ h1, h2, BInv.init hg p, rfl⟩ ?_
    rintro m σ' H' ⟨fs, ws, ds, v4, rfl, e, hf, hw, B, rfl⟩
    walk_at "fv"
    refine l_lenL (SqL.of hw) ws.length (by simp) ?_
    walk_at "fv"
    have fl := B.flen
    have wl := B.wlen
    rcases nil_or_snoc ws with rfl | ⟨ws', v, rfl⟩
    · refine ite_f (decide_eq_false (by simp)) ?_
      walk_at "fv"
      refine l_sorted (l := fs) (SqL.of hf) (by omega) fun l' q H3 pm _ hq e3 h3 => ?_
      walk_at "fv"
      refine l_tupOf (SqL.of h3) fun q2 H4 hq2 e4 h4 => ?_
      exact k l' (fun x hx => B.desc x (pm.mem_iff.mp hx)) q2 H4 ((e.trans e3).trans e4) h4
    · refine ite_t (decide_eq_true (by rw [List.length_append, List.length_singleton]; omega)) (wbody ?_)
      walk_at "fv"
      refine l_bm0L (SqL.of hw) ⟨wq, _, nv v, rfl, rfl, hw, by simp, ?_⟩
      have e3 : Ex H (upd H' wq (.lst (((ws' ++ [v]).map nv).dropLast))) := Ex.mut e hwq0
      walk_at "fv"
      refine ⟨a, hg, v, rfl, e3 _ _ ha, by omega, fun mo H4 hmo e4 h4 => ?_⟩
      walk_at "fv"
      have hf4 : H4 fd = some (.lst (fs.map nv)) := e4 _ _ (by rw [upd_ne nfw]; exact hf)
      have hw4 : H4 wq = some (.lst (ws'.map nv)) := e4 _ _ (by rw [upd_same]; simp)
      have B2 := B.step t
      have fl2 := B2.flen
      have wl2 := B2.wlen
      simp only [List.length_append] at fl2 wl2
      refine l_bmL (SqL.of hf4) ?_
      walk_at "fv"
      refine ⟨fd, mo, _, _, rfl, rfl, hf4, h4, sz100 (by simp; omega), ?_⟩
      walk_at "fv"
      have nmw : mo ≠ wq := fun z => by
        rw [z, upd_same] at hmo
        cases hmo
      have nmf : mo ≠ fd := fun z => by
        rw [z, upd_ne nfw, hf] at hmo
        cases hmo
      refine l_bmL (SqL.of (by rw [upd_ne nfw.symm]; exact hw4)) ?_
      walk_at "fv"
      refine ⟨wq, mo, _, _, rfl, rfl, (by rw [upd_ne nfw.symm]; exact hw4), (by rw [upd_ne nmf]; exact h4), sz100 (by simp; omega), ?_⟩
      walk_at "fv"
      refine ⟨2 * (hg.length - (fs ++ hangL hg v).length) + (ws' ++ hangL hg v).length, by simp only [List.length_append, List.length_singleton]; omega, _, _, v :: ds, _, rfl, Ex.mut (Ex.mut (e3.trans e4) hfd) hwq0, ?_, ?_, B2, rfl⟩
      · rw [upd_ne nfw, upd_same, List.map_append]
      · rw [upd_same, List.map_append]
abbrev spIsMove : Sp := fun vs H Q _ => ∃ (a m : Addr) (hg : List Nat) (b p : Nat), vs = [.ref a, .ref m] ∧ H a = some (.tup (hg.map nv)) ∧ H m = some (.tup [nv b, nv p]) ∧ hg.length ≤ 40 ∧ Tr hg ∧ Mv hg b p ∧ RetV (.bl true) H Q
abbrev s_is_move : Stmt := top 29
theorem sc_is_move : FnScope ["hung", "thing"] ["hung", "thing"] (C8.fnScope s_is_move) := C8.fnScope_by (by decide +kernel)
theorem k_is_move (F : Df K mg "is_move" s_is_move ["hung", "thing"]) (T : Txt K mg cT cW cH) (c_is_pair : Cal P w K mg base 1 "is_pair" spIsPair []) (c_is_within : Cal P w K mg base 2 "is_within" spIsWithin []) (c_beneath_in : Cal P w K mg base 2 "beneath_in" spBeneath []) : Cal P w K mg base 3 "is_move" spIsMove [] := by
  refine cal_of F sc_is_move (fun vs H Q E h => ?_) (fun f cdv A outer s H vs Q E hr h => ?_)
  · obtain ⟨a, m, hg, b, p, rfl, _⟩ := h; rfl
  · obtain ⟨a, m, hg, b, p, rfl, ha, hm, hz, t, ⟨b1, b2, p2, pb, ndc⟩, k⟩ := h
    have nd := sc_is_move.nd
    refine ⟨_, (pss_cons (ps_if (PW.pt (pw_or (pt_not (pt_val (C8.pe_c c_is_pair hr (by decide) rfl (pa_cons (pv 1) pa_nil)))) (pw_or (pt_not (pt_val (C8.pe_c c_is_within hr (by decide) rfl (pa_cons (pe_ix (show IxR _ (rIxT K) from ix_tup) (pv 1) pe_int (fun _ _ => rfl)) (pa_cons pe_int (pa_cons (pe_callB (show CallR _ _ (rLenS K) from c_len) (by rfl) T.z_len (by decide +kernel) (pa_cons (pv 0) pa_nil)) pa_nil)))))) (pw_or1 (pt_not (pt_val (C8.pe_c c_is_within hr (by decide) rfl (pa_cons (pe_ix (show IxR _ (rIxT K) from ix_tup) (pv 1) pe_int (fun _ _ => rfl)) (pa_cons pe_int (pa_cons (pe_callB (show CallR _ _ (rLenS K) from c_len) (by rfl) T.z_len (by decide +kernel) (pa_cons (pv 0) pa_nil)) pa_nil))))))))))
          (pss_one (ps_ret pe_bl))
          pss_nil)
        (pss_one (ps_ret (pe_and (pe_cmpR op_ne (pe_ix (show IxR _ (rIxT K) from ix_tup) (pv 1) pe_int (fun _ _ => rfl)) (pe_ix (show IxR _ (rIxT K) from ix_tup) (pv 1) pe_int (fun _ _ => rfl)) (nomark _)) (pe_one (pe_cmpR (show OpR _ _ (rIn K true) from op_notIn_seq) (pe_ix (show IxR _ (rIxT K) from ix_tup) (pv 1) pe_int (fun _ _ => rfl)) (C8.pe_c c_beneath_in hr (by decide) rfl (pa_cons (pv 0) (pa_cons (pe_ix (show IxR _ (rIxT K) from ix_tup) (pv 1) pe_int (fun _ _ => rfl)) pa_nil))) (by rfl))))))), ?_⟩
    walk_at "fv"
    refine ⟨m, nv b, nv p, rfl, hm, fun H1 e1 => ?_⟩
    walk_at "fv"
    refine ite_f rfl ?_
    have hm1 := e1 _ _ hm
    have ha1 := e1 _ _ ha
    walk_at "fv"
    refine r_ixT (SqT.of hm1) (at_nat (i := 0) rfl rfl) ?_
    walk_at "fv"
    refine l_lenT (SqT.of ha1) hg.length (by simp) ?_
    walk_at "fv"
    refine ⟨_, _, _, rfl, by omega, by omega, fun H2 e2 => ?_⟩
    walk_at "fv"
    refine ite_f rfl ?_
    walk_at "fv"
    have hm2 := e2 _ _ hm1
    have ha2 := e2 _ _ ha1
    refine r_ixT (SqT.of hm2) (at_nat (i := 1) rfl rfl) ?_
    walk_at "fv"
    refine l_lenT (SqT.of ha2) hg.length (by simp) ?_
    walk_at "fv"
    refine ⟨_, _, _, rfl, by omega, by omega, fun H3 e3 => ?_⟩
    walk_at "fv"
    refine ite_f rfl ?_
    walk_at "fv"
    have hm3 := e3 _ _ hm2
    have ha3 := e3 _ _ ha2
    refine r_ixT (SqT.of hm3) (at_nat (i := 1) rfl rfl) ?_
    walk_at "fv"
    refine r_ixT (SqT.of hm3) (at_nat (i := 0) rfl rfl) ?_
    walk_at "fv"
    refine ite_t (by rw [dN (by omega)]; rfl) ?_
    walk_at "fv"
    refine r_ixT (SqT.of hm3) (at_nat (i := 1) rfl rfl) ?_
    walk_at "fv"
    refine r_ixT (SqT.of hm3) (at_nat (i := 0) rfl rfl) ?_
    walk_at "fv"
    refine ⟨a, hg, b, rfl, ha3, hz, t, fun xs hx q H4 e4 h4 => ?_⟩
    refine r_ninNT h4 ?_
    rw [decide_eq_false (fun z => ndc (hx p z))]
    exact k _ (((e1.trans e2).trans e3).trans e4)
abbrev spChkUps : Sp := fun vs H Q _ => ∃ (a : Addr) (U : List Nat), vs = [nv U.length, .ref a] ∧ H a = some (.tup (U.map nv)) ∧ U.length ≤ 40 ∧ Pl U ∧ RetV .non H Q
abbrev s_check_ups : Stmt := top 20
theorem sc_check_ups : FnScope ["blocks", "ups", "block", "told"] ["blocks", "ups"] (C8.fnScope s_check_ups) := C8.fnScope_by (by decide +kernel)
theorem k_check_ups (F : Df K mg "check_ups" s_check_ups ["blocks", "ups"]) (T : Txt K mg cT cW cH) (c_is_within : Cal P w K mg base 2 "is_within" spIsWithin []) : Cal P w K mg base 3 "check_ups" spChkUps [] := by
  refine cal_of F sc_check_ups (fun vs H Q E h => ?_) (fun f cdv A outer s H vs Q E hr h => ?_)
  · obtain ⟨a, U, rfl, _⟩ := h; rfl
  · obtain ⟨a, U, rfl, ha, hz, t, k⟩ := h
    have nd := sc_check_ups.nd
    refine ⟨_, (pss_cons (ps_if (PW.pt (pw_or (pt_not (pt_val (pe_callB (show CallR _ _ (rIsi K) from call_isi) (by rfl) T.z_isinstance (by decide +kernel) (pa_cons (pv 1) (pa_cons (pe_bltn (v := .ty "tuple") (by rfl) T.z_tuple (by decide +kernel) rfl) pa_nil))))) (pw_or1 (pt_cmpR op_ne (pe_callB (show CallR _ _ (rLenS K) from c_len) (by rfl) T.z_len (by decide +kernel) (pa_cons (pv 1) pa_nil)) (pv 0) (nomark _)))))
          (pss_one ps_never)
          pss_nil)
        (pss_one (ps_for PassesOwn.never rfl (pi_range2 (by rfl) T.z_range (pa_cons pe_int (pa_cons (pe_op op_add (pv 0) pe_int) pa_nil))) (pg_name (i := 2) nd rfl (Or.inl rfl))
          (pss_cons (ps_set (i := 3) nd rfl (Or.inl rfl) (pe_ix (show IxR _ (rIxT K) from ix_tup) (pv 1) (pe_op op_sub (pv 2) pe_int) (fun _ _ => rfl)))
            (pss_one (ps_if (PW.pt (pw_and (pt_cmpR op_notN (pv 3) pe_non (nomark _)) (pw_and1 (PW.pt (pw_or (pt_not (pt_val (C8.pe_c c_is_within hr (by decide) rfl (pa_cons (pv 3) (pa_cons pe_int (pa_cons (pv 0) pa_nil)))))) (pw_or1 (pt_cmpR op_eq (pv 3) (pv 2) (nomark _))))))))
              (pss_one ps_never)
              pss_nil)))))), ?_⟩
    walk_at "fv"
    refine r_isi_tup ha ?_
    walk_at "fv"
    refine ite_f rfl ?_
    walk_at "fv"
    refine l_lenT (SqT.of ha) U.length (by simp) ?_
    walk_at "fv"
    refine ite_f (by rw [dI rfl]; rfl) ?_
    walk_at "fv"
    refine l_rng2 U.length (by omega) (by omega) (by omega) ?_
    refine for_w (H0 := H) (fun i σ' H' => Ex H H' ∧ ∃ v2 v3, σ' = [some (nv U.length), some (.ref a), v2, v3]) wk_rng1 (fun _ _ _ _ p => p.1) ⟨Ex.refl _, _, _, rfl⟩ ?_ ?_
    · rintro i σ' H' hi ⟨e, v2, v3, rfl⟩ H2 e2
      have b1 : 1 ≤ i + 1 := by omega
      have b2 : i + 1 ≤ U.length := by omega
      walk_at "fv"
      refine r_ixT (SqT.of (e2 _ _ (e _ _ ha))) (at_par b1 b2) ?_
      walk_at "fv"
      refine ite_t rfl ?_
      walk_at "fv"
      have := t.le b1 b2
      have := t.ne b1 b2
      refine ⟨_, _, _, rfl, by omega, by omega, fun H3 e3 => ?_⟩
      walk_at "fv"
      refine ite_f rfl ?_
      walk_at "fv"
      refine ite_f (dN (by omega)) ?_
      walk_at "fv"
      exact ⟨(e.trans e2).trans e3, _, _, rfl⟩
    · rintro σ' H' ⟨e, v2, v3, rfl⟩
      exact k _ e
abbrev spChkLists : Sp := fun vs H Q _ => ∃ (l : Addr) (rows : Nat → Addr) (U : List Nat), vs = [nv U.length, .ref l] ∧ RowsAt H l rows U.length U ∧ U.length ≤ 40 ∧ Pl U ∧ RetV .non H Q
abbrev s_check_lists : Stmt := top 21
theorem sc_check_lists : FnScope ["blocks", "lists", "place", "block", "told"] ["blocks", "lists"] (C8.fnScope s_check_lists) := C8.fnScope_by (by decide +kernel)
theorem k_check_lists (F : Df K mg "check_lists" s_check_lists ["blocks", "lists"]) (T : Txt K mg cT cW cH) (c_is_flag : Cal P w K mg base 1 "is_flag" spIsFlag []) : Cal P w K mg base 2 "check_lists" spChkLists [] := by
  refine cal_of F sc_check_lists (fun vs H Q E h => ?_) (fun f cdv A outer s H vs Q E hr h => ?_)
  · obtain ⟨l, rows, U, rfl, _⟩ := h; rfl
  · obtain ⟨l, rows, U, rfl, ha, hz, t, k⟩ := h
    have nd := sc_check_lists.nd
    refine ⟨_, (pss_cons (ps_if (PW.pt (pw_or (pt_not (pt_val (pe_callB (show CallR _ _ (rIsi K) from call_isi) (by rfl) T.z_isinstance (by decide +kernel) (pa_cons (pv 1) (pa_cons (pe_bltn (v := .ty "tuple") (by rfl) T.z_tuple (by decide +kernel) rfl) pa_nil))))) (pw_or1 (pt_cmpR op_ne (pe_callB (show CallR _ _ (rLenS K) from c_len) (by rfl) T.z_len (by decide +kernel) (pa_cons (pv 1) pa_nil)) (pe_op op_add (pv 0) pe_int) (nomark _)))))
          (pss_one ps_never)
          pss_nil)
        (pss_cons (ps_for PassesOwn.never rfl (pi_range1 (by rfl) T.z_range (pa_cons (pe_op op_add (pv 0) pe_int) pa_nil)) (pg_name (i := 2) nd rfl (Or.inl rfl))
          (pss_one (ps_if (PW.pt (pw_or (pt_not (pt_val (pe_callB (show CallR _ _ (rIsi K) from call_isi) (by rfl) T.z_isinstance (by decide +kernel) (pa_cons (pe_ix (show IxR _ (rIxT K) from ix_tup) (pv 1) (pv 2) (fun _ _ => rfl)) (pa_cons (pe_bltn (v := .ty "tuple") (by rfl) T.z_tuple (by decide +kernel) rfl) pa_nil))))) (pw_or1 (pt_cmpR op_ne (pe_callB (show CallR _ _ (rLenS K) from c_len) (by rfl) T.z_len (by decide +kernel) (pa_cons (pe_ix (show IxR _ (rIxT K) from ix_tup) (pv 1) (pv 2) (fun _ _ => rfl)) pa_nil)) (pv 0) (nomark _)))))
              (pss_one ps_never)
              pss_nil)))
        (pss_one (ps_for PassesOwn.never rfl (pi_range1 (by rfl) T.z_range (pa_cons (pe_op op_add (pv 0) pe_int) pa_nil)) (pg_name (i := 2) nd rfl (Or.inl rfl))
          (pss_one (ps_for PassesOwn.never rfl (pi_range2 (by rfl) T.z_range (pa_cons pe_int (pa_cons (pe_op op_add (pv 0) pe_int) pa_nil))) (pg_name (i := 3) nd rfl (Or.inl rfl))
              (pss_cons (ps_set (i := 4) nd rfl (Or.inl rfl) (pe_ix (show IxR _ (rIxT K) from ix_tup) (pe_ix (show IxR _ (rIxT K) from ix_tup) (pv 1) (pv 2) (fun _ _ => rfl)) (pe_op op_sub (pv 3) pe_int) (fun _ _ => rfl)))
                (pss_one (ps_if (PW.pt (pw_or (PW.pt (pw_and (pt_cmpR op_notN (pv 4) pe_non (nomark _)) (pw_and1 (pt_not (pt_val (C8.pe_c c_is_flag hr (by decide) rfl (pa_cons (pv 4) pa_nil))))))) (pw_or1 (PW.pt (pw_and (pt_cmpR op_eq (pv 2) (pv 3) (nomark _)) (pw_and1 (pt_cmpR op_isnot_bl (pv 4) pe_bl (nomark _))))))))
                  (pss_one ps_never)
                  pss_nil))))))))), ?_⟩
    walk_at "fv"
    refine r_isi_tup ha.1 ?_
    walk_at "fv"
    refine ite_f rfl ?_
    walk_at "fv"
    refine l_lenT (SqT.of ha.1) (U.length + 1) (by simp) ?_
    walk_at "fv"
    refine ite_f (by rw [dI (by omega)]; rfl) ?_
    walk_at "fv"
    refine l_rng1 (U.length + 1) (by omega) (by omega) ?_
    refine for_w (H0 := H) (fun i σ' H' => Ex H H' ∧ ∃ v2 v3 v4, σ' = [some (nv U.length), some (.ref l), v2, v3, v4]) wk_rng0 (fun _ _ _ _ p => p.1) ⟨Ex.refl _, _, _, _, rfl⟩ ?_ ?_
    · rintro i σ' H' hi ⟨e, v2, v3, v4, rfl⟩ H2 e2
      have ha2 := ha.mono (e.trans e2)
      walk_at "fv"
      refine r_ixT (SqT.of ha2.1) (at_fn rfl hi) ?_
      walk_at "fv"
      refine r_isi_tup (ha2.2 i (by omega)) ?_
      walk_at "fv"
      refine ite_f rfl ?_
      walk_at "fv"
      refine r_ixT (SqT.of ha2.1) (at_fn rfl hi) ?_
      walk_at "fv"
      refine l_lenT (SqT.of (ha2.2 i (by omega))) U.length (by simp) ?_
      walk_at "fv"
      refine ite_f (by rw [dI rfl]; rfl) ?_
      walk_at "fv"
      exact ⟨e.trans e2, _, _, _, rfl⟩
    · rintro σ' H' ⟨e, v2, v3, v4, rfl⟩
      walk_at "fv"
      refine l_rng1 (U.length + 1) (by omega) (by omega) ?_
      refine for_w (H0 := H) (fun i σ' H' => Ex H H' ∧ ∃ v2 v3 v4, σ' = [some (nv U.length), some (.ref l), v2, v3, v4]) wk_rng0 (fun _ _ _ _ p => p.1) ⟨e, _, _, _, rfl⟩ ?_ ?_
      · rintro i σ' H' hi ⟨e, v2, v3, v4, rfl⟩ H2 e2
        walk_at "fv"
        refine l_rng2 U.length (by omega) (by omega) (by omega) ?_
        refine for_w (H0 := H) (fun _ σ' H' => Ex H H' ∧ ∃ v3 v4, σ' = [some (nv U.length), some (.ref l), some (nv i), v3, v4]) wk_rng1 (fun _ _ _ _ p => p.1) ⟨e.trans e2, _, _, rfl⟩ ?_ ?_
        · rintro j σ' H3 hj ⟨e3, v3, v4, rfl⟩ H4 e4
          have ha2 := ha.mono (e3.trans e4)
          walk_at "fv"
          refine r_ixT (SqT.of ha2.1) (at_fn rfl hi) ?_
          walk_at "fv"
          refine r_ixT (SqT.of (ha2.2 i (by omega))) (at_fn (i := j) (by omega) hj) ?_
          walk_at "fv"
          refine ite_t rfl ?_
          walk_at "fv"
          refine ite_f rfl ?_
          walk_at "fv"
          have q := t.ne (b := j + 1) (by omega) (by omega)
          by_cases ij : i = j + 1
          · refine ite_t (dI (by omega)) ?_
            walk_at "fv"
            refine ite_f ?_ ?_
            · have : decide (ent U j = i) = false := decide_eq_false fun z => q (z.trans ij)
              rw [this]
              rfl
            · walk_at "fv"
              exact ⟨e3.trans (e4.trans (by assumption)), _, _, rfl⟩
          · refine ite_f (dN (by omega)) ?_
            walk_at "fv"
            refine ite_f rfl ?_
            walk_at "fv"
            exact ⟨e3.trans (e4.trans (by assumption)), _, _, rfl⟩
        · rintro σ' H' ⟨e, v3, v4, rfl⟩
          exact ⟨e, _, _, _, rfl⟩
      · rintro σ' H' ⟨e, v2, v3, v4, rfl⟩
        exact k _ e
end
end FV
namespace FV
open PySem PySem.Spec PyProof.Rows L2 Evl
open C8 (Cal Mak Def InsC)
section
variable {P : Program} {w : World} {K : PySem.W.Frag} {mg : Str → Option Value} {base : Heap} {cT cW cH : Addr}
abbrev spWords (cW : Addr) : Sp := fun vs H Q _ => ∃ (x u l dx : Addr) (rows : Nat → Addr) (U : List Nat), vs = [.ref x, nv U.length, .ref u, .ref l] ∧ H x = some (.ins cW dx []) ∧ H u = some (.tup (U.map nv)) ∧ RowsAt H l rows U.length U ∧ 1 ≤ U.length ∧ U.length ≤ 40 ∧ Pl U ∧
  ∀ H2, ExB x H H2 → H2 x = some (.ins cW dx (wF U.length u l)) → Q .non H2
abbrev s_Words_init : Stmt := inClass (top 22) 0
theorem sc_Words_init : FnScope ["self", "blocks", "ups", "lists"] ["self", "blocks", "ups", "lists"] (C8.fnScope s_Words_init) := C8.fnScope_by (by decide +kernel)
theorem ok_Words {f : Addr} {fd : FuncData} (M : Mk K cW f) (hm : mg "Words" = some (.ref cW)) (F : C8.Fun K "__init__" "Words.__init__" s_Words_init f fd) (b : Binds K fd ["self", "blocks", "ups", "lists"] []) (T : Txt K mg cT cW cH)
    (c_is_within : Cal P w K mg base 2 "is_within" spIsWithin []) (c_check_ups : Cal P w K mg base 3 "check_ups" spChkUps []) (c_check_lists : Cal P w K mg base 2 "check_lists" spChkLists []) : Mak P w K mg base 4 "Words" cW (spWords cW) [] := by
  refine C8.mak0 M hm F b .nil sc_Words_init (fun vs H Q E h => ?_) (fun cdv A outer s H vs Q E hr h => ?_)
  · obtain ⟨x, u, l, dx, rows, U, rfl, _⟩ := h; rfl
  · obtain ⟨x, u, l, dx, rows, U, rfl, hx, hu, hl, n1, n2, t, k⟩ := h
    have nd := sc_Words_init.nd
    refine ⟨_, (pss_cons (ps_if (pt_not (pt_val (C8.pe_c c_is_within hr (by decide) rfl (pa_cons (pv 1) (pa_cons pe_int (pa_cons (C8.pe_gc rfl T.m_MOST_BLOCKS) pa_nil))))))
          (pss_one ps_never)
          pss_nil)
        (pss_cons (ps_expr (C8.pe_c c_check_ups hr (by decide) rfl (pa_cons (pv 1) (pa_cons (pv 2) pa_nil))))
        (pss_cons (ps_expr (C8.pe_c c_check_lists hr (by decide) rfl (pa_cons (pv 1) (pa_cons (pv 3) pa_nil))))
        (pss_cons (ps_fld (pv 0) (pv 1) rfl)
        (pss_cons (ps_fld (pv 0) (pv 2) rfl)
        (pss_one (ps_fld (pv 0) (pv 3) rfl))))))), ?_⟩
    walk_at "fv"
    refine ⟨_, _, _, rfl, by omega, by omega, fun H1 e1 => ?_⟩
    walk_at "fv"
    refine ite_f rfl ?_
    walk_at "fv"
    refine ⟨u, U, rfl, e1 _ _ hu, n2, t, fun H2 e2 => ?_⟩
    walk_at "fv"
    have e := e1.trans e2
    refine ⟨l, rows, U, rfl, hl.mono e, n2, t, fun H3 e3 => ?_⟩
    walk_at "fv"
    refine l_sfld (e3 _ _ (e _ _ hx)) T.w_cl T.w_blocks (by decide) ?_
    walk_at "fv"
    refine l_sfld upd_same T.w_cl T.w_ups (by show 1 < 1000; decide) ?_
    walk_at "fv"
    refine l_sfld upd_same T.w_cl T.w_lists (Nat.lt_of_le_of_lt (putF_len _ _ _) (by show 1 + 1 < 1000; decide)) ?_
    exact k _ (fun b o hb ho => by rw [upd_ne hb, upd_ne hb, upd_ne hb]; exact e3 _ _ (e _ _ ho)) upd_same
abbrev spWordsFrom (cW : Addr) : Sp := fun vs H Q _ => ∃ (u d : Addr) (U : List Nat), vs = [.ref u, .ref d] ∧ H u = some (.tup (U.map nv)) ∧ PairsAt H d U ∧ 1 ≤ U.length ∧ U.length ≤ 40 ∧ Pl U ∧
  ∀ wd l rows H2, Ex H H2 → WordsAt cW H2 wd u l rows U.length U → Q (.ref wd) H2
abbrev s_words_from : Stmt := top 23
theorem sc_words_from : FnScope ["ups", "pairs", "blocks", "lists", "place", "block"] ["ups", "pairs"] (C8.fnScope s_words_from) := C8.fnScope_by (by decide +kernel)
theorem k_words_from (F : Df K mg "words_from" s_words_from ["ups", "pairs"]) (T : Txt K mg cT cW cH) (k_Words : Mak P w K mg base 4 "Words" cW (spWords cW) []) : Cal P w K mg base 6 "words_from" (spWordsFrom cW) [] := by
  refine cal_of F sc_words_from (fun vs H Q E h => ?_) (fun f cdv A outer s H vs Q E hr h => ?_)
  · obtain ⟨u, d, U, rfl, _⟩ := h; rfl
  · obtain ⟨u, d, U, rfl, hup, hd, n1, n2, t, k⟩ := h
    have nd := sc_words_from.nd
    have hu := hu_of hr
    refine ⟨_, (pss_cons (ps_set (i := 2) nd rfl (Or.inr rfl) (pe_callB (show CallR _ _ (rLenS K) from c_len) (by rfl) T.z_len (by decide +kernel) (pa_cons (pv 0) pa_nil)))
        (pss_cons (ps_setLc (i := 3) (own := [("place", 4)]) rfl nd rfl rfl (sw_true rfl rfl rfl (by decide +kernel)) (pi_range1 (by rfl) T.z_range (pa_cons (pe_op op_add (pv 2) pe_int) pa_nil)) (blkOk_by (own := [("place", 4)]) (N := ["ups", "pairs", "blocks", "lists", "place", "block"]) (sc := (C8.fnScope s_words_from)) (by decide +kernel)) (fun _ _ _ _ _ => (pg_name (i := 4) nd rfl (Or.inr rfl))) (fun _ _ _ _ _ => pts_nil) (fun _ _ _ _ _ => (pe_callTy (show CallR _ _ (rTupOf K) from c_tupOf) (by rfl) T.z_tuple (by decide +kernel) (pa_cons (pe_lc (own := [("block", 5)]) rfl nd (pi_range2 (by rfl) T.z_range (pa_cons pe_int (pa_cons (pe_op op_add (pv 2) pe_int) pa_nil))) (blkOk_by (own := [("block", 5)]) (N := ["ups", "pairs", "blocks", "lists", "place", "block"]) (sc := (relS _ (C8.fnScope s_words_from))) (by decide +kernel)) (fun _ _ _ _ _ => (pg_name (i := 5) nd rfl (Or.inl rfl))) (fun _ _ _ _ _ => pts_nil) (fun _ _ _ _ _ => (pe_cmp (pc_din hu (pe_tup (pa_cons (pv 4) (pa_cons (pv 5) pa_nil))) (pv 1)) rfl))) pa_nil))))
        (pss_one (ps_ret (C8.pe_mk k_Words hr (by decide) rfl (pa_cons (pv 2) (pa_cons (pv 0) (pa_cons (pe_callTy (show CallR _ _ (rTupOf K) from c_tupOf) (by rfl) T.z_tuple (by decide +kernel) (pa_cons (pv 3) pa_nil)) pa_nil)))))))), ?_⟩
    walk_at "fv"
    refine l_lenT (SqT.of hup) U.length (by simp) ?_
    walk_at "fv"
    refine l_rng1 (U.length + 1) (by omega) (by omega) ?_
    refine lc_ry wk_rng0 (by omega) (fun D i v H => ∃ r, v = .ref r ∧ r ≠ D ∧ H r = some (.tup ((List.range U.length).map fun k => V.bl (decide (ent U k = i))))) (fun D i v A B e ⟨r, q1, q2, q3⟩ => ⟨r, q1, q2, e _ _ q2 q3⟩) (fun _ _ => rfl) (fun i hi D Ha hD ea ⟨xs, hDa⟩ Q' k' => ?_) (fun p H2 v hp e2 h2 hv => ?_)
    · walk_at "fv"
      refine l_rng2 U.length (by omega) (by omega) (by omega) ?_
      refine lc_y wk_rng1 (by omega) (fun k => V.bl (decide (ent U k = i))) (fun _ _ => rfl) (fun j hj H1 e1 Q1 k1 => ?_) (fun p H2 hp e2 h2 => ?_)
      · walk_at "fv"
        refine l_tup (by simp) fun q H3 hq e3 h3 => ?_
        walk_at "fv"
        refine l_din (dget_rdT (k := [Sum.inl (i : Int), Sum.inl (kB j)]) (rd_of (e3 _ _ (e1 _ _ (ea _ _ hd)))) h3 (pairs_val hj)) ?_
        rw [show (if ent U j = i then some (V.bl true) else none).isSome = decide (ent U j = i) by split <;> simp_all]
        exact k1 _ e3
      · refine l_tupOf (SqL.of h2) fun q H3 hq e3 h3 => ?_
        exact k' _ _ (e2.trans e3) ⟨q, rfl, ne_of h3 (e3 _ _ (e2 _ _ hDa)) (fun z => by cases z), h3⟩
    · walk_at "fv"
      obtain ⟨rows, em, hrow⟩ := pick hv
      rw [em] at h2
      refine l_tupOf (SqL.of h2) fun q H3 hq e3 h3 => ?_
      walk_at "fv"
      have hR : RowsAt H3 q rows U.length U := ⟨h3, fun p hp => e3 _ _ (hrow p (by omega)).2.2⟩
      have e := e2.trans e3
      refine l_make fun x dx Hm hx em hm => ⟨x, u, q, dx, rows, U, rfl, hm, em _ _ (e _ _ hup), hR.mono em, n1, n2, t, fun H4 eb h4 => ⟨rfl, ?_⟩⟩
      have e4 : Ex H3 H4 := ExB.ex hx em eb
      exact k x q rows H4 (e.trans e4) ⟨⟨dx, h4⟩, e4 _ _ (e _ _ hup), hR.mono e4⟩
abbrev spHist (cT cH : Addr) : Sp := fun vs H Q _ => ∃ (x t m h dx : Addr) (hg : List Nat) (M : List (Nat × Nat)), vs = [.ref x, .ref t, .ref m] ∧ H x = some (.ins cH dx []) ∧ InsAt cT H t [("hung", .ref h)] ∧ H h = some (.tup (hg.map nv)) ∧ MovesAt H m M ∧
  hg.length ≤ 40 ∧ M.length ≤ 100 ∧ Tr hg ∧ Vm hg M ∧ ∀ H2, ExB x H H2 → H2 x = some (.ins cH dx (hF t m)) → Q .non H2
abbrev s_History_init : Stmt := inClass (top 30) 0
theorem sc_History_init : FnScope ["self", "tree", "moves", "hung", "index", "move"] ["self", "tree", "moves"] (C8.fnScope s_History_init) := C8.fnScope_by (by decide +kernel)
theorem ok_History {f : Addr} {fd : FuncData} (M : Mk K cH f) (hm : mg "History" = some (.ref cH)) (F : C8.Fun K "__init__" "History.__init__" s_History_init f fd) (b : Binds K fd ["self", "tree", "moves"] []) (T : Txt K mg cT cW cH)
    (c_is_move : Cal P w K mg base 3 "is_move" spIsMove []) (c_with_place : Cal P w K mg base 1 "with_place" spWith []) : Mak P w K mg base 4 "History" cH (spHist cT cH) [] := by
  refine C8.mak0 M hm F b .nil sc_History_init (fun vs H Q E h => ?_) (fun cdv A outer s H vs Q E hr h => ?_)
  · obtain ⟨x, t, m, h, dx, hg, M, rfl, _⟩ := h; rfl
  · obtain ⟨x, t, m, h, dx, hg, M, rfl, hx, ⟨tx, ht⟩, hh, ⟨ad, hm1, hm2⟩, n2, ml, tr, v, k⟩ := h
    have nd := sc_History_init.nd
    refine ⟨_, (pss_cons (ps_if (pt_not (pt_val (pe_callB (C8.call_isC T.i_Tree) (by rfl) T.z_isinstance (by decide +kernel) (pa_cons (pv 1) (pa_cons (C8.pe_gc rfl T.m_Tree) pa_nil)))))
          (pss_one ps_never)
          pss_nil)
        (pss_cons (ps_if (PW.pt (pw_or (pt_not (pt_val (pe_callB (show CallR _ _ (rIsi K) from call_isi) (by rfl) T.z_isinstance (by decide +kernel) (pa_cons (pv 2) (pa_cons (pe_bltn (v := .ty "tuple") (by rfl) T.z_tuple (by decide +kernel) rfl) pa_nil))))) (pw_or1 (pt_cmpR op_gt (pe_callB (show CallR _ _ (rLenS K) from c_len) (by rfl) T.z_len (by decide +kernel) (pa_cons (pv 2) pa_nil)) (C8.pe_gc rfl T.m_MOST_MOVES) (nomark _)))))
          (pss_one ps_never)
          pss_nil)
        (pss_cons (ps_set (i := 3) nd rfl (Or.inl rfl) (show PE _ _ (tFld K _ _) from pe_fld (pv 1) rfl))
        (pss_cons (ps_for PassesOwn.never rfl (show PI _ _ _ (iEnumT K _) from pi_enumT (by rfl) T.z_enumerate (pa_cons (pv 2) pa_nil)) (show PG _ _ (gTup K 2 _) from pg_tup rfl (pgs_cons (pg_name (i := 4) nd rfl (Or.inl rfl)) (pgs_cons (pg_name (i := 5) nd rfl (Or.inl rfl)) pgs_nil)))
          (pss_cons (ps_if (pt_not (pt_val (C8.pe_c c_is_move hr (by decide) rfl (pa_cons (pv 3) (pa_cons (pv 5) pa_nil)))))
              (pss_one ps_never)
              pss_nil)
            (pss_one (ps_set (i := 3) nd rfl (Or.inl rfl) (C8.pe_c c_with_place hr (by decide) rfl (pa_cons (pv 3) (pa_cons (pe_ix (show IxR _ (rIxT K) from ix_tup) (pv 5) pe_int (fun _ _ => rfl)) (pa_cons (pe_ix (show IxR _ (rIxT K) from ix_tup) (pv 5) pe_int (fun _ _ => rfl)) pa_nil))))))))
        (pss_cons (ps_fld (pv 0) (pv 1) rfl)
        (pss_one (ps_fld (pv 0) (pv 2) rfl))))))), ?_⟩
    walk_at "fv"
    refine l_isC ht ?_
    walk_at "fv"
    refine ite_f rfl ?_
    walk_at "fv"
    refine r_isi_tup hm1 ?_
    walk_at "fv"
    refine ite_f rfl ?_
    walk_at "fv"
    refine l_lenT (SqT.of hm1) M.length (by simp) ?_
    walk_at "fv"
    refine ite_f (decide_eq_false (by omega)) ?_
    walk_at "fv"
    refine r_fld ht T.t_cl T.t_hung rfl ?_
    walk_at "fv"
    refine l_enT (SqT.of hm1) ?_
    refine for_w (H0 := H) (fun i σ' H' => Ex H H' ∧ ∃ hi v4 v5, σ' = [some (.ref x), some (.ref t), some (.ref m), some (.ref hi), v4, v5] ∧ H' hi = some (.tup ((appM hg (M.take i)).map nv))) (wk_enumTF hm1) (fun _ _ _ _ p => p.1) ⟨Ex.refl _, h, _, _, rfl, hh⟩ ?_ ?_
    · rintro i σ' H' hi ⟨e, ha, v4, v5, rfl, hha⟩ H2 e2
      have hp := e2 _ _ (e _ _ (hm2 i hi))
      have mv := Vm.at M hg i v hi
      have tri : Tr (appM hg (M.take i)) := Vm.tree _ _ tr (by
        have q : ∀ (M : List (Nat × Nat)) (h : List Nat) (i : Nat), Vm h M → Vm h (M.take i) := by
          intro M
          induction M with
          | nil => intro h i _; rw [List.take_nil]; exact True.intro
          | cons c M ih =>
            intro h i v
            cases i with
            | zero => exact True.intro
            | succ i => exact ⟨v.1, ih _ i v.2⟩
        exact q M hg i v)
      have len := appM_len (M.take i) hg
      walk_at "fv"
      refine ⟨ha, ad i, appM hg (M.take i), mb M i, mp M i, rfl, e2 _ _ hha, hp, by omega, tri, mv, fun H3 e3 => ?_⟩
      walk_at "fv"
      refine ite_f rfl ?_
      walk_at "fv"
      refine r_ixT (SqT.of (e3 _ _ hp)) (at_nat (i := 0) rfl rfl) ?_
      walk_at "fv"
      refine r_ixT (SqT.of (e3 _ _ hp)) (at_nat (i := 1) rfl rfl) ?_
      walk_at "fv"
      refine ⟨ha, appM hg (M.take i), mb M i, mp M i, rfl, e3 _ _ (e2 _ _ hha), by omega, mv.1, mv.2.1, fun q H4 e4 h4 => ?_⟩
      walk_at "fv"
      exact ⟨((e.trans e2).trans e3).trans e4, q, _, _, rfl, by rw [appM_take hi]; exact h4⟩
    · rintro σ' H' ⟨e, ha, v4, v5, rfl, hha⟩
      walk_at "fv"
      refine l_sfld (e _ _ hx) T.h_cl T.h_tree (by decide) ?_
      walk_at "fv"
      refine l_sfld upd_same T.h_cl T.h_moves (by show 1 < 1000; decide) ?_
      exact k _ (fun b o hb ho => by rw [upd_ne hb, upd_ne hb]; exact e _ _ ho) upd_same
abbrev spCanList : Sp := fun vs H Q _ => ∃ (a : Addr) (l : List Nat) (p : Nat) (b : Bool), vs = [.ref a, nv p, .bl b] ∧ H a = some (.tup (l.map nv)) ∧ (b = true → p ∈ l) ∧ (b = false → p ∈ l → 1 < l.length) ∧ RetV (.bl true) H Q
abbrev s_can_list : Stmt := top 33
theorem sc_can_list : FnScope ["places", "place", "told"] ["places", "place", "told"] (C8.fnScope s_can_list) := C8.fnScope_by (by decide +kernel)
theorem k_can_list (F : Df K mg "can_list" s_can_list ["places", "place", "told"]) (T : Txt K mg cT cW cH) : Cal P w K mg base 1 "can_list" spCanList [] := by
  refine cal_of F sc_can_list (fun vs H Q E h => ?_) (fun f cdv A outer s H vs Q E hr h => ?_)
  · obtain ⟨a, l, p, b, rfl, _⟩ := h; rfl
  · obtain ⟨a, l, p, b, rfl, ha, h1, h2, k⟩ := h
    have nd := sc_can_list.nd
    refine ⟨_, (pss_cons (ps_if (pt_cmpR op_isN (pv 2) pe_non (nomark _))
          (pss_one (ps_ret pe_bl))
          pss_nil)
        (pss_cons (ps_if (pt_cmpR (show OpR _ _ (rIn K true) from op_notIn_seq) (pv 1) (pv 0) (by rfl))
          (pss_one (ps_ret (pe_cmpR op_is_bl (pv 2) pe_bl (nomark _))))
          pss_nil)
        (pss_one (ps_ret (pe_or (pe_cmpR op_gt (pe_callB (show CallR _ _ (rLenS K) from c_len) (by rfl) T.z_len (by decide +kernel) (pa_cons (pv 0) pa_nil)) pe_int (nomark _)) (pe_one (pe_cmpR op_is_bl (pv 2) pe_bl (nomark _)))))))), ?_⟩
    walk_at "fv"
    refine ite_f (decide_eq_false (by intro z; cases z)) ?_
    walk_at "fv"
    refine r_ninNT ha ?_
    walk_at "fv"
    by_cases hp : p ∈ l
    · refine ite_f (by rw [decide_eq_true hp]; rfl) ?_
      walk_at "fv"
      refine l_lenT (SqT.of ha) l.length (by simp) ?_
      walk_at "fv"
      cases b with
      | true =>
        by_cases hl : (l.length : Int) > 1
        · refine ite_t (decide_eq_true hl) ?_
          exact k _ (Ex.refl _)
        · refine ite_f (decide_eq_false hl) ?_
          walk_at "fv"
          exact k _ (Ex.refl _)
      | false =>
        have := h2 rfl hp
        refine ite_t (decide_eq_true (by omega)) ?_
        exact k _ (Ex.refl _)
    · refine ite_t (by rw [decide_eq_false hp]; rfl) ?_
      walk_at "fv"
      cases b with
      | true => exact absurd (h1 rfl) hp
      | false => exact k _ (Ex.refl _)
end
end FV
namespace FV
open PySem PySem.Spec PyProof.Rows L2 Evl
open C8 (Cal Mak Def InsC)
/-- {k: v}, by values -/
theorem x_disp1 {tk tv : TE} {σ : SS} {H : Hp} {Q : VK} {p : Int} {v : V} (hk : ∀ H' (R : VK), R (.int p) H' → tk σ H' R) (hv : ∀ H' (R : VK), R v H' → tv σ H' R)
    (k : ∀ a H2, H a = none → Ex H H2 → H2 a = some (.dK [(Sum.inl p, v)]) → Q (.ref a) H2) : tDisp [(tk, tv)] σ H Q := by
  intro a ha
  refine hk _ _ (hv _ _ ⟨upd_same, [(Sum.inl p, v)], rfl, by show 1 ≤ 15; decide, ?_⟩)
  exact k a _ ha (Ex.mut (Ex.new ha) ha) upd_same
section
variable {P : Program} {w : World} {K : PySem.W.Frag} {mg : Str → Option Value} {base : Heap} {cT cW cH : Addr}
abbrev spPlaces : Sp := fun vs H Q _ => ∃ (a m : Addr) (hg : List Nat) (M : List (Nat × Nat)), vs = [.ref a, .ref m] ∧ H a = some (.tup (hg.map nv)) ∧ MovesAt H m M ∧ hg.length ≤ 40 ∧ Tr hg ∧ Vm hg M ∧
  ∀ d o ad H2, Ex H H2 → HadAt H2 d o ad hg.length (hadL hg M) → Q (.ref d) H2
abbrev s_places_had : Stmt := top 31
theorem sc_places_had : FnScope ["hung", "moves", "found", "block", "place", "number"] ["hung", "moves"] (C8.fnScope s_places_had) := C8.fnScope_by (by decide +kernel)
theorem k_places_had (F : Df K mg "places_had" s_places_had ["hung", "moves"]) (T : Txt K mg cT cW cH) : Cal P w K mg base 1 "places_had" spPlaces [] := by
  refine cal_of F sc_places_had (fun vs H Q E h => ?_) (fun f cdv A outer s H vs Q E hr h => ?_)
  · obtain ⟨a, m, hg, M, rfl, _⟩ := h; rfl
  · obtain ⟨a, m, hg, M, rfl, ha, ⟨ad, hm1, hm2⟩, hz, t, v, k⟩ := h
    have nd := sc_places_had.nd
    have hu := hu_of hr
    refine ⟨_, (pss_cons (ps_set (i := 2) nd rfl (Or.inr rfl) (pe_dc (own := [("number", 5), ("place", 4)]) rfl nd (show PI _ _ _ (iEnumT K _) from pi_enumT (by rfl) T.z_enumerate (pa_cons (pv 0) pa_nil)) (blkOk_by (own := [("number", 5), ("place", 4)]) (N := ["hung", "moves", "found", "block", "place", "number"]) (sc := (C8.fnScope s_places_had)) (by decide +kernel)) (fun _ _ _ _ _ => (show PG _ _ (gTup K 2 _) from pg_tup rfl (pgs_cons (pg_name (i := 5) nd rfl (Or.inl rfl)) (pgs_cons (pg_name (i := 4) nd rfl (Or.inl rfl)) pgs_nil)))) (fun _ _ _ _ _ => pts_nil) (fun _ _ _ _ _ => (pe_op op_add (pv 5) pe_int)) (fun _ _ _ _ _ => (pe_disp (pps_cons (pv 4) pe_bl pps_nil) (by rfl) (by rfl) (fun z => by cases z) (by decide)))))
        (pss_cons (ps_for PassesOwn.never rfl (show PI _ _ _ (iTup K _) from pi_tup (pv 1)) (show PG _ _ (gTup K 2 _) from pg_tup rfl (pgs_cons (pg_name (i := 3) nd rfl (Or.inl rfl)) (pgs_cons (pg_name (i := 4) nd rfl (Or.inl rfl)) pgs_nil)))
          (pss_one (ps_dput hu (pe_dget hu (pv 2) (pv 3) (fun _ _ => rfl)) (pv 4) pe_bl rfl)))
        (pss_one (ps_ret (pe_frz (pe_dc (own := [("block", 3)]) rfl nd (pi_keys (pe_frz (pv 2))) (blkOk_by (own := [("block", 3)]) (N := ["hung", "moves", "found", "block", "place", "number"]) (sc := (C8.fnScope s_places_had)) (by decide +kernel)) (fun _ _ _ _ _ => (pg_name (i := 3) nd rfl (Or.inl rfl))) (fun _ _ _ _ _ => pts_nil) (fun _ _ _ _ _ => (pv 3)) (fun _ _ _ _ _ => (pe_callTy (show CallR _ _ (rTupOf K) from c_tupOf) (by rfl) T.z_tuple (by decide +kernel) (pa_cons (pe_callB (c_sortDI rfl) (by rfl) T.z_sorted (by decide +kernel) (pa_cons (pe_dget hu (pv 2) (pv 3) (fun _ _ => rfl)) pa_nil)) pa_nil))))))))), ?_⟩
    walk_at "fv"
    refine l_enT (SqT.of ha) ?_
    refine dc_r (wk_enumTN ha) (by omega) kB (kB_inj _) (fun D i v H' => ∃ b, v = .ref b ∧ b ≠ D ∧ H b = none ∧ H' b = some (.dK (bls [ent hg i]))) (fun i v Ha => ∃ b, v = .ref b ∧ Ha b = none) (fun D i v A B e ⟨b, q1, q2, q3, q4⟩ => ⟨b, q1, q2, q3, e _ _ q2 q4⟩) (fun _ _ => rfl) (fun i hi H1 e1 Q1 k1 => ?_) (fun i hi D Ha hD ea ⟨xs, hDa⟩ Q' k' => ?_) (fun p H2 v' hp e2 h2 hv hdist => ?_)
    · walk_at "fv"
      rw [show ((i : Nat) : Int) + 1 = kB i by unfold kB; omega]
      exact k1 _ (Ex.refl _)
    · refine x_disp1 (p := (ent hg i : Nat)) (v := .bl true) (fun H' R k => x_var rfl k) (fun H' R k => k) fun b H2 hb e2 h2 => ?_
      exact k' _ _ e2 ⟨b, rfl, (ne_of_none hDa hb).symm, fresh_back ea hb, h2⟩ ⟨b, rfl, hb⟩
    · walk_at "fv"
      obtain ⟨fa, em, hfa⟩ := pick hv
      have hv' : (List.range hg.length).map (fun i => ((Sum.inl (kB i) : Key), v' i)) = (List.range hg.length).map (fun i => (Sum.inl (kB i), V.ref (fa i))) := List.map_congr_left fun i hi => by rw [(hfa i (List.mem_range.mp hi)).1]
      rw [hv'] at h2
      have fne : ∀ i j, i < hg.length → j < hg.length → i ≠ j → fa i ≠ fa j := by
        have lt : ∀ i j, i < j → j < hg.length → fa i ≠ fa j := fun i j hij hj e => by
          obtain ⟨Hm, ⟨b, q1, _, _, q2⟩, ⟨b', q3, q4⟩⟩ := hdist i j hij hj
          rw [(hfa i (by omega)).1] at q1
          rw [(hfa j hj).1] at q3
          cases q1
          cases q3
          rw [e, q4] at q2
          cases q2
        intro i j hi hj hij
        rcases Nat.lt_or_gt_of_ne hij with h | h
        · exact lt i j h hj
        · exact (lt j i h hi).symm
      refine for_w (H0 := H) (fun i σ' H' => Ex H H' ∧ ∃ v3 v4 v5, σ' = [some (.ref a), some (.ref m), some (.ref p), v3, v4, v5] ∧ H' p = some (.dK ((List.range hg.length).map fun i => (Sum.inl (kB i), V.ref (fa i)))) ∧
        ∀ k, k < hg.length → ∃ l : List Nat, l.Nodup ∧ (∀ q, q ∈ l ↔ (par hg (k + 1) = q ∨ (k + 1, q) ∈ M.take i)) ∧ H' (fa k) = some (.dK (bls l)))
        (wk_tupP (SqT.of hm1) fun i hi => SqT.of (hm2 i hi)) (fun _ _ _ _ p => p.1) ⟨e2, _, _, _, rfl, h2, fun k hk => ⟨[ent hg k], by simp, fun q => ?_, ?_⟩⟩ ?_ ?_
      · rw [List.mem_singleton, List.take_zero]
        exact ⟨fun z => .inl z.symm, fun z => z.elim (fun z => z.symm) (fun z => absurd z List.not_mem_nil)⟩
      · exact (hfa k hk).2.2.2
      · rintro i σ' H' hi ⟨e, v3, v4, v5, rfl, hp', hl⟩ H3 e3
        obtain ⟨b1, b2, p2, pb, _⟩ := Vm.at M hg i v hi
        rw [appM_len] at b2 p2
        obtain ⟨l, lnd, lm, hla⟩ := hl (mb M i - 1) (by omega)
        have nfp : ∀ j, j < hg.length → fa j ≠ p := fun j hj => (hfa j hj).2.1
        walk_at "fv"
        refine l_dget (dget_rd (k := Sum.inl ((mb M i : Nat) : Int)) (rd_of (e3 _ _ hp')) (valV_b b1 b2)) ?_
        walk_at "fv"
        have bd : l.length ≤ hg.length + 1 := pigeon_le lnd fun x hx => by
          rcases (lm x).mp hx with z | z
          · rw [← z]
            exact t.le (by omega) (by omega)
          · exact (Vm.mem M hg v _ _ (List.mem_of_mem_take z)).2.2.1
        refine l_dput (DPut.k (k := Sum.inl ((mp M i : Nat) : Int)) (e3 _ _ hla) (sz_lt (by rw [bls_len]; omega))) ?_
        refine ⟨Ex.mut (e.trans e3) (hfa _ (by omega)).2.2.1, _, _, _, rfl, by rw [upd_ne (nfp _ (by omega)).symm]; exact e3 _ _ hp', fun k hk => ?_⟩
        have mt : ∀ q, (k + 1, q) ∈ M.take (i + 1) ↔ ((k + 1, q) ∈ M.take i ∨ (k + 1 = mb M i ∧ q = mp M i)) := fun q => by
          rw [List.take_succ, m_get hi, List.mem_append]
          simp [Prod.ext_iff]
        by_cases hk2 : k = mb M i - 1
        · subst hk2
          refine ⟨if mp M i ∈ l then l else l ++ [mp M i], ?_, fun q => ?_, ?_⟩
          · split
            · exact lnd
            · rename_i hn
              exact List.nodup_append.mpr ⟨lnd, by simp, fun x hx y hy z => hn (by rw [List.mem_singleton] at hy; subst hy; exact z ▸ hx)⟩
          · rw [mt q]
            have e1 : mb M i - 1 + 1 = mb M i := by omega
            rw [e1] at lm ⊢
            split
            · rename_i hy
              rw [lm q]
              constructor
              · rintro (z | z)
                · exact .inl z
                · exact .inr (.inl z)
              · rintro (z | z | z)
                · exact .inl z
                · exact .inr z
                · exact (lm q).mp (z.2 ▸ hy)
            · rw [List.mem_append, lm q, List.mem_singleton]
              constructor
              · rintro ((z | z) | z)
                · exact .inl z
                · exact .inr (.inl z)
                · exact .inr (.inr ⟨rfl, z⟩)
              · rintro (z | z | z)
                · exact .inl (.inl z)
                · exact .inl (.inr z)
                · exact .inr z.2
          · rw [upd_same, bls_put]
        · obtain ⟨l2, lnd2, lm2, hla2⟩ := hl k hk
          refine ⟨l2, lnd2, fun q => ?_, ?_⟩
          · rw [mt q, lm2 q]
            constructor
            · rintro (z | z)
              · exact .inl z
              · exact .inr (.inl z)
            · rintro (z | z | z)
              · exact .inl z
              · exact .inr z
              · omega
          · rw [upd_ne (fne _ _ hk (by omega) hk2)]
            exact e3 _ _ hla2
      · rintro σ' H' ⟨e, v3, v4, v5, rfl, hp', hl⟩
        rw [List.take_length] at hl
        walk_at "fv"
        refine l_frz hp' True.intro fun od => ?_
        refine l_keys upd_same ?_
        have ef : Ex H (upd H' p (.frz od (.dK ((List.range hg.length).map fun i => (Sum.inl (kB i), V.ref (fa i)))))) := Ex.mut e hp
        refine dc_r (wk_keys (v := fun i => V.ref (fa i)) upd_same) (by omega) kB (kB_inj _) (fun D i v H' => ∃ b, v = .ref b ∧ b ≠ D ∧ H' b = some (.tup ((hadL hg M (i + 1)).map nv))) (fun _ _ _ => True) (fun D i v A B e ⟨b, q1, q2, q4⟩ => ⟨b, q1, q2, e _ _ q2 q4⟩) (fun _ _ => rfl) (fun i hi H1 e1 Q1 k1 => ?_) (fun i hi D Ha hD ea ⟨xs, hDa⟩ Q' k' => ?_) (fun d2 H5 v'' hd2 e5 h5 hv5 _ => ?_)
        · walk_at "fv"
          exact k1 _ (Ex.refl _)
        · walk_at "fv"
          obtain ⟨l, lnd, lm, hla⟩ := hl i hi
          refine l_dget (dget_rd (k := Sum.inl (kB i)) (rd_frz (ea _ _ upd_same)) (valV_b (b := i + 1) (by omega) (by omega))) ?_
          have hla2 : Ha (fa (i + 1 - 1)) = some (.dK (bls l)) := ea _ _ (by rw [upd_ne (hfa _ (by omega)).2.1]; exact hla)
          have bd : l.length ≤ hg.length + 1 := pigeon_le lnd fun x hx => by
            rcases (lm x).mp hx with z | z
            · rw [← z]
              exact t.le (by omega) (by omega)
            · exact (Vm.mem M hg v _ _ z).2.2.1
          walk_at "fv"
          refine l_sortedD (l := l) (rd_of hla2) (bls_keys l) (by omega) fun l' q H4 pm pw hq e4 h4 => ?_
          walk_at "fv"
          refine l_tupOf (SqL.of h4) fun q2 H6 hq2 e6 h6 => ?_
          have el : l' = hadL hg M (i + 1) := asc_of pm pw lnd ((had_lots t v).asc _ (by omega) (by omega)) fun q => by rw [lm q, mem_hadL t v (by omega) (by omega)]
          exact k' _ _ (e4.trans e6) ⟨q2, rfl, (ne_of_none (e4 _ _ hDa) hq2).symm, by rw [h6, el]⟩ True.intro
        · obtain ⟨ga, em2, hga⟩ := pick hv5
          have hv6 : (List.range hg.length).map (fun i => ((Sum.inl (kB i) : Key), v'' i)) = (List.range hg.length).map (fun i => (Sum.inl (kB i), V.ref (ga i))) := List.map_congr_left fun i hi => by rw [(hga i (List.mem_range.mp hi)).1]
          rw [hv6] at h5
          refine l_frz h5 True.intro fun od2 => ?_
          refine k d2 od2 ga _ (Ex.mut (ef.trans e5) (fresh_back ef hd2)) ⟨upd_same, fun i hi => ?_⟩
          rw [upd_ne (hga i hi).2.1]
          exact (hga i hi).2.2
end
end FV
namespace FV
open PySem PySem.Spec PyProof.Rows L2 Evl
open C8 (Cal Mak Def InsC)
theorem blocks_map (n : Nat) : (blocks n).map nv = (List.range n).map fun i => nv (i + 1) := by unfold blocks; rw [List.map_map]; rfl
theorem had_keys (n : Nat) (ad : Nat → Addr) : ((List.range n).map fun i => ((Sum.inl (kB i) : Key), V.ref (ad i))).map (·.1) = ((blocks n).map Int.ofNat).map Sum.inl := by
  unfold blocks
  rw [List.map_map, List.map_map, List.map_map]
  rfl
section
variable {P : Program} {w : World} {K : PySem.W.Frag} {mg : Str → Option Value} {base : Heap} {cT cW cH : Addr}
abbrev spHad (cT cH : Addr) : Sp := fun vs H Q _ => ∃ (hs h m : Addr) (hg : List Nat) (M : List (Nat × Nat)), vs = [.ref hs] ∧ HistAt cT cH H hs h m hg M ∧ hg.length ≤ 40 ∧ Tr hg ∧ Vm hg M ∧
  ∀ d o ad H2, Ex H H2 → HadAt H2 d o ad hg.length (hadL hg M) → Q (.ref d) H2
abbrev s_had : Stmt := top 32
theorem sc_had : FnScope ["history"] ["history"] (C8.fnScope s_had) := C8.fnScope_by (by decide +kernel)
theorem k_had (F : Df K mg "had" s_had ["history"]) (T : Txt K mg cT cW cH) (c_places_had : Cal P w K mg base 1 "places_had" spPlaces []) : Cal P w K mg base 2 "had" (spHad cT cH) [] := by
  refine cal_of F sc_had (fun vs H Q E h => ?_) (fun f cdv A outer s H vs Q E hr h => ?_)
  · obtain ⟨hs, h, m, hg, M, rfl, _⟩ := h; rfl
  · obtain ⟨hs, h, m, hg, M, rfl, ⟨⟨t, ⟨dx, hi⟩, ⟨dt, ti⟩⟩, hh, hm⟩, hz, tr, v, k⟩ := h
    have nd := sc_had.nd
    refine ⟨_, (pss_one (ps_ret (C8.pe_c c_places_had hr (by decide) rfl (pa_cons (show PE _ _ (tFld K _ _) from pe_fld (show PE _ _ (tFld K _ _) from pe_fld (pv 0) rfl) rfl) (pa_cons (show PE _ _ (tFld K _ _) from pe_fld (pv 0) rfl) pa_nil))))), ?_⟩
    walk_at "fv"
    refine r_fld hi T.h_cl T.h_tree (hF_tree _ _) ?_
    walk_at "fv"
    refine r_fld ti T.t_cl T.t_hung rfl ?_
    walk_at "fv"
    refine r_fld hi T.h_cl T.h_moves (hF_moves _ _) ?_
    walk_at "fv"
    exact ⟨h, m, hg, M, rfl, hh, hm, hz, tr, v, k⟩
abbrev spStand (cT cW cH : Addr) : Sp := fun vs H Q _ => ∃ (hs h m wd u l : Addr) (rows : Nat → Addr) (hg U : List Nat) (M : List (Nat × Nat)), vs = [.ref hs, .ref wd] ∧ HistAt cT cH H hs h m hg M ∧ WordsAt cW H wd u l rows hg.length U ∧ U.length = hg.length ∧ hg.length ≤ 40 ∧ Tr hg ∧ Vm hg M ∧
  (∀ b, 1 ≤ b → b ≤ hg.length → par U b ∈ hadL hg M b) ∧ RetV (.bl true) H Q
abbrev s_can_stand : Stmt := top 34
theorem sc_can_stand : FnScope ["history", "words", "block", "places", "said", "place", "row"] ["history", "words"] (C8.fnScope s_can_stand) := C8.fnScope_by (by decide +kernel)
theorem k_can_stand (F : Df K mg "can_stand" s_can_stand ["history", "words"]) (T : Txt K mg cT cW cH) (c_had : Cal P w K mg base 2 "had" (spHad cT cH) []) (c_can_list : Cal P w K mg base 1 "can_list" spCanList []) : Cal P w K mg base 3 "can_stand" (spStand cT cW cH) [] := by
  refine cal_of F sc_can_stand (fun vs H Q E h => ?_) (fun f cdv A outer s H vs Q E hr h => ?_)
  · obtain ⟨hs, h, m, wd, u, l, rows, hg, U, M, rfl, _⟩ := h; rfl
  · obtain ⟨hs, h, m, wd, u, l, rows, hg, U, M, rfl, hist, ⟨⟨dw, wi⟩, hup, hrows⟩, ul, hz, tr, v, hL, k⟩ := h
    obtain ⟨⟨t, ⟨dx, hi⟩, ⟨dt, ti⟩⟩, hh, hm⟩ := id hist
    have nd := sc_can_stand.nd
    refine ⟨_, (pss_cons (ps_if (pt_cmpR op_ne (pe_callB (show CallR _ _ (rLenS K) from c_len) (by rfl) T.z_len (by decide +kernel) (pa_cons (show PE _ _ (tFld K _ _) from pe_fld (show PE _ _ (tFld K _ _) from pe_fld (pv 0) rfl) rfl) pa_nil)) (show PE _ _ (tFld K _ _) from pe_fld (pv 1) rfl) (nomark _))
          (pss_one ps_never)
          pss_nil)
        (pss_cons (ps_for PassesOwn.never rfl (pi_items (C8.pe_c c_had hr (by decide) rfl (pa_cons (pv 0) pa_nil))) (show PG _ _ (gTup K 2 _) from pg_tup rfl (pgs_cons (pg_name (i := 2) nd rfl (Or.inr rfl)) (pgs_cons (pg_name (i := 3) nd rfl (Or.inr rfl)) pgs_nil)))
          (pss_cons (ps_set (i := 4) nd rfl (Or.inl rfl) (pe_ix (show IxR _ (rIxT K) from ix_tup) (show PE _ _ (tFld K _ _) from pe_fld (pv 1) rfl) (pe_op op_sub (pv 2) pe_int) (fun _ _ => rfl)))
            (pss_cons (ps_if (PW.pt (pw_and (pt_cmpR op_notN (pv 4) pe_non (nomark _)) (pw_and1 (pt_cmpR (show OpR _ _ (rIn K true) from op_notIn_seq) (pv 4) (pv 3) (by rfl)))))
              (pss_one (ps_ret pe_bl))
              pss_nil)
            (pss_one (ps_if (pt_not (pt_val (pe_callB (show CallR _ _ (rAll K) from (cr_all rfl)) (by rfl) T.z_all (by decide +kernel) (pa_cons (pe_lc (own := [("place", 5), ("row", 6)]) rfl nd (show PI _ _ _ (iEnumT K _) from pi_enumT (by rfl) T.z_enumerate (pa_cons (show PE _ _ (tFld K _ _) from pe_fld (pv 1) rfl) pa_nil)) (blkOk_by (own := [("place", 5), ("row", 6)]) (N := ["history", "words", "block", "places", "said", "place", "row"]) (sc := (C8.fnScope s_can_stand)) (by decide +kernel)) (fun _ _ _ _ _ => (show PG _ _ (gTup K 2 _) from pg_tup rfl (pgs_cons (pg_name (i := 5) nd rfl (Or.inl rfl)) (pgs_cons (pg_name (i := 6) nd rfl (Or.inl rfl)) pgs_nil)))) (fun _ _ _ _ _ => pts_nil) (fun _ _ _ _ _ => (C8.pe_c c_can_list hr (by decide) rfl (pa_cons (pv 3) (pa_cons (pv 5) (pa_cons (pe_ix (show IxR _ (rIxT K) from ix_tup) (pv 6) (pe_op op_sub (pv 2) pe_int) (fun _ _ => rfl)) pa_nil)))))) pa_nil))))
              (pss_one (ps_ret pe_bl))
              pss_nil)))))
        (pss_one (ps_ret pe_bl)))), ?_⟩
    walk_at "fv"
    refine r_fld hi T.h_cl T.h_tree (hF_tree _ _) ?_
    walk_at "fv"
    refine r_fld ti T.t_cl T.t_hung rfl ?_
    walk_at "fv"
    refine l_lenT (SqT.of hh) hg.length (by simp) ?_
    walk_at "fv"
    refine r_fld wi T.w_cl T.w_blocks (wF_blocks _ _ _) ?_
    walk_at "fv"
    refine ite_f (by rw [dI rfl]; rfl) ?_
    walk_at "fv"
    refine ⟨hs, h, m, hg, M, rfl, hist, hz, tr, v, fun d o ad H1 e1 had => ?_⟩
    refine l_items had.1 ?_
    refine for_w (H0 := H1) (fun i σ' H' => Ex H1 H' ∧ ∃ v2 v3 v4, σ' = [some (.ref hs), some (.ref wd), v2, v3, v4, none, none]) (wk_items (v := fun i => V.ref (ad i)) had.1) (fun _ _ _ _ p => p.1) ⟨Ex.refl _, _, _, _, rfl⟩ ?_ ?_
    · rintro i σ' H' hi' ⟨e, v2, v3, v4, rfl⟩ H2 e2
      have e02 := (e1.trans e).trans e2
      have b1 : 1 ≤ i + 1 := by omega
      have b2 : i + 1 ≤ hg.length := by omega
      have hu2 := e02 _ _ hup
      have hp2 := (had.mono (e.trans e2)).2 i hi'
      have lot := hL (i + 1) b1 b2
      have lots := had_lots tr v
      walk_at "fv"
      refine r_fld (e02 _ _ wi) T.w_cl T.w_ups (wF_ups _ _ _) ?_
      walk_at "fv"
      refine r_ixT (SqT.of hu2) (at_par (b := i + 1) b1 (by omega)) ?_
      walk_at "fv"
      refine ite_t rfl ?_
      walk_at "fv"
      refine r_ninNT hp2 ?_
      walk_at "fv"
      refine ite_f (by rw [decide_eq_true lot]; rfl) ?_
      walk_at "fv"
      refine r_fld (e02 _ _ wi) T.w_cl T.w_lists (wF_lists _ _ _) ?_
      walk_at "fv"
      have hr2 := hrows.mono e02
      refine l_enT (SqT.of hr2.1) ?_
      refine lc_y (wk_enumTF hr2.1) (by omega) (fun _ => V.bl true) (fun _ _ => rfl) (fun p hp H3 e3 Q3 k3 => ?_) (fun q H3 hq e3 h3 => ?_)
      · walk_at "fv"
        have hr3 := hr2.mono e3
        refine r_ixT (SqT.of (hr3.2 p (by omega))) (at_fn (i := i) (by unfold kB; omega) hi') ?_
        walk_at "fv"
        refine ⟨ad i, hadL hg M (i + 1), p, decide (ent U i = p), rfl, e3 _ _ hp2, fun z => ?_, fun z hpm => ?_, k3⟩
        · have : ent U i = p := of_decide_eq_true z
          exact this ▸ lot
        · have ne : ent U i ≠ p := of_decide_eq_false z
          have lot2 : ent U i ∈ hadL hg M (i + 1) := lot
          refine Classical.byContradiction fun hl => ?_
          have : (hadL hg M (i + 1)).length = 1 := by have := List.length_pos_of_mem lot2; omega
          obtain ⟨x, hx⟩ := List.length_eq_one_iff.mp this
          rw [hx, List.mem_singleton] at hpm lot2
          exact ne (lot2.trans hpm.symm)
      · walk_at "fv"
        refine l_allT (SqL.of h3) (fun x hx => mem_true hx) ?_
        walk_at "fv"
        refine ite_f rfl ?_
        walk_at "fv"
        exact ⟨(e.trans e2).trans e3, _, _, _, rfl⟩
    · rintro σ' H' ⟨e, v2, v3, v4, rfl⟩
      walk_at "fv"
      exact k _ (e1.trans e)
abbrev spOrder : Sp := fun vs H Q _ => ∃ (d : Addr) (o : Obj) (ad : Nat → Addr) (n : Nat) (L : Nat → List Nat), vs = [.ref d] ∧ HadAt H d o ad n L ∧ n ≤ 40 ∧ (∀ b, 1 ≤ b → b ≤ n → (L b).length ≤ 50) ∧ ∀ s, Ord L n s → Closed L n s → RetL (s.map nv) H Q
abbrev s_order_of : Stmt := top 35
theorem sc_order_of : FnScope ["told", "found", "done", "turn", "block", "place"] ["told"] (C8.fnScope s_order_of) := C8.fnScope_by (by decide +kernel)
theorem k_order_of (F : Df K mg "order_of" s_order_of ["told"]) (T : Txt K mg cT cW cH) : Cal P w K mg base 1 "order_of" spOrder [] := by
  refine cal_of F sc_order_of (fun vs H Q E h => ?_) (fun f cdv A outer s H vs Q E hr h => ?_)
  · obtain ⟨d, o, ad, n, L, rfl, _⟩ := h; rfl
  · obtain ⟨d, o, ad, n, L, rfl, had, hz, lz, k⟩ := h
    have nd := sc_order_of.nd
    have hu := hu_of hr
    refine ⟨_, (pss_cons (ps_set (i := 1) nd rfl (Or.inl rfl) (pe_lst (pa_cons (C8.pe_gc rfl T.m_HEAD) pa_nil)))
        (pss_cons (ps_set (i := 2) nd rfl (Or.inr rfl) (pe_disp (pps_cons (C8.pe_gc rfl T.m_HEAD) pe_bl pps_nil) (by rfl) (by rfl) (fun z => by cases z) (by decide)))
        (pss_cons (ps_for PassesOwn.never rfl (pi_keys (pv 0)) (pg_name (i := 3) nd rfl (Or.inl rfl))
          (pss_one (ps_for PassesOwn.never rfl (show PI _ _ _ (iList K _) from pi_list (pe_callB (c_sortDI rfl) (by rfl) T.z_sorted (by decide +kernel) (pa_cons (pv 0) pa_nil))) (pg_name (i := 4) nd rfl (Or.inl rfl))
              (pss_one (ps_if (PW.pt (pw_and (pt_cmp (pc_dnotin hu (pv 4) (pv 2))) (pw_and1 (pt_val (pe_callB (show CallR _ _ (rAll K) from (cr_all rfl)) (by rfl) T.z_all (by decide +kernel) (pa_cons (pe_lc (own := [("place", 5)]) rfl nd (show PI _ _ _ (iTup K _) from pi_tup (pe_dget hu (pv 0) (pv 4) (fun _ _ => rfl))) (blkOk_by (own := [("place", 5)]) (N := ["told", "found", "done", "turn", "block", "place"]) (sc := (C8.fnScope s_order_of)) (by decide +kernel)) (fun _ _ _ _ _ => (pg_name (i := 5) nd rfl (Or.inl rfl))) (fun _ _ _ _ _ => pts_nil) (fun _ _ _ _ _ => (pe_cmp (pc_din hu (pv 5) (pv 2)) rfl))) pa_nil))))))
                  (pss_cons (ps_dput hu (pv 2) (pv 4) pe_bl rfl)
                    (pss_one (ps_expr (pe_bm PySem.F.plainAttrs_list PySem.F.slot_list_append PySem.F.type_list_append mt_append (pv 1) (pa_cons (pv 4) pa_nil)))))
                  pss_nil)))))
        (pss_one (ps_ret (pv 1)))))), ?_⟩
    walk_at "fv"
    refine l_lst (by simp) fun fd H1 hfd e1 h1 => ?_
    walk_at "fv"
    refine x_disp1 (p := 0) (v := .bl true) (fun H' R k => k) (fun H' R k => k) fun dn H2 hdn e2 h2 => ?_
    walk_at "fv"
    have nfd : fd ≠ dn := ne_of_none h1 hdn
    have hdn0 : H dn = none := fresh_back e1 hdn
    refine l_keys ((e1.trans e2) _ _ had.1) ?_
    refine for_w (H0 := H) (fun i σ' H' => Ex H H' ∧ ∃ v3 v4, σ' = [some (.ref d), some (.ref fd), some (.ref dn), v3, v4, none] ∧ H' fd = some (.lst ((itr (fun s => trn L s (blocks n)) i).map nv)) ∧ H' dn = some (.dK (bls (itr (fun s => trn L s (blocks n)) i))) ∧ Ord L n (itr (fun s => trn L s (blocks n)) i))
      (wk_keys (v := fun i => V.ref (ad i)) had.1) (fun _ _ _ _ p => p.1) ⟨e1.trans e2, _, _, rfl, e2 _ _ h1, h2, Ord.start L n⟩ ?_ ?_
    · rintro i σ' H' hi ⟨e, v3, v4, rfl, hf, hd, oi⟩ H3 e3
      generalize hs : itr (fun s => trn L s (blocks n)) i = t0 at hf hd oi
      walk_at "fv"
      refine l_sortedD (l := blocks n) (had.mono (e.trans e3)).rd (had_keys n ad) (by rw [blocks_len]; omega) fun l' q H4 pm pw hq e4 h4 => ?_
      have el : l' = blocks n := sorted_is pm pw (blocks_asc n)
      subst el
      walk_at "fv"
      have hf4 := e4 _ _ (e3 _ _ hf)
      have hd4 := e4 _ _ (e3 _ _ hd)
      have nqf : q ≠ fd := fun z => by
        rw [z, e3 _ _ hf] at hq
        cases hq
      have hq4 : hide (hide H4 fd) dn q = some (.lst ((List.range n).map fun i => nv (i + 1))) := by
        rw [hide_ne (ne_of h4 hd4 (fun z => by cases z)), hide_ne nqf, h4, blocks_map]
      refine for_w (H0 := hide (hide H4 fd) dn) (fun j σ' H5 => Ex (hide (hide H4 fd) dn) H5 ∧ Ex H H5 ∧ ∃ v4, σ' = [some (.ref d), some (.ref fd), some (.ref dn), some (.int (kB i)), v4, none] ∧ H5 fd = some (.lst ((trn L t0 ((blocks n).take j)).map nv)) ∧ H5 dn = some (.dK (bls (trn L t0 ((blocks n).take j)))) ∧ Ord L n (trn L t0 ((blocks n).take j)))
        (wk_listF hq4) (fun _ _ _ _ p => p.1) ⟨(hide_ex _ _).trans (hide_ex _ _), (e.trans e3).trans e4, _, rfl, hf4, hd4, oi⟩ ?_ ?_
      · rintro j σ' H5 hj ⟨eh, e5, v4, rfl, hf5, hd5, oj⟩ H6 e6
        have es := ordL_take (L := L) (m := blocks n) (s := t0) (i := j) (by rw [blocks_len]; exact hj)
        rw [ent_blocks hj] at es
        rw [es]
        generalize trn L t0 ((blocks n).take j) = t at hf5 hd5 oj
        have ot : Ord L n (stp L t (j + 1)) := stp_ord oj (by omega)
        have b1 : 1 ≤ j + 1 := by omega
        have hadj := (had.mono (e5.trans e6)).get b1 (by omega)
        have bd := pigeon_le oj.nd oj.le
        have lzj := lz (j + 1) b1 (by omega)
        walk_at "fv"
        refine l_dnotin (dget_rd (k := Sum.inl ((j + 1 : Nat) : Int)) (rd_of (e6 _ _ hd5)) rfl) ?_
        walk_at "fv"
        by_cases hb : j + 1 ∈ t
        · have est : stp L t (j + 1) = t := if_neg fun z => (stp_if.mp z).1 hb
          refine ite_f (by rw [bls_val, decide_eq_true hb]; rfl) ?_
          walk_at "fv"
          refine ite_f rfl ?_
          walk_at "fv"
          exact ⟨eh.trans e6, e5.trans e6, _, rfl, by rw [est]; exact e6 _ _ hf5, by rw [est]; exact e6 _ _ hd5, ot⟩
        · refine ite_t (by rw [bls_val, decide_eq_false hb]; rfl) ?_
          walk_at "fv"
          refine l_dget hadj.1 ?_
          walk_at "fv"
          refine seqT_and (SqT.of hadj.2) ?_
          refine lc_y (wk_tupN hadj.2) (by omega) (fun i => V.bl (decide (ent (L (j + 1)) i ∈ t))) (fun _ _ => rfl) (fun p hp H7 e7 Q7 k7 => ?_) (fun q2 H7 hq2 e7 h7 => ?_)
          · walk_at "fv"
            refine l_din (dget_rd (k := Sum.inl ((ent (L (j + 1)) p : Nat) : Int)) (rd_of (e7 _ _ (e6 _ _ hd5))) rfl) ?_
            rw [bls_val]
            exact k7 _ (Ex.refl _)
          · walk_at "fv"
            refine l_allE (fun p => decide (p ∈ t)) h7 ?_
            walk_at "fv"
            have e57 := (e5.trans e6).trans e7
            have eh7 := (eh.trans e6).trans e7
            have hf7 := e7 _ _ (e6 _ _ hf5)
            have hd7 := e7 _ _ (e6 _ _ hd5)
            cases ha : (L (j + 1)).all fun p => decide (p ∈ t) with
            | false =>
              have est : stp L t (j + 1) = t := if_neg fun z => by
                rw [Bool.and_eq_true, ha] at z
                cases z.2
              refine ite_f rfl ?_
              walk_at "fv"
              exact ⟨eh7, e57, _, rfl, by rw [est]; exact hf7, by rw [est]; exact hd7, ot⟩
            | true =>
              have est : stp L t (j + 1) = t ++ [j + 1] := if_pos (by rw [ha, decide_eq_false hb]; rfl)
              refine ite_t rfl ?_
              walk_at "fv"
              refine l_dput (DPut.k (k := Sum.inl ((j + 1 : Nat) : Int)) hd7 (sz_lt (by rw [bls_len]; omega))) ?_
              walk_at "fv"
              have hf8 : (upd H7 dn (.dK (putK (bls t) (Sum.inl ((j + 1 : Nat) : Int)) (.bl true)))) fd = some (.lst (t.map nv)) := by
                rw [upd_ne nfd]
                exact hf7
              refine l_bmL (SqL.of hf8) ?_
              walk_at "fv"
              refine ⟨fd, _, _, rfl, rfl, hf8, sz_lt (by rw [List.length_map]; omega), ?_⟩
              walk_at "fv"
              refine ⟨Ex.mut (Ex.mut eh7 hide_same) (hide_none hide_same), Ex.mut (Ex.mut e57 hdn0) hfd, _, rfl, ?_, ?_, ot⟩
              · rw [est, upd_same, List.map_append]
                rfl
              · rw [est, upd_ne nfd.symm, upd_same, bls_put, if_neg hb]
      · rintro σ' H5 ⟨eh, e5, v4, rfl, hf5, hd5, oj⟩
        have el : (blocks n).take n = blocks n := List.take_of_length_le (by rw [blocks_len]; exact Nat.le_refl _)
        rw [el] at hf5 hd5 oj
        refine ⟨e5, _, _, rfl, ?_, ?_, ?_⟩
        · show H5 fd = some (.lst ((trn L (itr (fun s => trn L s (blocks n)) i) (blocks n)).map nv))
          rw [hs]
          exact hf5
        · show H5 dn = some (.dK (bls (trn L (itr (fun s => trn L s (blocks n)) i) (blocks n))))
          rw [hs]
          exact hd5
        · show Ord L n (trn L (itr (fun s => trn L s (blocks n)) i) (blocks n))
          rw [hs]
          exact oj
    · rintro σ' H' ⟨e, v3, v4, rfl, hf, hd, oi⟩
      walk_at "fv"
      exact k _ oi (ordL_ok L n).2 fd H' hfd e hf
end
end FV
namespace FV
open PySem PySem.Spec PyProof.Rows L2 Evl
open C8 (Cal Mak Def InsC)
section
variable {P : Program} {w : World} {K : PySem.W.Frag} {mg : Str → Option Value} {base : Heap} {cT cW cH : Addr}
abbrev spRing : Sp := fun vs H Q _ => ∃ (d l : Addr) (o : Obj) (ad : Nat → Addr) (n : Nat) (L : Nat → List Nat) (s : List Nat), vs = [.ref d, .ref l] ∧ HadAt H d o ad n L ∧ H l = some (.lst (s.map nv)) ∧ n ≤ 40 ∧ Lots n L ∧ Ord L n s ∧ Closed L n s ∧ s.length ≠ n + 1 ∧
  ∀ R, Ring n L R → RetT (R.map nv) H Q
theorem lots_len {n : Nat} {L : Nat → List Nat} (lo : Lots n L) {b : Nat} (b1 : 1 ≤ b) (b2 : b ≤ n) : (L b).length ≤ n + 1 := pigeon_le ((lo.asc b b1 b2).imp fun h => Nat.ne_of_lt h) (lo.le b b1 b2)
abbrev s_ring_of : Stmt := top 36
theorem sc_ring_of : FnScope ["told", "done", "row", "later", "block", "place"] ["told", "done"] (C8.fnScope s_ring_of) := C8.fnScope_by (by decide +kernel)
theorem k_ring_of (F : Df K mg "ring_of" s_ring_of ["told", "done"]) (T : Txt K mg cT cW cH) : Cal P w K mg base 1 "ring_of" spRing [] := by
  refine cal_of F sc_ring_of (fun vs H Q E h => ?_) (fun f cdv A outer sh H vs Q E hr h => ?_)
  · obtain ⟨d, l, o, ad, n, L, s, rfl, _⟩ := h; rfl
  · obtain ⟨d, l, o, ad, n, L, s, rfl, had, hl, hz, lo, od, cl, hn, k⟩ := h
    have nd := sc_ring_of.nd
    have hu := hu_of hr
    refine ⟨_, (pss_cons (ps_set (i := 2) nd rfl (Or.inl rfl) (pe_lst (pa_cons (pe_callB (show CallR _ _ (rMin K) from (cr_min rfl)) (by rfl) T.z_min (by decide +kernel) (pa_cons (pe_lc (own := [("block", 4)]) rfl nd (pi_keys (pv 0)) (blkOk_by (own := [("block", 4)]) (N := ["told", "done", "row", "later", "block", "place"]) (sc := (C8.fnScope s_ring_of)) (by decide +kernel)) (fun _ _ _ _ _ => (pg_name (i := 4) nd rfl (Or.inl rfl))) (fun _ _ _ _ _ => (pts_one (pt_cmpR (show OpR _ _ (rIn K true) from op_notIn_seq) (pv 4) (pv 1) (by rfl)))) (fun _ _ _ _ _ => (pv 4))) pa_nil)) pa_nil)))
        (pss_one (ps_while PassesOwn.never (pt_val pe_bl)
          (pss_cons (ps_set (i := 3) nd rfl (Or.inl rfl) (pe_callB (show CallR _ _ (rMin K) from (cr_min rfl)) (by rfl) T.z_min (by decide +kernel) (pa_cons (pe_lc (own := [("place", 5)]) rfl nd (show PI _ _ _ (iTup K _) from pi_tup (pe_dget hu (pv 0) (pe_ix (show IxR _ (rIxL K) from ix_list) (pv 2) (pe_un un_neg pe_int) (fun _ _ => rfl)) (fun _ _ => rfl))) (blkOk_by (own := [("place", 5)]) (N := ["told", "done", "row", "later", "block", "place"]) (sc := (C8.fnScope s_ring_of)) (by decide +kernel)) (fun _ _ _ _ _ => (pg_name (i := 5) nd rfl (Or.inl rfl))) (fun _ _ _ _ _ => (pts_one (pt_cmpR (show OpR _ _ (rIn K true) from op_notIn_seq) (pv 5) (pv 1) (by rfl)))) (fun _ _ _ _ _ => (pv 5))) pa_nil)))
            (pss_cons (ps_if (pt_cmpR (show OpR _ _ (rIn K false) from op_in_seq) (pv 3) (pv 2) (by rfl))
              (pss_one (ps_ret (pe_callTy (show CallR _ _ (rTupOf K) from c_tupOf) (by rfl) T.z_tuple (by decide +kernel) (pa_cons (pe_slice (show SlR _ (rSlL K) from sl_list) (pv 2) (po_some (pe_bm PySem.F.plainAttrs_list PySem.F.slot_list_index PySem.F.type_list_index (show MtR _ _ (rIndex K) from mt_index) (pv 2) (pa_cons (pv 3) pa_nil))) po_none) pa_nil))))
              pss_nil)
            (pss_one (ps_expr (pe_bm PySem.F.plainAttrs_list PySem.F.slot_list_append PySem.F.type_list_append mt_append (pv 2) (pa_cons (pv 3) pa_nil))))))))), ?_⟩
    walk_at "fv"
    refine l_keys had.1 ?_
    refine lc_v (wk_keys (v := fun i => V.ref (ad i)) had.1) (by omega) (fun i => !decide (i + 1 ∈ s)) (fun i => nv (i + 1)) (fun _ _ => rfl) (fun i hi H1 e1 Q1 k1 => ?_) (fun i hi hf H1 e1 Q1 k1 => ?_) (fun q H1 hq e1 h1 => ?_)
    · walk_at "fv"
      refine r_ninNL (p := i + 1) (e1 _ _ hl) ?_
      walk_at "fv"
      exact k1 _ (Ex.refl _)
    · walk_at "fv"
      exact k1 _ (Ex.refl _)
    · rw [given_nv] at h1
      walk_at "fv"
      obtain ⟨b0, b01, b02, b0s⟩ := not_put od hn
      refine l_min (SqL.of h1) (List.length_pos_of_mem (a := b0) (List.mem_map.mpr ⟨b0 - 1, List.mem_filter.mpr ⟨List.mem_range.mpr (by omega), by rw [show b0 - 1 + 1 = b0 by omega, decide_eq_false b0s]; rfl⟩, by omega⟩)) fun b hb _ => ?_
      obtain ⟨i, hi, rfl⟩ := List.mem_map.mp hb
      obtain ⟨hi1, hi2⟩ := List.mem_filter.mp hi
      have hi1 := List.mem_range.mp hi1
      have hi2 : i + 1 ∉ s := fun z => by rw [decide_eq_true z] at hi2; cases hi2
      walk_at "fv"
      refine l_lst (by simp) fun rw' H2 hrw e2 h2 => ?_
      walk_at "fv"
      have hrw0 : H rw' = none := fresh_back e1 hrw
      refine while_w (fun m σ' H' => Ex H H' ∧ ∃ r v3 v4 v5, σ' = [some (.ref d), some (.ref l), some (.ref rw'), v3, v4, v5] ∧ H' rw' = some (.lst (r.map nv)) ∧ Row n L s r ∧ m = n - r.length) _
        ⟨e1.trans e2, [i + 1], _, _, _, rfl, h2, ⟨by simp, by simp, fun x hx => by rw [List.mem_singleton] at hx; subst hx; exact ⟨by omega, by omega, hi2⟩, fun j hj => by simp at hj⟩, rfl⟩ ?_
      rintro m σ' H' ⟨e, r, v3, v4, v5, rfl, hr', row, rfl⟩
      walk_at "fv"
      refine ite_t rfl (wbody ?_)
      walk_at "fv"
      have rl := row.len
      obtain ⟨t1, t2, ts⟩ := row.inn _ row.last
      have hb := (had.mono e).get t1 t2
      have ll := lots_len lo t1 t2
      refine r_ixL (SqL.of hr') (at_last row.ne) ?_
      walk_at "fv"
      refine l_dget hb.1 ?_
      walk_at "fv"
      refine seqT_and (SqT.of hb.2) ?_
      refine lc_v (wk_tupN hb.2) (by omega) (fun i => !decide (ent (L (lst r)) i ∈ s)) (fun i => nv (ent (L (lst r)) i)) (fun _ _ => rfl) (fun i hi H1 e1 Q1 k1 => ?_) (fun i hi hf H1 e1 Q1 k1 => ?_) (fun q H3 hq3 e3 h3 => ?_)
      · walk_at "fv"
        refine r_ninNL (e1 _ _ (e _ _ hl)) ?_
        walk_at "fv"
        exact k1 _ (Ex.refl _)
      · walk_at "fv"
        exact k1 _ (Ex.refl _)
      · rw [given_nv] at h3
        walk_at "fv"
        obtain ⟨p0, p01, p02⟩ := next_not od.zero cl lo t1 t2 ts
        obtain ⟨i0, i01, i02⟩ := mem_ent p01
        refine l_min (SqL.of h3) (List.length_pos_of_mem (a := p0) (List.mem_map.mpr ⟨i0, List.mem_filter.mpr ⟨List.mem_range.mpr i01, by rw [i02, decide_eq_false p02]; rfl⟩, i02⟩)) fun x hx _ => ?_
        obtain ⟨j, hj, rfl⟩ := List.mem_map.mp hx
        obtain ⟨hj1, hj2⟩ := List.mem_filter.mp hj
        have hj1 := List.mem_range.mp hj1
        have hj2 : ent (L (lst r)) j ∉ s := fun z => by rw [decide_eq_true z] at hj2; cases hj2
        have xm : ent (L (lst r)) j ∈ L (lst r) := ent_mem hj1
        generalize ent (L (lst r)) j = x at hj2 xm
        have xin := next_in od.zero lo t1 t2 xm hj2
        have hr3 := e3 _ _ hr'
        walk_at "fv"
        refine r_inNL hr3 ?_
        walk_at "fv"
        by_cases hxr : x ∈ r
        · refine ite_t (decide_eq_true hxr) ?_
          obtain ⟨c, hc, hce⟩ := mem_ent hxr
          walk_at "fv"
          refine l_bmL (SqL.of hr3) ?_
          walk_at "fv"
          refine l_index (SqL.of hr3) row.nd hc hce ?_
          walk_at "fv"
          refine r_slL (ys := (r.drop c).map nv) (SqL.of hr3) (by rw [cutV_from, List.map_drop]) fun q2 H4 hq4 e4 h4 => ?_
          walk_at "fv"
          refine l_tupOf (SqL.of h4) fun q5 H5 hq5 e5 h5 => ?_
          exact k _ (row.ring hc (by rw [hce]; exact xm)) q5 H5 (((e.trans e3).trans e4).trans e5) h5
        · refine ite_f (decide_eq_false hxr) ?_
          walk_at "fv"
          refine l_bmL (SqL.of hr3) ?_
          walk_at "fv"
          refine ⟨rw', _, _, rfl, rfl, hr3, sz_lt (by rw [List.length_map]; omega), ?_⟩
          walk_at "fv"
          have row2 := row.more xin hxr xm
          have rl2 := row2.len
          rw [List.length_append, List.length_singleton] at rl2
          refine ⟨n - (r ++ [x]).length, by rw [List.length_append, List.length_singleton]; omega, Ex.mut (e.trans e3) hrw0, _, _, _, _, rfl, ?_, row2, rfl⟩
          rw [upd_same, List.map_append]
          rfl
abbrev spCosts (cW : Addr) : Sp := fun vs H Q _ => ∃ (wd u l : Addr) (rows : Nat → Addr) (U : List Nat) (b : Nat), vs = [.ref wd, nv b] ∧ WordsAt cW H wd u l rows U.length U ∧ U.length ≤ 40 ∧ 1 ≤ b ∧ b ≤ U.length ∧ par U b ≤ U.length ∧ par U b ≠ b ∧
  RetL ((List.range (U.length + 1)).map fun p => if p = b then V.non else if p = par U b then nv 0 else nv 3) H Q
theorem one_true {n x : Nat} (h : x < n) : ((List.range n).filter fun p => decide (x = p)).length = 1 := by
  have e : (List.range n).filter (fun p => decide (x = p)) = [x] := by
    refine asc_eq (List.pairwise_lt_range.filter _) (by simp) fun y => ?_
    rw [List.mem_filter, List.mem_range, List.mem_singleton, decide_eq_true_iff]
    constructor
    · exact fun z => z.2.symm
    · rintro rfl
      exact ⟨h, rfl⟩
  rw [e]
  rfl
abbrev s_raw_costs : Stmt := top 24
theorem sc_raw_costs : FnScope ["words", "block", "said", "column", "listed", "found", "place", "told", "wrong", "row"] ["words", "block"] (C8.fnScope s_raw_costs) := C8.fnScope_by (by decide +kernel)
theorem k_raw_costs (F : Df K mg "raw_costs" s_raw_costs ["words", "block"]) (T : Txt K mg cT cW cH) : Cal P w K mg base 1 "raw_costs" (spCosts cW) [] := by
  refine cal_of F sc_raw_costs (fun vs H Q E h => ?_) (fun f cdv A outer sh H vs Q E hr h => ?_)
  · obtain ⟨wd, u, l, rows, U, b, rfl, _⟩ := h; rfl
  · obtain ⟨wd, u, l, rows, U, b, rfl, ⟨⟨dw, wi⟩, hup, hrows⟩, hz, b1, b2, p1, p2, k⟩ := h
    have nd := sc_raw_costs.nd
    refine ⟨_, (pss_cons (ps_set (i := 2) nd rfl (Or.inl rfl) (pe_ix (show IxR _ (rIxT K) from ix_tup) (show PE _ _ (tFld K _ _) from pe_fld (pv 0) rfl) (pe_op op_sub (pv 1) pe_int) (fun _ _ => rfl)))
        (pss_cons (ps_setLc (i := 3) (own := [("row", 9)]) rfl nd rfl rfl (sw_true rfl rfl rfl (by decide +kernel)) (show PI _ _ _ (iTup K _) from pi_tup (show PE _ _ (tFld K _ _) from pe_fld (pv 0) rfl)) (blkOk_by (own := [("row", 9)]) (N := ["words", "block", "said", "column", "listed", "found", "place", "told", "wrong", "row"]) (sc := (C8.fnScope s_raw_costs)) (by decide +kernel)) (fun _ _ _ _ _ => (pg_name (i := 9) nd rfl (Or.inl rfl))) (fun _ _ _ _ _ => pts_nil) (fun _ _ _ _ _ => (pe_ix (show IxR _ (rIxT K) from ix_tup) (pv 9) (pe_op op_sub (pv 1) pe_int) (fun _ _ => rfl))))
        (pss_cons (ps_set (i := 4) nd rfl (Or.inl rfl) (pe_callB (show CallR _ _ (rLenS K) from c_len) (by rfl) T.z_len (by decide +kernel) (pa_cons (pe_lc (own := [("told", 7)]) rfl nd (show PI _ _ _ (iList K _) from pi_list (pv 3)) (blkOk_by (own := [("told", 7)]) (N := ["words", "block", "said", "column", "listed", "found", "place", "told", "wrong", "row"]) (sc := (C8.fnScope s_raw_costs)) (by decide +kernel)) (fun _ _ _ _ _ => (pg_name (i := 7) nd rfl (Or.inl rfl))) (fun _ _ _ _ _ => (pts_one (pt_cmpR op_is_bl (pv 7) pe_bl (nomark _)))) (fun _ _ _ _ _ => (pv 7))) pa_nil)))
        (pss_cons (ps_set (i := 5) nd rfl (Or.inl rfl) (pe_lst pa_nil))
        (pss_cons (ps_for PassesOwn.never rfl (show PI _ _ _ (iEnum K _) from pi_enum (by rfl) T.z_enumerate (pa_cons (pv 3) pa_nil)) (show PG _ _ (gTup K 2 _) from pg_tup rfl (pgs_cons (pg_name (i := 6) nd rfl (Or.inl rfl)) (pgs_cons (pg_name (i := 7) nd rfl (Or.inl rfl)) pgs_nil)))
          (pss_cons (ps_set (i := 8) nd rfl (Or.inl rfl) (pe_ifExp (PW.pt (pw_and (pt_cmpR op_notN (pv 2) pe_non (nomark _)) (pw_and1 (pt_cmpR op_ne (pv 2) (pv 6) (nomark _))))) pe_int pe_int))
            (pss_cons (ps_aug (i := 8) nd rfl (Or.inl rfl) (pe_ifExp (pt_cmpR op_is_bl (pv 7) pe_bl (nomark _)) pe_int pe_int) ip_add)
            (pss_cons (ps_aug (i := 8) nd rfl (Or.inl rfl) (pe_ifExp (pt_cmpR op_is_bl (pv 7) pe_bl (nomark _)) (pe_op op_sub (pv 4) pe_int) (pv 4)) ip_add)
            (pss_one (ps_expr (pe_bm PySem.F.plainAttrs_list PySem.F.slot_list_append PySem.F.type_list_append mt_append (pv 5) (pa_cons (pe_ifExp (pt_cmpR op_ne (pv 6) (pv 1) (nomark _)) (pv 8) pe_non) pa_nil))))))))
        (pss_one (ps_ret (pv 5)))))))), ?_⟩
    walk_at "fv"
    refine r_fld wi T.w_cl T.w_ups (wF_ups _ _ _) ?_
    walk_at "fv"
    refine r_ixT (SqT.of hup) (at_par b1 b2) ?_
    walk_at "fv"
    refine r_fld wi T.w_cl T.w_lists (wF_lists _ _ _) ?_
    walk_at "fv"
    refine seqT_and (SqT.of hrows.1) ?_
    refine lc_y (wk_tupF hrows.1) (by omega) (fun p => V.bl (decide (par U b = p))) (fun _ _ => rfl) (fun p hp H1 e1 Q1 k1 => ?_) (fun cq H1 hcq e1 h1 => ?_)
    · walk_at "fv"
      refine r_ixT (SqT.of (e1 _ _ (hrows.2 p (by omega)))) (at_fn (i := b - 1) (by omega) (by omega)) ?_
      exact k1 _ (Ex.refl _)
    · walk_at "fv"
      refine lc_v (wk_listF h1) (by omega) (fun p => decide (par U b = p)) (fun p => V.bl (decide (par U b = p))) (fun _ _ => rfl) (fun p hp H2 e2 Q2 k2 => ?_) (fun p hp hf H2 e2 Q2 k2 => ?_) (fun tq H2 htq e2 h2 => ?_)
      · walk_at "fv"
        rw [show decide (decide (par U b = p) = true) = decide (par U b = p) by simp]
        exact k2 _ (Ex.refl _)
      · walk_at "fv"
        exact k2 _ (Ex.refl _)
      · walk_at "fv"
        refine l_lenL (SqL.of h2) 1 (by unfold given; rw [List.length_map]; exact one_true (by omega)) ?_
        walk_at "fv"
        refine l_lst (by simp) fun fq H3 hfq e3 h3 => ?_
        walk_at "fv"
        have e := (e1.trans e2).trans e3
        have hfq0 : H2 fq = none := hfq
        have hfq1 : H1 fq = none := fresh_back e2 hfq0
        have hfqH : H fq = none := fresh_back e1 hfq1
        have hc3 := (e2.trans e3) _ _ h1
        refine l_enL (SqL.of hc3) ?_
        refine for_w (H0 := H1) (fun i σ' H' => Ex H1 H' ∧ ∃ v6 v7 v8, σ' = [some (.ref wd), some (nv b), some (nv (par U b)), some (.ref cq), some (nv 1), some (.ref fq), v6, v7, v8, none] ∧ H' fq = some (.lst ((List.range i).map fun p => if p = b then V.non else if p = par U b then nv 0 else nv 3)))
          (wk_enumLF h1) (fun _ _ _ _ p => p.1) ⟨e2.trans e3, _, _, _, rfl, h3⟩ ?_ ?_
        · rintro i σ' H' hi ⟨e4, v6, v7, v8, rfl, hf4⟩ H5 e5
          have hf5 := e5 _ _ hf4
          have fin : ∀ (v : V), v = (if i = b then V.non else if i = par U b then nv 0 else nv 3) → ∀ H6, Ex H5 H6 → ∀ v6 v7 v8, (fun (σ' : SS) (H' : Hp) => Ex H1 H' ∧ ∃ v6 v7 v8, σ' = [some (.ref wd), some (nv b), some (nv (par U b)), some (.ref cq), some (nv 1), some (.ref fq), v6, v7, v8, none] ∧ H' fq = some (.lst ((List.range (i + 1)).map fun p => if p = b then V.non else if p = par U b then nv 0 else nv 3)))
              [some (.ref wd), some (nv b), some (nv (par U b)), some (.ref cq), some (nv 1), some (.ref fq), v6, v7, v8, none] (upd H6 fq (.lst (((List.range i).map fun p => if p = b then V.non else if p = par U b then nv 0 else nv 3) ++ [v]))) := fun v ev H6 e6 v6 v7 v8 =>
            ⟨Ex.mut ((e4.trans e5).trans e6) hfq1, v6, v7, v8, rfl, by rw [upd_same, List.range_succ, List.map_append, ev]; rfl⟩
          walk_at "fv"
          refine ite_t rfl ?_
          walk_at "fv"
          by_cases hu' : par U b = i
          · refine ite_f (by rw [dI (by omega)]; rfl) ?_
            walk_at "fv"
            refine ite_f (by rw [decide_eq_true hu']; rfl) ?_
            walk_at "fv"
            refine ite_t (by rw [decide_eq_true hu']; rfl) ?_
            walk_at "fv"
            refine l_bmL (SqL.of hf5) ?_
            walk_at "fv"
            refine ite_t (by rw [dN (by omega)]; rfl) ?_
            walk_at "fv"
            refine ⟨fq, _, _, rfl, rfl, hf5, sz_lt (by simp; omega), ?_⟩
            walk_at "fv"
            refine fin _ ?_ H5 (Ex.refl _) _ _ _
            rw [if_neg (by omega), if_pos hu'.symm]
            rfl
          · refine ite_t (by rw [dN (by omega)]; rfl) ?_
            walk_at "fv"
            refine ite_t (by rw [decide_eq_false hu']; rfl) ?_
            walk_at "fv"
            refine ite_f (by rw [decide_eq_false hu']; rfl) ?_
            walk_at "fv"
            refine l_bmL (SqL.of hf5) ?_
            walk_at "fv"
            by_cases hib : i = b
            · refine ite_f (by rw [dI (by omega)]; rfl) ?_
              walk_at "fv"
              refine ⟨fq, _, _, rfl, rfl, hf5, sz_lt (by simp; omega), ?_⟩
              walk_at "fv"
              refine fin _ ?_ H5 (Ex.refl _) _ _ _
              rw [if_pos hib]
            · refine ite_t (by rw [dN (by omega)]; rfl) ?_
              walk_at "fv"
              refine ⟨fq, _, _, rfl, rfl, hf5, sz_lt (by simp; omega), ?_⟩
              walk_at "fv"
              refine fin _ ?_ H5 (Ex.refl _) _ _ _
              rw [if_neg hib, if_neg fun z => hu' z.symm]
              rfl
        · rintro σ' H' ⟨e4, v6, v7, v8, rfl, hf4⟩
          walk_at "fv"
          exact k fq H' hfqH (e1.trans e4) hf4
end
end FV
namespace FV
open PySem PySem.Spec PyProof.Rows L2 Evl
open C8 (Cal Mak Def InsC)
def cst (U : List Nat) (b p : Nat) : V := if p = b then V.non else if p = par U b then nv 0 else nv 3
theorem cst_zero {U : List Nat} {b p : Nat} (p2 : par U b ≠ b) : decide (cst U b p = nv 0) = decide (par U b = p) := by
  rw [Bool.eq_iff_iff, decide_eq_true_iff, decide_eq_true_iff]
  unfold cst
  by_cases h : p = b
  · rw [if_pos h]
    exact ⟨fun z => (by cases z), fun z => absurd (z.trans h) p2⟩
  · rw [if_neg h]
    by_cases h2 : p = par U b
    · rw [if_pos h2]
      exact ⟨fun _ => h2.symm, fun _ => rfl⟩
    · rw [if_neg h2]
      exact ⟨fun z => (by cases z), fun z => absurd z.symm h2⟩
theorem filt_one {n x : Nat} (h : x < n) : (List.range n).filter (fun p => decide (x = p)) = [x] := by
  refine asc_eq (List.pairwise_lt_range.filter _) (by simp) fun y => ?_
  rw [List.mem_filter, List.mem_range, List.mem_singleton, decide_eq_true_iff]
  constructor
  · exact fun z => z.2.symm
  · rintro rfl
    exact ⟨h, rfl⟩
section
variable {P : Program} {w : World} {K : PySem.W.Frag} {mg : Str → Option Value} {base : Heap} {cT cW cH : Addr}
abbrev spVote (cW : Addr) : Sp := fun vs H Q _ => ∃ (wd u l : Addr) (rows : Nat → Addr) (U : List Nat) (b : Nat), vs = [.ref wd, nv b] ∧ WordsAt cW H wd u l rows U.length U ∧ U.length ≤ 40 ∧ 1 ≤ b ∧ b ≤ U.length ∧ par U b ≤ U.length ∧ par U b ≠ b ∧
  ∀ v q H2, H v = none → H q = none → Ex H H2 → H2 v = some (.tup [nv 0, .ref q]) → H2 q = some (.tup [nv (par U b)]) → Q (.ref v) H2
abbrev s_raw_vote : Stmt := top 25
theorem sc_raw_vote : FnScope ["words", "block", "costs", "least", "one", "place"] ["words", "block"] (C8.fnScope s_raw_vote) := C8.fnScope_by (by decide +kernel)
theorem k_raw_vote (F : Df K mg "raw_vote" s_raw_vote ["words", "block"]) (T : Txt K mg cT cW cH) (c_raw_costs : Cal P w K mg base 1 "raw_costs" (spCosts cW) []) : Cal P w K mg base 2 "raw_vote" (spVote cW) [] := by
  refine cal_of F sc_raw_vote (fun vs H Q E h => ?_) (fun f cdv A outer sh H vs Q E hr h => ?_)
  · obtain ⟨wd, u, l, rows, U, b, rfl, _⟩ := h; rfl
  · obtain ⟨wd, u, l, rows, U, b, rfl, wa, hz, b1, b2, p1, p2, k⟩ := h
    have nd := sc_raw_vote.nd
    refine ⟨_, (pss_cons (ps_set (i := 2) nd rfl (Or.inl rfl) (C8.pe_c c_raw_costs hr (by decide) rfl (pa_cons (pv 0) (pa_cons (pv 1) pa_nil))))
        (pss_cons (ps_set (i := 3) nd rfl (Or.inr rfl) (pe_callB (show CallR _ _ (rMin K) from (cr_min rfl)) (by rfl) T.z_min (by decide +kernel) (pa_cons (pe_lc (own := [("one", 4)]) rfl nd (show PI _ _ _ (iList K _) from pi_list (pv 2)) (blkOk_by (own := [("one", 4)]) (N := ["words", "block", "costs", "least", "one", "place"]) (sc := (C8.fnScope s_raw_vote)) (by decide +kernel)) (fun _ _ _ _ _ => (pg_name (i := 4) nd rfl (Or.inl rfl))) (fun _ _ _ _ _ => (pts_one (pt_cmpR op_notN (pv 4) pe_non (nomark _)))) (fun _ _ _ _ _ => (pv 4))) pa_nil)))
        (pss_one (ps_ret (pe_tup (pa_cons (pv 3) (pa_cons (pe_callTy (show CallR _ _ (rTupOf K) from c_tupOf) (by rfl) T.z_tuple (by decide +kernel) (pa_cons (pe_lc (own := [("place", 5), ("one", 4)]) rfl nd (show PI _ _ _ (iEnum K _) from pi_enum (by rfl) T.z_enumerate (pa_cons (pv 2) pa_nil)) (blkOk_by (own := [("place", 5), ("one", 4)]) (N := ["words", "block", "costs", "least", "one", "place"]) (sc := (C8.fnScope s_raw_vote)) (by decide +kernel)) (fun _ _ _ _ _ => (show PG _ _ (gTup K 2 _) from pg_tup rfl (pgs_cons (pg_name (i := 5) nd rfl (Or.inl rfl)) (pgs_cons (pg_name (i := 4) nd rfl (Or.inl rfl)) pgs_nil)))) (fun _ _ _ _ _ => (pts_one (pt_cmpR op_eq (pv 4) (pv 3) (nomark _)))) (fun _ _ _ _ _ => (pv 5))) pa_nil)) pa_nil))))))), ?_⟩
    walk_at "fv"
    refine ⟨wd, u, l, rows, U, b, rfl, wa, hz, b1, b2, p1, p2, fun cq H1 hcq e1 h1 => ?_⟩
    have h1 : H1 cq = some (.lst ((List.range (U.length + 1)).map (cst U b))) := h1
    walk_at "fv"
    refine lc_v (wk_listF h1) (by omega) (fun p => !decide (p = b)) (fun p => nv (if p = par U b then 0 else 3)) (fun _ _ => rfl) (fun p hp H2 e2 Q2 k2 => ?_) (fun p hp hf H2 e2 Q2 k2 => ?_) (fun tq H2 htq e2 h2 => ?_)
    · walk_at "fv"
      rw [show decide (cst U b p = V.non) = decide (p = b) by unfold cst; split <;> simp_all; split <;> simp_all]
      exact k2 _ (Ex.refl _)
    · walk_at "fv"
      have ne : p ≠ b := fun z => by rw [decide_eq_true z] at hf; cases hf
      rw [show cst U b p = nv (if p = par U b then 0 else 3) by unfold cst; rw [if_neg ne]; split <;> rfl]
      exact k2 _ (Ex.refl _)
    · rw [given_nv] at h2
      walk_at "fv"
      have z0 : 0 ∈ ((List.range (U.length + 1)).filter fun p => !decide (p = b)).map fun p => if p = par U b then 0 else 3 := List.mem_map.mpr ⟨par U b, List.mem_filter.mpr ⟨List.mem_range.mpr (by omega), by rw [decide_eq_false p2]; rfl⟩, if_pos rfl⟩
      refine l_min (SqL.of h2) (List.length_pos_of_mem z0) fun m hm hle => ?_
      have m0 : m = 0 := Nat.le_zero.mp (hle 0 z0)
      subst m0
      walk_at "fv"
      have h12 := e2 _ _ h1
      refine l_enL (SqL.of h12) ?_
      refine lc_v (wk_enumLF h12) (by omega) (fun p => decide (par U b = p)) (fun p => nv p) (fun _ _ => rfl) (fun p hp H3 e3 Q3 k3 => ?_) (fun p hp hf H3 e3 Q3 k3 => ?_) (fun q3 H3 hq3 e3 h3 => ?_)
      · walk_at "fv"
        have sc : scal (cst U b p) (nv 0) = true := by unfold cst; split; rfl; split <;> rfl
        refine r_eq sc ?_
        walk_at "fv"
        rw [cst_zero p2]
        exact k3 _ (Ex.refl _)
      · walk_at "fv"
        exact k3 _ (Ex.refl _)
      · rw [given_nv, filt_one (by omega)] at h3
        walk_at "fv"
        refine l_tupOf (SqL.of h3) fun q H4 hq e4 h4 => ?_
        walk_at "fv"
        refine l_tup (by simp) fun v H5 hv e5 h5 => ?_
        have e := (e1.trans e2).trans e3
        exact k v q H5 (fresh_back (e.trans e4) hv) (fresh_back e hq) ((e.trans e4).trans e5) h5 (e5 _ _ h4)
abbrev spVotes (cW : Addr) : Sp := fun vs H Q _ => ∃ (wd u l : Addr) (rows : Nat → Addr) (U : List Nat), vs = [.ref wd] ∧ WordsAt cW H wd u l rows U.length U ∧ U.length ≤ 40 ∧ Pl U ∧
  ∀ a (ad qd : Nat → Addr) H2, Ex H H2 → H2 a = some (.lst ((List.range U.length).map fun i => V.ref (ad i))) → (∀ i, i < U.length → H2 (ad i) = some (.tup [nv 0, .ref (qd i)]) ∧ H2 (qd i) = some (.tup [nv (par U (i + 1))])) → Q (.ref a) H2
abbrev s_votes : Stmt := top 26
theorem sc_votes : FnScope ["words", "block"] ["words"] (C8.fnScope s_votes) := C8.fnScope_by (by decide +kernel)
theorem k_votes (F : Df K mg "votes" s_votes ["words"]) (T : Txt K mg cT cW cH) (c_raw_vote : Cal P w K mg base 2 "raw_vote" (spVote cW) []) : Cal P w K mg base 3 "votes" (spVotes cW) [] := by
  refine cal_of F sc_votes (fun vs H Q E h => ?_) (fun f cdv A outer sh H vs Q E hr h => ?_)
  · obtain ⟨wd, u, l, rows, U, rfl, _⟩ := h; rfl
  · obtain ⟨wd, u, l, rows, U, rfl, wa, hz, pl, k⟩ := h
    obtain ⟨⟨dw, wi⟩, hup, hrows⟩ := id wa
    have nd := sc_votes.nd
    refine ⟨_, (pss_one (ps_ret (pe_lc (own := [("block", 1)]) rfl nd (pi_range2 (by rfl) T.z_range (pa_cons pe_int (pa_cons (pe_op op_add (show PE _ _ (tFld K _ _) from pe_fld (pv 0) rfl) pe_int) pa_nil))) (blkOk_by (own := [("block", 1)]) (N := ["words", "block"]) (sc := (C8.fnScope s_votes)) (by decide +kernel)) (fun _ _ _ _ _ => (pg_name (i := 1) nd rfl (Or.inl rfl))) (fun _ _ _ _ _ => pts_nil) (fun _ _ _ _ _ => (C8.pe_c c_raw_vote hr (by decide) rfl (pa_cons (pv 0) (pa_cons (pv 1) pa_nil))))))), ?_⟩
    walk_at "fv"
    refine r_fld wi T.w_cl T.w_blocks (wF_blocks _ _ _) ?_
    walk_at "fv"
    refine l_rng2 U.length (by omega) (by omega) (by omega) ?_
    refine lc_ry wk_rng1 (by omega) (fun D i v H => ∃ r, v = .ref r ∧ r ≠ D ∧ ∃ q, q ≠ D ∧ H r = some (.tup [nv 0, .ref q]) ∧ H q = some (.tup [nv (par U (i + 1))])) (fun D i v A B e ⟨r, q1, q2, q, q3, q4, q5⟩ => ⟨r, q1, q2, q, q3, e _ _ q2 q4, e _ _ q3 q5⟩) (fun _ _ => rfl) (fun i hi D Ha hD ea ⟨xs, hDa⟩ Q' k' => ?_) (fun p H2 v hp e2 h2 hv => ?_)
    · walk_at "fv"
      refine ⟨wd, u, l, rows, U, i + 1, rfl, wa.mono ea, hz, by omega, by omega, pl.le (by omega) (by omega), pl.ne (by omega) (by omega), fun v q H2 hv hq e2 h2 h3 => ?_⟩
      exact k' _ _ e2 ⟨v, rfl, (ne_of_none hDa hv).symm, q, (ne_of_none hDa hq).symm, h2, h3⟩
    · obtain ⟨ad, em, had⟩ := pick hv
      rw [em] at h2
      have : ∃ qd : Nat → Addr, ∀ i, i < U.length → H2 (ad i) = some (.tup [nv 0, .ref (qd i)]) ∧ H2 (qd i) = some (.tup [nv (par U (i + 1))]) := by
        classical
        refine ⟨fun i => if h : i < U.length then Classical.choose (had i h).2.2 else 0, fun i hi => ?_⟩
        have z := Classical.choose_spec (had i hi).2.2
        simp only [hi, dif_pos]
        exact z.2
      obtain ⟨qd, hqd⟩ := this
      exact k p ad qd H2 e2 h2 hqd
/-- a tree's verdict; a ring's -/
def TreeV (H : Hp) (v : Addr) (s : List Nat) : Prop := ∃ t, H v = some (.tup [.str "tree", .ref t]) ∧ TupX H t (s.map nv)
theorem TupX.mono {H H' : Hp} {t : Addr} {xs : List V} (h : TupX H t xs) (e : Ex H H') : TupX H' t xs := let ⟨o, a, b⟩ := h; ⟨o, e _ _ a, b⟩
theorem TreeV.mono {H H' : Hp} {v : Addr} {s : List Nat} (h : TreeV H v s) (e : Ex H H') : TreeV H' v s := let ⟨t, a, b⟩ := h; ⟨t, e _ _ a, b.mono e⟩
structure RingU (L : Nat → List Nat) (R U : List Nat) : Prop where
  had : ∀ b, 1 ≤ b → b ≤ U.length → par U b ∈ L b
  at' : ∀ i, i < R.length → par U (ent R i) = ent (rot R) i
structure RingV (cW : Addr) (H : Hp) (v r wd u l : Addr) (rows : Nat → Addr) (R U : List Nat) : Prop where
  tup : H v = some (.tup [.str "ring", .ref r, .ref wd])
  ring : H r = some (.tup (R.map nv))
  words : WordsAt cW H wd u l rows U.length U
theorem RingV.mono {cW : Addr} {H H' : Hp} {v r wd u l : Addr} {rows : Nat → Addr} {R U : List Nat} (h : RingV cW H v r wd u l rows R U) (e : Ex H H') : RingV cW H' v r wd u l rows R U := ⟨e _ _ h.tup, e _ _ h.ring, h.words.mono e⟩
theorem rot_map (R : List Nat) : (R.drop 1).map nv ++ (R.take 1).map nv = (rot R).map nv := by unfold rot; rw [List.map_append]
/-- r[1:] + r[:1] -/
theorem rotted {H : Hp} {Q : VK} {r : Addr} {R : List Nat} (h : H r = some (.tup (R.map nv))) (hn : R.length ≤ 1000) (k : ∀ q H2, Ex H H2 → H2 q = some (.tup ((rot R).map nv)) → Q (.ref q) H2) :
    rSlA K (.ref r) (some 1) none H fun x H1 => rSlA K (.ref r) none (some 1) H1 fun y H2 => rCatA K x y H2 Q := by
  refine r_slA (ys := (R.drop 1).map nv) h (by rw [List.map_drop]; exact cutV_from (R.map nv) 1) fun q1 H1 e1 h1 => ?_
  refine r_slA (ys := (R.take 1).map nv) (e1 _ _ h) (by rw [List.map_take]; exact cutV_to (R.map nv) 1) fun q2 H2 e2 h2 => ?_
  refine r_catA (e2 _ _ h1) h2 (by simp; omega) fun q3 H3 e3 h3 => ?_
  exact k q3 H3 ((e1.trans e2).trans e3) (by rw [h3, rot_map])
theorem dcT_v {J : It} {g : TG} {tk tv : TE} {vs : List Nat} {σ : SS} {H : Hp} {Q : VK} {wi : TI} {U : List Nat} {st : SS → Nat → SS} (hwi : ∀ R : It → Hp → Prop, R J H → wi σ H R) (W : Wlk J g U.length st H) (hn : U.length ≤ 1000) (hw : ∀ i, i < U.length → wipe (st (wipe σ vs) i) vs = wipe σ vs)
    (hk : ∀ i, i < U.length → ∀ Ha, Ex H Ha → ∀ Q' : VK, (∀ q H2, Ex Ha H2 → H2 q = some (.tup [nv (ent U i), .int (kB i)]) → Q' (.ref q) H2) → tk (st (wipe σ vs) i) Ha Q') (hv : ∀ σ' Ha (Q' : VK), Q' (.bl true) Ha → tv σ' Ha Q')
    (k : ∀ p H2, H p = none → Ex H H2 → PairsAt H2 p U → Q (.ref p) H2) : tDcT wi g tYes tk tv vs σ H Q := by
  refine hwi _ ?_
  intro D hD
  let kvs : Nat → List (List Key × V) := fun i => (List.range i).map fun k => ([Sum.inl ((ent U k : Nat) : Int), Sum.inl (kB k)], V.bl true)
  let Pv : Nat → Hp → Prop := fun i H' => Ex H H' ∧ H' D = some (.dT (kvs i))
  refine ⟨fun i m H' => m = U.length - i ∧ i ≤ U.length ∧ Pv i H', ⟨U.length, by simp, Nat.zero_le _, Ex.new hD, upd_same⟩, ?_⟩
  rintro i m H' ⟨rfl, hi, e, hx⟩
  obtain ⟨w1, w2⟩ := W i H' e hi
  by_cases hlt : i < U.length
  · obtain ⟨go, step⟩ := w2 hlt
    refine .inr ⟨go, Pv (i + 1), fun H2 p => ⟨U.length - (i + 1), by omega, rfl, hlt, p⟩, fun x H'' y => step x H'' (wipe σ vs) _ y fun H2 e2 => ⟨hw i hlt, ?_⟩⟩
    refine hk i hlt H2 (e.trans e2) _ fun q H3 e3 h3 => hv _ _ _ ⟨kvs i, [Sum.inl ((ent U i : Nat) : Int), Sum.inl (kB i)], q, rfl, h3, e3 _ _ (e2 _ _ hx), sz_lt (by show (List.map _ _).length < _; rw [List.length_map, List.length_range]; omega), Ex.mut ((e.trans e2).trans e3) hD, ?_⟩
    have hq : putK (kvs i) [Sum.inl ((ent U i : Nat) : Int), Sum.inl (kB i)] (V.bl true) = kvs (i + 1) := by
      show putK ((List.range i).map fun k => (([Sum.inl ((ent U k : Nat) : Int), Sum.inl (kB k)] : List Key), V.bl true)) _ _ = (List.range (i + 1)).map fun k => (([Sum.inl ((ent U k : Nat) : Int), Sum.inl (kB k)] : List Key), V.bl true)
      unfold putK
      rw [if_neg, List.range_succ, List.map_append]
      · rfl
      · simp only [List.any_map, List.any_eq_true, List.mem_range, Function.comp, decide_eq_true_eq, not_exists, not_and, List.cons.injEq, Sum.inl.injEq, and_true]
        intro j hj _ z
        unfold kB at z
        omega
    rw [hq]
    exact upd_same
  · have z : i = U.length := by omega
    subst z
    exact .inl ⟨w1 rfl, k D H' hD e hx⟩
abbrev spVerdict (cT cW cH : Addr) : Sp := fun vs H Q _ => ∃ (hs h m : Addr) (hg : List Nat) (M : List (Nat × Nat)), vs = [.ref hs] ∧ HistAt cT cH H hs h m hg M ∧ 1 ≤ hg.length ∧ hg.length ≤ 40 ∧ Tr hg ∧ Vm hg M ∧
  (∀ s, Ord (hadL hg M) hg.length s → s.length = hg.length + 1 → ∀ v H2, Ex H H2 → TreeV H2 v s → Q (.ref v) H2) ∧
  (∀ s, Ord (hadL hg M) hg.length s → Closed (hadL hg M) hg.length s → s.length ≠ hg.length + 1 → ∀ v r wd u l rows R U H2, Ex H H2 → U.length = hg.length → Ring hg.length (hadL hg M) R → RingU (hadL hg M) R U → RingV cW H2 v r wd u l rows R U → Q (.ref v) H2)
abbrev s_verdict : Stmt := top 37
theorem sc_verdict : FnScope ["history", "told", "order", "ring", "hung", "block", "place", "number"] ["history"] (C8.fnScope s_verdict) := C8.fnScope_by (by decide +kernel)
theorem k_verdict (F : Df K mg "verdict" s_verdict ["history"]) (T : Txt K mg cT cW cH) (c_had : Cal P w K mg base 2 "had" (spHad cT cH) []) (c_order_of : Cal P w K mg base 1 "order_of" spOrder []) (c_ring_of : Cal P w K mg base 1 "ring_of" spRing []) (c_with_place : Cal P w K mg base 1 "with_place" spWith [])
    (c_words_from : Cal P w K mg base 6 "words_from" (spWordsFrom cW) []) : Cal P w K mg base 7 "verdict" (spVerdict cT cW cH) [] := by
  refine cal_of F sc_verdict (fun vs H Q E h => ?_) (fun f cdv A outer sh H vs Q E hr h => ?_)
  · obtain ⟨hs, h, m, hg, M, rfl, _⟩ := h; rfl
  · obtain ⟨hs, h, m, hg, M, rfl, hist, n1, hz, tr, v, kt, kr⟩ := h
    obtain ⟨⟨t, ⟨dx, hi⟩, ⟨dt, ti⟩⟩, hh, hm⟩ := id hist
    have nd := sc_verdict.nd
    have hu := hu_of hr
    have lots := had_lots tr v
    refine ⟨_, (pss_cons (ps_set (i := 1) nd rfl (Or.inl rfl) (C8.pe_c c_had hr (by decide) rfl (pa_cons (pv 0) pa_nil)))
        (pss_cons (ps_set (i := 2) nd rfl (Or.inl rfl) (C8.pe_c c_order_of hr (by decide) rfl (pa_cons (pv 1) pa_nil)))
        (pss_cons (ps_if (pt_cmpR op_eq (pe_callB (show CallR _ _ (rLenS K) from c_len) (by rfl) T.z_len (by decide +kernel) (pa_cons (pv 2) pa_nil)) (pe_op op_add (pe_callB c_lenD (by rfl) T.z_len (by decide +kernel) (pa_cons (pv 1) pa_nil)) pe_int) (nomark _))
          (pss_one (ps_ret (pe_tup (pa_cons pe_str (pa_cons (pe_callTy (show CallR _ _ (rTupF K) from call_tupleF) (by rfl) T.z_tuple (by decide +kernel) (pa_cons (pv 2) pa_nil)) pa_nil)))))
          pss_nil)
        (pss_cons (ps_set (i := 3) nd rfl (Or.inl rfl) (C8.pe_c c_ring_of hr (by decide) rfl (pa_cons (pv 1) (pa_cons (pv 2) pa_nil))))
        (pss_cons (ps_set (i := 4) nd rfl (Or.inl rfl) (show PE _ _ (tFld K _ _) from pe_fld (show PE _ _ (tFld K _ _) from pe_fld (pv 0) rfl) rfl))
        (pss_cons (ps_for PassesOwn.never rfl (show PI _ _ _ (RZ.iZipA K _) from RZ.pi_zipA (by rfl) T.z_zip (pa_cons (pv 3) (pa_cons (pe_op (show OpR _ _ (rCatA K) from op_catA) (pe_slice (show SlR _ (rSlA K) from sl_tupA) (pv 3) (po_some pe_int) po_none) (pe_slice (show SlR _ (rSlA K) from sl_tupA) (pv 3) po_none (po_some pe_int))) pa_nil))) (show PG _ _ (gTup K 2 _) from pg_tup rfl (pgs_cons (pg_name (i := 5) nd rfl (Or.inl rfl)) (pgs_cons (pg_name (i := 6) nd rfl (Or.inl rfl)) pgs_nil)))
          (pss_one (ps_set (i := 4) nd rfl (Or.inl rfl) (C8.pe_c c_with_place hr (by decide) rfl (pa_cons (pv 4) (pa_cons (pv 5) (pa_cons (pv 6) pa_nil)))))))
        (pss_one (ps_ret (pe_tup (pa_cons pe_str (pa_cons (pv 3) (pa_cons (C8.pe_c c_words_from hr (by decide) rfl (pa_cons (pv 4) (pa_cons (pe_dcT hu (own := [("number", 7), ("place", 6)]) rfl nd (show PI _ _ _ (iEnumT K _) from pi_enumT (by rfl) T.z_enumerate (pa_cons (pv 4) pa_nil)) (blkOk_by (own := [("number", 7), ("place", 6)]) (N := ["history", "told", "order", "ring", "hung", "block", "place", "number"]) (sc := (C8.fnScope s_verdict)) (by decide +kernel)) (fun _ _ _ _ _ => (show PG _ _ (gTup K 2 _) from pg_tup rfl (pgs_cons (pg_name (i := 7) nd rfl (Or.inl rfl)) (pgs_cons (pg_name (i := 6) nd rfl (Or.inl rfl)) pgs_nil)))) (fun _ _ _ _ _ => pts_nil) (fun _ _ _ _ _ => (pe_tup (pa_cons (pv 6) (pa_cons (pe_op op_add (pv 7) pe_int) pa_nil)))) (fun _ _ _ _ _ => pe_bl)) pa_nil))) pa_nil)))))))))))), ?_⟩
    walk_at "fv"
    refine ⟨hs, h, m, hg, M, rfl, hist, hz, tr, v, fun d o ad H1 e1 had => ?_⟩
    walk_at "fv"
    refine ⟨d, o, ad, hg.length, hadL hg M, rfl, had, hz, fun b b1 b2 => by have := lots_len lots b1 b2; omega, fun s os cs oq H2 hoq e2 h2 => ?_⟩
    walk_at "fv"
    refine l_lenL (SqL.of h2) s.length (by simp) ?_
    walk_at "fv"
    refine l_lenD (had.mono e2).rd hg.length (by simp) ?_
    walk_at "fv"
    by_cases hn : s.length = hg.length + 1
    · refine ite_t (dI (by omega)) ?_
      walk_at "fv"
      refine l_tupF (SqL.of h2) fun tq H3 htq e3 h3 => ?_
      walk_at "fv"
      refine l_tup (by simp) fun vq H4 hvq e4 h4 => ?_
      exact kt s os hn vq H4 (((e1.trans e2).trans e3).trans e4) ⟨tq, h4, h3.mono e4⟩
    · refine ite_f (dN (by omega)) ?_
      walk_at "fv"
      refine ⟨d, oq, o, ad, hg.length, hadL hg M, s, rfl, had.mono e2, h2, hz, lots, os, cs, hn, fun R ring rq H3 e3 h3 => ?_⟩
      walk_at "fv"
      have e := (e1.trans e2).trans e3
      refine r_fld (e _ _ hi) T.h_cl T.h_tree (hF_tree _ _) ?_
      walk_at "fv"
      refine r_fld (e _ _ ti) T.t_cl T.t_hung rfl ?_
      walk_at "fv"
      have rl : R.length ≤ hg.length := pigeon_lt ring.nd ring.inn
      refine r_slA (ys := (R.drop 1).map nv) h3 (by rw [List.map_drop]; exact cutV_from (R.map nv) 1) fun q1 H4 e4 h4 => ?_
      walk_at "fv"
      refine r_slA (ys := (R.take 1).map nv) (e4 _ _ h3) (by rw [List.map_take]; exact cutV_to (R.map nv) 1) fun q2 H5 e5 h5 => ?_
      refine r_catA (e5 _ _ h4) h5 (by simp; omega) fun q3 H6 e6 h6 => ?_
      rw [rot_map] at h6
      walk_at "fv"
      have h36 : H6 rq = some (.tup (R.map nv)) := e6 _ _ (e5 _ _ (e4 _ _ h3))
      have e06 := ((e.trans e4).trans e5).trans e6
      refine l_zipT (SqT.of h36) (SqT.of h6) ?_
      refine for_w (H0 := H6) (fun i σ' H' => Ex H6 H' ∧ ∃ a v5 v6, σ' = [some (.ref hs), some (.ref d), some (.ref oq), some (.ref rq), some (.ref a), v5, v6, none] ∧ H' a = some (.tup ((ringU hg R i).map nv)))
        (wk_zipN h36 h6 (rot_len ring.ne).symm) (fun _ _ _ _ p => p.1) ⟨Ex.refl _, h, _, _, rfl, e06 _ _ hh⟩ ?_ ?_
      · rintro i σ' H' hi' ⟨e7, a, v5, v6, rfl, ha⟩ H8 e8
        have ri := ring.inn _ (ent_mem hi')
        walk_at "fv"
        refine ⟨a, ringU hg R i, ent R i, ent (rot R) i, rfl, e8 _ _ ha, by rw [ringU_len]; omega, ri.1, by rw [ringU_len]; exact ri.2, fun q H9 e9 h9 => ?_⟩
        walk_at "fv"
        exact ⟨(e7.trans e8).trans e9, q, _, _, rfl, h9⟩
      · rintro σ' H' ⟨e7, a, v5, v6, rfl, ha⟩
        have ul : (ringU hg R R.length).length = hg.length := ringU_len _ _ _
        have hadU : ∀ b, 1 ≤ b → b ≤ hg.length → par (ringU hg R R.length) b ∈ hadL hg M b := ringU_had rfl (fun b b1 b2 => (mem_hadL tr v b1 b2).mpr (.inl rfl)) ring R.length (Nat.le_refl _)
        have atU := ringU_at rfl ring R.length (Nat.le_refl _)
        have plU := pl_of lots ul hadU
        generalize ringU hg R R.length = U at ha ul hadU atU plU
        walk_at "fv"
        refine dcT_v (U := U) (J := IteT K a) (st := fun σ i => (σ.set 7 (some (nv i))).set 6 (some (nv (ent U i)))) (fun R' hR => ?_) (wk_enumTN ha) (by omega) (fun _ _ => rfl) (fun i hi' Ha ea Q' k' => ?_) (fun σ' Ha Q' k' => k') (fun pq H8 hpq e8 h8 => ?_)
        · walk_at "fv"
          exact l_enT (SqT.of ha) hR
        · walk_at "fv"
          rw [show ((i : Nat) : Int) + 1 = kB i by unfold kB; omega]
          exact l_tup (by simp) fun q H9 hq e9 h9 => k' q H9 e9 h9
        · walk_at "fv"
          refine ⟨a, pq, U, rfl, e8 _ _ ha, h8, by omega, by omega, plU, fun wd l rows H9 e9 wa => ?_⟩
          walk_at "fv"
          refine l_tup (by simp) fun vq H10 hvq e10 h10 => ?_
          have e6' := ((e7.trans e8).trans e9).trans e10
          refine kr s os cs hn vq rq wd a l rows R U H10 (e06.trans e6') ul ring ⟨fun b b1 b2 => hadU b b1 (by omega), atU⟩ ⟨h10, e6' _ _ h36, wa.mono e10⟩
end
end FV
namespace FV
open PySem PySem.Spec PyProof.Rows L2 Evl
open C8 (Cal Mak Def InsC)
theorem s_rt : ¬ (("ring" : Str) = "tree") := by decide +kernel
theorem s_tr : ¬ (("tree" : Str) = "ring") := by decide +kernel
theorem dS (a : Str) : decide (V.str a = V.str a) = true := decide_eq_true rfl
theorem dSn {a b : Str} (h : ¬ a = b) : decide (V.str a = V.str b) = false := decide_eq_false fun z => h (by injection z)
section
variable {P : Program} {w : World} {K : PySem.W.Frag} {mg : Str → Option Value} {base : Heap} {cT cW cH : Addr}
abbrev spIsOrder : Sp := fun vs H Q _ => ∃ (d t : Addr) (o : Obj) (ad : Nat → Addr) (n : Nat) (L : Nat → List Nat) (s : List Nat), vs = [.ref d, .ref t] ∧ HadAt H d o ad n L ∧ TupX H t (s.map nv) ∧ n ≤ 40 ∧ Lots n L ∧ Ord L n s ∧ s.length = n + 1 ∧ RetV (.bl true) H Q
abbrev s_is_order : Stmt := top 38
theorem sc_is_order : FnScope ["told", "thing", "block", "place", "item"] ["told", "thing"] (C8.fnScope s_is_order) := C8.fnScope_by (by decide +kernel)
theorem k_is_order (F : Df K mg "is_order" s_is_order ["told", "thing"]) (T : Txt K mg cT cW cH) (c_is_within : Cal P w K mg base 2 "is_within" spIsWithin []) : Cal P w K mg base 3 "is_order" spIsOrder [] := by
  refine cal_of F sc_is_order (fun vs H Q E h => ?_) (fun f cdv A outer sh H vs Q E hr h => ?_)
  · obtain ⟨d, t, o, ad, n, L, s, rfl, _⟩ := h; rfl
  · obtain ⟨d, t, o, ad, n, L, s, rfl, had, ht, hz, lo, os, sn, k⟩ := h
    have nd := sc_is_order.nd
    have hu := hu_of hr
    refine ⟨_, (pss_cons (ps_if (PW.pt (pw_or (pt_not (pt_val (pe_callB (show CallR _ _ (rIsi K) from call_isi) (by rfl) T.z_isinstance (by decide +kernel) (pa_cons (pv 1) (pa_cons (pe_bltn (v := .ty "tuple") (by rfl) T.z_tuple (by decide +kernel) rfl) pa_nil))))) (pw_or1 (pt_not (pt_val (pe_callB (show CallR _ _ (rAll K) from (cr_all rfl)) (by rfl) T.z_all (by decide +kernel) (pa_cons (pe_lc (own := [("item", 4)]) rfl nd (show PI _ _ _ (iTup K _) from pi_tup (pv 1)) (blkOk_by (own := [("item", 4)]) (N := ["told", "thing", "block", "place", "item"]) (sc := (C8.fnScope s_is_order)) (by decide +kernel)) (fun _ _ _ _ _ => (pg_name (i := 4) nd rfl (Or.inl rfl))) (fun _ _ _ _ _ => pts_nil) (fun _ _ _ _ _ => (C8.pe_c c_is_within hr (by decide) rfl (pa_cons (pv 4) (pa_cons pe_int (pa_cons (pe_callB c_lenD (by rfl) T.z_len (by decide +kernel) (pa_cons (pv 0) pa_nil)) pa_nil)))))) pa_nil)))))))
          (pss_one (ps_ret pe_bl))
          pss_nil)
        (pss_cons (ps_if (pt_cmpR (show OpR _ _ (rNeD K) from (op_neD hr.units)) (pe_callB (show CallR _ _ (rSortTu K) from cr_sortedTu) (by rfl) T.z_sorted (by decide +kernel) (pa_cons (pv 1) pa_nil)) (pe_listRg rfl rfl T.z_list (prg_1 rfl T.z_range (pe_op op_add (pe_callB c_lenD (by rfl) T.z_len (by decide +kernel) (pa_cons (pv 0) pa_nil)) pe_int))) (nomark _))
          (pss_one (ps_ret pe_bl))
          pss_nil)
        (pss_one (ps_ret (pe_callB (show CallR _ _ (rAll K) from (cr_all rfl)) (by rfl) T.z_all (by decide +kernel) (pa_cons (pe_lc2 (own := [("block", 2), ("place", 3)]) (vs1 := [3]) rfl nd (pi_keys (pv 0)) (blkOk_by (own := [("block", 2), ("place", 3)]) (N := ["told", "thing", "block", "place", "item"]) (sc := (C8.fnScope s_is_order)) (by decide +kernel)) (by decide) (fun _ _ _ _ _ => (pg_name (i := 2) nd rfl (Or.inl rfl))) (fun _ _ _ _ _ => pts_nil) (fun _ _ _ _ _ => (show PI _ _ _ (iTup K _) from pi_tup (pe_dget hu (pv 0) (pv 2) (fun _ _ => rfl)))) (fun _ _ _ _ _ => (pg_name (i := 3) nd rfl (Or.inl rfl))) (fun _ _ _ _ _ => pts_nil) (fun _ _ _ _ _ => (pe_cmpR op_lt (pe_bmF PySem.F.plainAttrs_tuple PySem.F.slot_tuple_index PySem.F.type_tuple_index (show MtR _ _ (rTupIx K) from mt_tupIx) (pv 1) (pa_cons (pv 3) pa_nil)) (pe_bmF PySem.F.plainAttrs_tuple PySem.F.slot_tuple_index PySem.F.type_tuple_index (show MtR _ _ (rTupIx K) from mt_tupIx) (pv 1) (pa_cons (pv 2) pa_nil)) (nomark _)))) pa_nil)))))), ?_⟩
    walk_at "fv"
    refine r_isi_tupF ht ?_
    walk_at "fv"
    refine ite_f rfl ?_
    walk_at "fv"
    refine seqT_and ht.seq ?_
    refine lc_y (wk_tupS ht.seq) (by omega) (fun _ => V.bl true) (fun _ _ => rfl) (fun i hi H1 e1 Q1 k1 => ?_) (fun q H1 hq e1 h1 => ?_)
    · walk_at "fv"
      refine l_lenD (had.mono e1).rd n (by simp) ?_
      walk_at "fv"
      have := os.le _ (ent_mem hi)
      exact ⟨_, _, _, rfl, by omega, by omega, k1⟩
    · walk_at "fv"
      refine l_allT (SqL.of h1) (fun x hx => mem_true hx) ?_
      walk_at "fv"
      refine ite_f rfl ?_
      walk_at "fv"
      have ht1 := ht.mono e1
      have had1 := had.mono e1
      refine l_sortedT (l := s) ht1.seq (by omega) fun l' q2 H2 pm pw hq2 e2 h2 => ?_
      walk_at "fv"
      refine l_lenD (had1.mono e2).rd n (by simp) ?_
      walk_at "fv"
      refine l_rg0 (n + 1) (by omega) (by omega) fun q3 H3 hq3 e3 h3 => ?_
      have el : l' = List.range (n + 1) := asc_of pm pw os.nd List.pairwise_lt_range fun x => ⟨fun hx => List.mem_range.mpr (Nat.lt_succ_of_le (os.le x hx)), fun hx => pigeon_all os.nd sn os.le x (Nat.le_of_lt_succ (List.mem_range.mp hx))⟩
      refine l_neL (SqL.of (e3 _ _ h2)) (SqL.of h3) ?_
      walk_at "fv"
      refine ite_f (by rw [decide_eq_true el]; rfl) ?_
      walk_at "fv"
      have ht3 := ht1.mono (e2.trans e3)
      have had3 := had1.mono (e2.trans e3)
      refine l_keys had3.1 ?_
      refine lc2_t (wk_keys (v := fun i => V.ref (ad i)) had3.1) (by omega) (fun _ _ => rfl) (fun i hi => ⟨Itt K (ad i), (L (i + 1)).length, fun σ j => σ.set 3 (some (nv (ent (L (i + 1)) j))), by have := lots_len lo (show 1 ≤ i + 1 by omega) (show i + 1 ≤ n by omega); omega, wk_tupN (had3.2 i hi), fun j hj => ⟨rfl, fun H4 e4 Q4 k4 => ?_⟩, fun Ha ea R hR => ?_⟩) (fun p H4 xs hp e4 h4 hx => ?_)
      · have ht4 := ht3.mono e4
        walk_at "fv"
        refine l_bmF ht4 ?_
        walk_at "fv"
        have bm : i + 1 ∈ s := pigeon_all os.nd sn os.le _ (by omega)
        obtain ⟨ib, ib1, ib2⟩ := mem_ent bm
        obtain ⟨ip, ip1, ip2⟩ := os.bef ib ib1 (by omega) (ent (L (i + 1)) j) (by rw [ib2]; exact ent_mem hj)
        refine l_indexT ht4.seq os.nd (by omega) ip2 ?_
        walk_at "fv"
        refine l_bmF ht4 ?_
        walk_at "fv"
        refine l_indexT (x := i + 1) ht4.seq os.nd ib1 ib2 ?_
        walk_at "fv"
        rw [decide_eq_true (by omega)]
        exact k4 _ (Ex.refl _)
      · walk_at "fv"
        have g := (had3.mono ea).get (b := i + 1) (by omega) (by omega)
        refine l_dget g.1 ?_
        walk_at "fv"
        exact seqT_and (SqT.of g.2) hR
      · walk_at "fv"
        refine l_allT (SqL.of h4) hx ?_
        exact k _ (((e1.trans e2).trans e3).trans e4)
abbrev spIsRing : Sp := fun vs H Q _ => ∃ (d t : Addr) (o : Obj) (ad : Nat → Addr) (n : Nat) (L : Nat → List Nat) (R : List Nat), vs = [.ref d, .ref t] ∧ HadAt H d o ad n L ∧ H t = some (.tup (R.map nv)) ∧ n ≤ 40 ∧ Ring n L R ∧ RetV (.bl true) H Q
abbrev s_is_ring : Stmt := top 39
theorem sc_is_ring : FnScope ["told", "thing", "block", "place", "item"] ["told", "thing"] (C8.fnScope s_is_ring) := C8.fnScope_by (by decide +kernel)
theorem k_is_ring (F : Df K mg "is_ring" s_is_ring ["told", "thing"]) (T : Txt K mg cT cW cH) (c_is_within : Cal P w K mg base 2 "is_within" spIsWithin []) : Cal P w K mg base 3 "is_ring" spIsRing [] := by
  refine cal_of F sc_is_ring (fun vs H Q E h => ?_) (fun f cdv A outer sh H vs Q E hr h => ?_)
  · obtain ⟨d, t, o, ad, n, L, R, rfl, _⟩ := h; rfl
  · obtain ⟨d, t, o, ad, n, L, R, rfl, had, ht, hz, ring, k⟩ := h
    have nd := sc_is_ring.nd
    have hu := hu_of hr
    have rl : R.length ≤ n := pigeon_lt ring.nd ring.inn
    have rp := List.length_pos_iff.mpr ring.ne
    refine ⟨_, (pss_cons (ps_if (PW.pt (pw_or (pt_not (pt_val (pe_callB (show CallR _ _ (rIsi K) from call_isi) (by rfl) T.z_isinstance (by decide +kernel) (pa_cons (pv 1) (pa_cons (pe_bltn (v := .ty "tuple") (by rfl) T.z_tuple (by decide +kernel) rfl) pa_nil))))) (pw_or1 (pt_not (pt_val (pe_callB (show CallR _ _ (rAll K) from (cr_all rfl)) (by rfl) T.z_all (by decide +kernel) (pa_cons (pe_lc (own := [("item", 4)]) rfl nd (show PI _ _ _ (iTup K _) from pi_tup (pv 1)) (blkOk_by (own := [("item", 4)]) (N := ["told", "thing", "block", "place", "item"]) (sc := (C8.fnScope s_is_ring)) (by decide +kernel)) (fun _ _ _ _ _ => (pg_name (i := 4) nd rfl (Or.inl rfl))) (fun _ _ _ _ _ => pts_nil) (fun _ _ _ _ _ => (C8.pe_c c_is_within hr (by decide) rfl (pa_cons (pv 4) (pa_cons pe_int (pa_cons (pe_callB c_lenD (by rfl) T.z_len (by decide +kernel) (pa_cons (pv 0) pa_nil)) pa_nil)))))) pa_nil)))))))
          (pss_one (ps_ret pe_bl))
          pss_nil)
        (pss_cons (ps_if (PW.pt (pw_or (pt_cmpR op_eq (pe_callB (show CallR _ _ (rLenS K) from c_len) (by rfl) T.z_len (by decide +kernel) (pa_cons (pv 1) pa_nil)) pe_int (nomark _)) (pw_or1 (pt_cmpR op_lt (pe_callB c_lenD (by rfl) T.z_len (by decide +kernel) (pa_cons (pe_dc (own := [("block", 2)]) rfl nd (show PI _ _ _ (iTup K _) from pi_tup (pv 1)) (blkOk_by (own := [("block", 2)]) (N := ["told", "thing", "block", "place", "item"]) (sc := (C8.fnScope s_is_ring)) (by decide +kernel)) (fun _ _ _ _ _ => (pg_name (i := 2) nd rfl (Or.inl rfl))) (fun _ _ _ _ _ => pts_nil) (fun _ _ _ _ _ => (pv 2)) (fun _ _ _ _ _ => pe_bl)) pa_nil)) (pe_callB (show CallR _ _ (rLenS K) from c_len) (by rfl) T.z_len (by decide +kernel) (pa_cons (pv 1) pa_nil)) (nomark _)))))
          (pss_one (ps_ret pe_bl))
          pss_nil)
        (pss_one (ps_ret (pe_callB (show CallR _ _ (rAll K) from (cr_all rfl)) (by rfl) T.z_all (by decide +kernel) (pa_cons (pe_lc (own := [("block", 2), ("place", 3)]) rfl nd (show PI _ _ _ (RZ.iZipA K _) from RZ.pi_zipA (by rfl) T.z_zip (pa_cons (pv 1) (pa_cons (pe_op (show OpR _ _ (rCatA K) from op_catA) (pe_slice (show SlR _ (rSlA K) from sl_tupA) (pv 1) (po_some pe_int) po_none) (pe_slice (show SlR _ (rSlA K) from sl_tupA) (pv 1) po_none (po_some pe_int))) pa_nil))) (blkOk_by (own := [("block", 2), ("place", 3)]) (N := ["told", "thing", "block", "place", "item"]) (sc := (C8.fnScope s_is_ring)) (by decide +kernel)) (fun _ _ _ _ _ => (show PG _ _ (gTup K 2 _) from pg_tup rfl (pgs_cons (pg_name (i := 2) nd rfl (Or.inl rfl)) (pgs_cons (pg_name (i := 3) nd rfl (Or.inl rfl)) pgs_nil)))) (fun _ _ _ _ _ => pts_nil) (fun _ _ _ _ _ => (pe_cmpR (show OpR _ _ (rIn K false) from op_in_seq) (pv 3) (pe_dget hu (pv 0) (pv 2) (fun _ _ => rfl)) (by rfl)))) pa_nil)))))), ?_⟩
    walk_at "fv"
    refine r_isi_tup ht ?_
    walk_at "fv"
    refine ite_f rfl ?_
    walk_at "fv"
    refine lc_y (wk_tupN ht) (by omega) (fun _ => V.bl true) (fun _ _ => rfl) (fun i hi H1 e1 Q1 k1 => ?_) (fun q H1 hq e1 h1 => ?_)
    · walk_at "fv"
      refine l_lenD (had.mono e1).rd n (by simp) ?_
      walk_at "fv"
      have := ring.inn _ (ent_mem hi)
      exact ⟨_, _, _, rfl, by omega, by omega, k1⟩
    · walk_at "fv"
      refine l_allT (SqL.of h1) (fun x hx => mem_true hx) ?_
      walk_at "fv"
      refine ite_f rfl ?_
      walk_at "fv"
      have ht1 := e1 _ _ ht
      have had1 := had.mono e1
      refine l_lenT (SqT.of ht1) R.length (by simp) ?_
      walk_at "fv"
      refine ite_f (dN (by omega)) ?_
      walk_at "fv"
      refine dc_r (wk_tupN ht1) (by omega) (fun i => ((ent R i : Nat) : Int)) (fun i j hij hj z => by have := ent_inj ring.nd (by omega) hj (show ent R i = ent R j by omega); omega) (fun _ _ v _ => v = .bl true) (fun _ _ _ => True) (fun _ _ _ _ _ _ h => h) (fun _ _ => rfl) (fun i hi H2 e2 Q2 k2 => ?_) (fun i hi D Ha hD ea _ Q' k' => ?_) (fun p H2 v hp e2 h2 hv _ => ?_)
      · walk_at "fv"
        exact k2 _ (Ex.refl _)
      · walk_at "fv"
        exact k' _ _ (Ex.refl _) rfl True.intro
      · walk_at "fv"
        refine l_lenD (rd_of h2) R.length (by simp) ?_
        walk_at "fv"
        have ht2 := e2 _ _ ht1
        have had2 := had1.mono e2
        refine l_lenT (SqT.of ht2) R.length (by simp) ?_
        walk_at "fv"
        refine ite_f (decide_eq_false (by omega)) ?_
        walk_at "fv"
        refine r_slA (ys := (R.drop 1).map nv) ht2 (by rw [List.map_drop]; exact cutV_from (R.map nv) 1) fun q1 H4 e4 h4 => ?_
        walk_at "fv"
        refine r_slA (ys := (R.take 1).map nv) (e4 _ _ ht2) (by rw [List.map_take]; exact cutV_to (R.map nv) 1) fun q2 H5 e5 h5 => ?_
        refine r_catA (e5 _ _ h4) h5 (by simp; omega) fun q3 H6 e6 h6 => ?_
        rw [rot_map] at h6
        walk_at "fv"
        have ht6 := e6 _ _ (e5 _ _ (e4 _ _ ht2))
        have had6 := had2.mono ((e4.trans e5).trans e6)
        refine l_zipT (SqT.of ht6) (SqT.of h6) ?_
        refine lc_y (wk_zipN ht6 h6 (rot_len ring.ne).symm) (by omega) (fun _ => V.bl true) (fun _ _ => rfl) (fun i hi H7 e7 Q7 k7 => ?_) (fun q H7 hq e7 h7 => ?_)
        · walk_at "fv"
          have ri := ring.inn _ (ent_mem hi)
          have g := (had6.mono e7).get ri.1 ri.2
          refine l_dget g.1 ?_
          refine r_inNT g.2 ?_
          rw [decide_eq_true (ring.had i hi)]
          exact k7 _ (Ex.refl _)
        · walk_at "fv"
          refine l_allT (SqL.of h7) (fun x hx => mem_true hx) ?_
          exact k _ (((((e1.trans e2).trans e4).trans e5).trans e6).trans e7)
abbrev spIsVerdict (cT cW cH : Addr) : Sp := fun vs H Q _ => ∃ (hs h m v : Addr) (hg : List Nat) (M : List (Nat × Nat)), vs = [.ref hs, .ref v] ∧ HistAt cT cH H hs h m hg M ∧ 1 ≤ hg.length ∧ hg.length ≤ 40 ∧ Tr hg ∧ Vm hg M ∧
  ((∃ s, Ord (hadL hg M) hg.length s ∧ s.length = hg.length + 1 ∧ TreeV H v s) ∨ ∃ r wd u l rows R U, U.length = hg.length ∧ Ring hg.length (hadL hg M) R ∧ RingU (hadL hg M) R U ∧ RingV cW H v r wd u l rows R U) ∧ RetV (.bl true) H Q
abbrev s_is_verdict : Stmt := top 40
theorem sc_is_verdict : FnScope ["history", "thing", "told", "ring", "words", "block", "place"] ["history", "thing"] (C8.fnScope s_is_verdict) := C8.fnScope_by (by decide +kernel)
theorem k_is_verdict (F : Df K mg "is_verdict" s_is_verdict ["history", "thing"]) (T : Txt K mg cT cW cH) (c_had : Cal P w K mg base 2 "had" (spHad cT cH) []) (c_is_order : Cal P w K mg base 3 "is_order" spIsOrder []) (c_is_ring : Cal P w K mg base 3 "is_ring" spIsRing [])
    (c_can_stand : Cal P w K mg base 3 "can_stand" (spStand cT cW cH) []) (c_raw_vote : Cal P w K mg base 2 "raw_vote" (spVote cW) []) : Cal P w K mg base 4 "is_verdict" (spIsVerdict cT cW cH) [] := by
  refine cal_of F sc_is_verdict (fun vs H Q E h => ?_) (fun f cdv A outer sh H vs Q E hr h => ?_)
  · obtain ⟨hs, h, m, v, hg, M, rfl, _⟩ := h; rfl
  · obtain ⟨hs, h, m, v, hg, M, rfl, hist, n1, hz, tr, vm, hv, k⟩ := h
    have nd := sc_is_verdict.nd
    have lots := had_lots tr vm
    refine ⟨_, (pss_cons (ps_if (PW.pt (pw_or (pt_not (pt_val (pe_callB (show CallR _ _ (rIsi K) from call_isi) (by rfl) T.z_isinstance (by decide +kernel) (pa_cons (pv 1) (pa_cons (pe_bltn (v := .ty "tuple") (by rfl) T.z_tuple (by decide +kernel) rfl) pa_nil))))) (pw_or (pt_cmpR op_eq (pe_callB (show CallR _ _ (rLenS K) from c_len) (by rfl) T.z_len (by decide +kernel) (pa_cons (pv 1) pa_nil)) pe_int (nomark _)) (pw_or1 (pt_not (pt_val (pe_callB (show CallR _ _ (rIsi K) from call_isi) (by rfl) T.z_isinstance (by decide +kernel) (pa_cons (pe_ix (show IxR _ (rIxT K) from ix_tup) (pv 1) pe_int (fun _ _ => rfl)) (pa_cons (pe_bltn (v := .ty "str") (by rfl) T.z_str (by decide +kernel) rfl) pa_nil)))))))))
          (pss_one (ps_ret pe_bl))
          pss_nil)
        (pss_cons (ps_set (i := 2) nd rfl (Or.inl rfl) (C8.pe_c c_had hr (by decide) rfl (pa_cons (pv 0) pa_nil)))
        (pss_cons (ps_if (pt_cmpR op_eq (pe_ix (show IxR _ (rIxT K) from ix_tup) (pv 1) pe_int (fun _ _ => rfl)) pe_str (nomark _))
          (pss_one (ps_ret (pe_and (pe_cmpR op_eq (pe_callB (show CallR _ _ (rLenS K) from c_len) (by rfl) T.z_len (by decide +kernel) (pa_cons (pv 1) pa_nil)) pe_int (nomark _)) (pe_one (C8.pe_c c_is_order hr (by decide) rfl (pa_cons (pv 2) (pa_cons (pe_ix (show IxR _ (rIxT K) from ix_tup) (pv 1) pe_int (fun _ _ => rfl)) pa_nil)))))))
          pss_nil)
        (pss_cons (ps_if (PW.pt (pw_or (pt_cmpR op_ne (pe_ix (show IxR _ (rIxT K) from ix_tup) (pv 1) pe_int (fun _ _ => rfl)) pe_str (nomark _)) (pw_or (pt_cmpR op_ne (pe_callB (show CallR _ _ (rLenS K) from c_len) (by rfl) T.z_len (by decide +kernel) (pa_cons (pv 1) pa_nil)) pe_int (nomark _)) (pw_or (pt_not (pt_val (C8.pe_c c_is_ring hr (by decide) rfl (pa_cons (pv 2) (pa_cons (pe_ix (show IxR _ (rIxT K) from ix_tup) (pv 1) pe_int (fun _ _ => rfl)) pa_nil))))) (pw_or1 (pt_not (pt_val (pe_callB (C8.call_isC T.i_Words) (by rfl) T.z_isinstance (by decide +kernel) (pa_cons (pe_ix (show IxR _ (rIxT K) from ix_tup) (pv 1) pe_int (fun _ _ => rfl)) (pa_cons (C8.pe_gc rfl T.m_Words) pa_nil))))))))))
          (pss_one (ps_ret pe_bl))
          pss_nil)
        (pss_cons (ps_asg (pe_slice (show SlR _ (rSlA K) from sl_tupA) (pv 1) (po_some pe_int) po_none) (show PG _ _ (gTup K 2 _) from pg_tup rfl (pgs_cons (pg_name (i := 3) nd rfl (Or.inl rfl)) (pgs_cons (pg_name (i := 4) nd rfl (Or.inr rfl)) pgs_nil))))
        (pss_cons (ps_if (PW.pt (pw_or (pt_cmpR op_ne (show PE _ _ (tFld K _ _) from pe_fld (pv 4) rfl) (pe_callB c_lenD (by rfl) T.z_len (by decide +kernel) (pa_cons (pv 2) pa_nil)) (nomark _)) (pw_or1 (pt_not (pt_val (C8.pe_c c_can_stand hr (by decide) rfl (pa_cons (pv 0) (pa_cons (pv 4) pa_nil))))))))
          (pss_one (ps_ret pe_bl))
          pss_nil)
        (pss_one (ps_ret (pe_callB (show CallR _ _ (rAll K) from (cr_all rfl)) (by rfl) T.z_all (by decide +kernel) (pa_cons (pe_lc (own := [("block", 5), ("place", 6)]) rfl nd (show PI _ _ _ (RZ.iZipA K _) from RZ.pi_zipA (by rfl) T.z_zip (pa_cons (pv 3) (pa_cons (pe_op (show OpR _ _ (rCatA K) from op_catA) (pe_slice (show SlR _ (rSlA K) from sl_tupA) (pv 3) (po_some pe_int) po_none) (pe_slice (show SlR _ (rSlA K) from sl_tupA) (pv 3) po_none (po_some pe_int))) pa_nil))) (blkOk_by (own := [("block", 5), ("place", 6)]) (N := ["history", "thing", "told", "ring", "words", "block", "place"]) (sc := (C8.fnScope s_is_verdict)) (by decide +kernel)) (fun _ _ _ _ _ => (show PG _ _ (gTup K 2 _) from pg_tup rfl (pgs_cons (pg_name (i := 5) nd rfl (Or.inl rfl)) (pgs_cons (pg_name (i := 6) nd rfl (Or.inl rfl)) pgs_nil)))) (fun _ _ _ _ _ => pts_nil) (fun _ _ _ _ _ => (pe_cmpR (show OpR _ _ (rEqD K) from (op_eqD hr.units)) (pe_ix (show IxR _ (rIxT K) from ix_tup) (C8.pe_c c_raw_vote hr (by decide) rfl (pa_cons (pv 4) (pa_cons (pv 5) pa_nil))) pe_int (fun _ _ => rfl)) (pe_tup (pa_cons (pv 6) pa_nil)) (nomark _)))) pa_nil)))))))))), ?_⟩
    rcases hv with ⟨s, os, sn, tq, htv, htx⟩ | ⟨r, wd, u, l, rows, R, U, ul, ring, ru, rv⟩
    · walk_at "fv"
      refine r_isi_tup htv ?_
      walk_at "fv"
      refine ite_f rfl ?_
      walk_at "fv"
      refine l_lenT (SqT.of htv) 2 rfl ?_
      walk_at "fv"
      refine ite_f (dN (by omega)) ?_
      walk_at "fv"
      refine r_ixT (SqT.of htv) (at_nat (i := 0) rfl rfl) ?_
      walk_at "fv"
      refine r_isi_str ?_
      walk_at "fv"
      refine ite_f rfl ?_
      walk_at "fv"
      refine ⟨hs, h, m, hg, M, rfl, hist, hz, tr, vm, fun d o ad H1 e1 had => ?_⟩
      walk_at "fv"
      refine r_ixT (SqT.of (e1 _ _ htv)) (at_nat (i := 0) rfl rfl) ?_
      walk_at "fv"
      refine ite_t (dS _) ?_
      walk_at "fv"
      refine l_lenT (SqT.of (e1 _ _ htv)) 2 rfl ?_
      walk_at "fv"
      refine ite_t (dI (by omega)) ?_
      walk_at "fv"
      refine r_ixT (SqT.of (e1 _ _ htv)) (at_nat (i := 1) rfl rfl) ?_
      walk_at "fv"
      exact ⟨d, tq, o, ad, hg.length, hadL hg M, s, rfl, had, htx.mono e1, hz, lots, os, sn, fun H2 e2 => k _ (e1.trans e2)⟩
    · have htv := rv.tup
      walk_at "fv"
      refine r_isi_tup htv ?_
      walk_at "fv"
      refine ite_f rfl ?_
      walk_at "fv"
      refine l_lenT (SqT.of htv) 3 rfl ?_
      walk_at "fv"
      refine ite_f (dN (by omega)) ?_
      walk_at "fv"
      refine r_ixT (SqT.of htv) (at_nat (i := 0) rfl rfl) ?_
      walk_at "fv"
      refine r_isi_str ?_
      walk_at "fv"
      refine ite_f rfl ?_
      walk_at "fv"
      refine ⟨hs, h, m, hg, M, rfl, hist, hz, tr, vm, fun d o ad H1 e1 had => ?_⟩
      have htv1 := e1 _ _ htv
      walk_at "fv"
      refine r_ixT (SqT.of htv1) (at_nat (i := 0) rfl rfl) ?_
      walk_at "fv"
      refine ite_f (dSn s_rt) ?_
      walk_at "fv"
      refine r_ixT (SqT.of htv1) (at_nat (i := 0) rfl rfl) ?_
      walk_at "fv"
      refine ite_f (by rw [show decide (V.str (Str.ofString "ring") = V.str (Str.ofString "ring")) = true from decide_eq_true rfl]; rfl) ?_
      walk_at "fv"
      refine l_lenT (SqT.of htv1) 3 rfl ?_
      walk_at "fv"
      refine ite_f (by rw [dI (by omega)]; rfl) ?_
      walk_at "fv"
      refine r_ixT (SqT.of htv1) (at_nat (i := 1) rfl rfl) ?_
      walk_at "fv"
      refine ⟨d, r, o, ad, hg.length, hadL hg M, R, rfl, had, e1 _ _ rv.ring, hz, ring, fun H2 e2 => ?_⟩
      walk_at "fv"
      refine ite_f rfl ?_
      walk_at "fv"
      have htv2 := e2 _ _ htv1
      have rv2 := rv.mono (e1.trans e2)
      obtain ⟨⟨dw, wi⟩, hup, hrows⟩ := id rv2.words
      refine r_ixT (SqT.of htv2) (at_nat (i := 2) rfl rfl) ?_
      walk_at "fv"
      refine l_isC wi ?_
      walk_at "fv"
      refine ite_f rfl ?_
      walk_at "fv"
      refine r_slA (ys := [.ref r, .ref wd]) htv2 (cutV_from [.str "ring", .ref r, .ref wd] 1) fun q1 H3 e3 h3 => ?_
      refine two_names (SqT.of h3) ?_
      walk_at "fv"
      refine r_fld (e3 _ _ wi) T.w_cl T.w_blocks (wF_blocks _ _ _) ?_
      walk_at "fv"
      refine l_lenD ((had.mono e2).mono e3).rd hg.length (by simp) ?_
      walk_at "fv"
      refine ite_f (by rw [dI (by omega)]; rfl) ?_
      walk_at "fv"
      have rv3 := rv2.mono e3
      have wa3 : WordsAt cW H3 wd u l rows hg.length U := by rw [← ul]; exact rv3.words
      refine ⟨hs, h, m, wd, u, l, rows, hg, U, M, rfl, hist.mono ((e1.trans e2).trans e3), wa3, ul, hz, tr, vm, fun b b1 b2 => ru.had b b1 (by omega), fun H4 e4 => ?_⟩
      walk_at "fv"
      refine ite_f rfl ?_
      walk_at "fv"
      have rv4 := rv3.mono e4
      have rl : R.length ≤ hg.length := pigeon_lt ring.nd ring.inn
      refine r_slA (ys := (R.drop 1).map nv) rv4.ring (by rw [List.map_drop]; exact cutV_from (R.map nv) 1) fun q4 H5 e5 h5 => ?_
      walk_at "fv"
      refine r_slA (ys := (R.take 1).map nv) (e5 _ _ rv4.ring) (by rw [List.map_take]; exact cutV_to (R.map nv) 1) fun q5 H6 e6 h6 => ?_
      refine r_catA (e6 _ _ h5) h6 (by simp; omega) fun q7 H7 e7 h7 => ?_
      rw [rot_map] at h7
      walk_at "fv"
      have rv7 := rv4.mono ((e5.trans e6).trans e7)
      refine l_zipT (SqT.of rv7.ring) (SqT.of h7) ?_
      refine lc_y (wk_zipN rv7.ring h7 (rot_len ring.ne).symm) (by omega) (fun _ => V.bl true) (fun _ _ => rfl) (fun i hi H8 e8 Q8 k8 => ?_) (fun q H8 hq e8 h8 => ?_)
      · have ri := ring.inn _ (ent_mem hi)
        have pl := pl_of lots ul (fun b b1 b2 => ru.had b b1 (by omega))
        walk_at "fv"
        refine ⟨wd, u, l, rows, U, ent R i, rfl, (rv7.mono e8).words, by omega, ri.1, by omega, pl.le ri.1 (by omega), pl.ne ri.1 (by omega), fun vq qq H9 _ _ e9 h9 h10 => ?_⟩
        walk_at "fv"
        refine r_ixT (SqT.of h9) (at_nat (i := 1) rfl rfl) ?_
        walk_at "fv"
        refine l_tup (by simp) fun q9 H10 hq9 e10 h11 => ?_
        refine l_eqT1 (SqT.of (e10 _ _ h10)) (SqT.of h11) ?_
        rw [decide_eq_true (ru.at' i hi)]
        exact k8 _ (e9.trans e10)
      · walk_at "fv"
        refine l_allT (SqL.of h8) (fun x hx => mem_true hx) ?_
        exact k _ (((((((e1.trans e2).trans e3).trans e4).trans e5).trans e6).trans e7).trans e8)
end
end FV
namespace FV
open PySem PySem.Spec PyProof.Rows L2 Evl
open C8 (Cal Mak Def InsC)
def enz (l : List Int) (i : Nat) : Int := l.getD i 0
theorem enz_map {l : List Int} {i : Nat} (h : i < l.length) : (l.map V.int)[i]? = some (V.int (enz l i)) := by
  unfold enz
  rw [List.getElem?_map, List.getD_eq_getElem?_getD, List.getElem?_eq_getElem h]
  rfl
theorem wk_listI {K : PySem.W.Frag} {H : Hp} {a : Addr} {l : List Int} {j : Nat} (h : H a = some (.lst (l.map V.int))) : Wlk (Itl K a) (gName j) l.length (fun σ i => σ.set j (some (.int (enz l i)))) H :=
  Wlk.is (by have q := wk_list (K := K) (j := j) (SqL.of h); rw [List.length_map] at q; exact q) fun σ i hi => by rw [enz_map hi]
theorem at_enz {l : List Int} {i : Int} (h0 : 0 ≤ i) (h1 : i < l.length) : ∃ z, atI (l.map V.int) i = some (.int z) := ⟨enz l i.toNat, at_nat (i := i.toNat) (by omega) (enz_map (by omega))⟩
section
variable {P : Program} {w : World} {K : PySem.W.Frag} {mg : Str → Option Value} {base : Heap} {cT cW cH : Addr}
abbrev spHand (K : PySem.W.Frag) : Sp := fun vs H Q _ => ∃ (sc : Addr) (ns : List Int), vs = [.ref sc] ∧ SqL K H sc (ns.map V.int) ∧ ns.length ≤ 63 ∧ ∀ a c cs H2, Ex H H2 → cs.length ≤ 100 → Hand H2 a c cs → Q (.ref a) H2
abbrev s__law_hand : Stmt := top 42
theorem sc__law_hand : FnScope ["_law_script", "_law_cells", "_law_cell"] ["_law_script"] (C8.fnScope s__law_hand) := C8.fnScope_by (by decide +kernel)
theorem k__law_hand (F : Df K mg "_law_hand" s__law_hand ["_law_script"]) (T : Txt K mg cT cW cH) : Cal P w K mg base 1 "_law_hand" (spHand K) [] := by
  refine cal_of F sc__law_hand (fun vs H Q E h => ?_) (fun f cdv A outer sh H vs Q E hr h => ?_)
  · obtain ⟨sc, ns, rfl, _⟩ := h; rfl
  · obtain ⟨sc, ns, rfl, hs, hz, k⟩ := h
    have nd := sc__law_hand.nd
    refine ⟨_, (pss_cons (ps_setLc (i := 1) (own := [("_law_cell", 2)]) rfl nd rfl rfl (sw_true rfl rfl rfl (by decide +kernel)) (show PI _ _ _ (iList K _) from pi_list (pe_slice (show SlR _ (rSlL K) from sl_list) (pv 0) po_none (po_some pe_int))) (blkOk_by (own := [("_law_cell", 2)]) (N := ["_law_script", "_law_cells", "_law_cell"]) (sc := (C8.fnScope s__law_hand)) (by decide +kernel)) (fun _ _ _ _ _ => (pg_name (i := 2) nd rfl (Or.inl rfl))) (fun _ _ _ _ _ => pts_nil) (fun _ _ _ _ _ => (pe_callB call_abs (by rfl) T.z_abs (by decide +kernel) (pa_cons (pe_callTy c_int1 (by rfl) T.z_int (by decide +kernel) (pa_cons (pv 2) pa_nil)) pa_nil))))
        (pss_one (ps_ret (pe_lst (pa_cons (pv 1) (pa_cons pe_int (pa_cons pe_int (pa_cons (pe_op op_add pe_int (pe_callB (show CallR _ _ (rLenS K) from c_len) (by rfl) T.z_len (by decide +kernel) (pa_cons (pv 1) pa_nil))) (pa_cons pe_int pa_nil))))))))), ?_⟩
    walk_at "fv"
    refine r_slL (ys := (ns.take 63).map V.int) hs (by rw [List.map_take]; exact cutV_to _ 63) fun q1 H1 hq1 e1 h1 => ?_
    walk_at "fv"
    refine lc_y (wk_listI h1) (by rw [List.length_take]; omega) (fun i => V.int (if enz (ns.take 63) i < 0 then -(enz (ns.take 63) i) else enz (ns.take 63) i)) (fun _ _ => rfl) (fun i hi H2 e2 Q2 k2 => ?_) (fun c H2 hc e2 h2 => ?_)
    · walk_at "fv"
      refine l_intI ?_
      walk_at "fv"
      exact k2 _ (Ex.refl _)
    · walk_at "fv"
      refine l_lenL (SqL.of h2) (ns.take 63).length (by simp) ?_
      walk_at "fv"
      refine l_lst (by simp) fun a H3 ha e3 h3 => ?_
      refine k a c ((List.range (ns.take 63).length).map fun i => if enz (ns.take 63) i < 0 then -(enz (ns.take 63) i) else enz (ns.take 63) i) H3 ((e1.trans e2).trans e3) (by rw [List.length_map, List.length_range, List.length_take]; omega) ⟨⟨0, 0, _, 0, by omega, h3⟩, ?_⟩
      rw [List.map_map]
      exact e3 _ _ h2
abbrev spDraw : Sp := fun vs H Q _ => ∃ (a c : Addr) (ns : List Int) (m : Nat), vs = [.ref a, nv m] ∧ 0 < m ∧ m ≤ 1000 ∧ ns.length ≤ 100 ∧ Hand H a c ns ∧ ∀ (d : Nat) H2, d < m → ExB a H H2 → Hand H2 a c ns → Q (nv d) H2
theorem mod_nat (x : Int) {m : Nat} (h : 0 < m) : ∃ d : Nat, d < m ∧ x % (m : Int) = (d : Int) := by
  have h1 := Int.emod_nonneg x (show (m : Int) ≠ 0 by omega)
  have h2 := Int.emod_lt_of_pos x (show (0 : Int) < m by omega)
  exact ⟨(x % (m : Int)).toNat, by omega, by omega⟩
theorem emod_bd (x : Int) {m : Int} (h : 0 < m) : ∃ z, 0 ≤ z ∧ z < m ∧ x % m = z := ⟨x % m, Int.emod_nonneg x (by omega), Int.emod_lt_of_pos x h, rfl⟩
abbrev s__law_draw : Stmt := top 43
theorem sc__law_draw : FnScope ["_law_hand_here", "_law_many", "_law_cell", "_law_digit", "_law_number"] ["_law_hand_here", "_law_many"] (C8.fnScope s__law_draw) := C8.fnScope_by (by decide +kernel)
theorem k__law_draw (F : Df K mg "_law_draw" s__law_draw ["_law_hand_here", "_law_many"]) (T : Txt K mg cT cW cH) : Cal P w K mg base 1 "_law_draw" spDraw [] := by
  refine cal_of F sc__law_draw (fun vs H Q E h => ?_) (fun f cdv A outer sh H vs Q E hr h => ?_)
  · obtain ⟨a, c, ns, m, rfl, _⟩ := h; rfl
  · obtain ⟨a, c, ns, m, rfl, m0, m1, nz, hand, k⟩ := h
    have hca := hand.ne
    obtain ⟨⟨i, b, s, n, i0, ha⟩, hc⟩ := id hand
    have nd := sc__law_draw.nd
    refine ⟨_, (Evl.pss_cut (ps_if (PW.pt (pw_and (pt_cmpR op_eq (pe_ix (show IxR _ (rIxL K) from ix_list) (pv 0) pe_int (fun _ _ => rfl)) pe_int (nomark _)) (pw_and1 (pt_cmpR op_lt (pe_ix (show IxR _ (rIxL K) from ix_list) (pv 0) pe_int (fun _ _ => rfl)) (pe_callB (show CallR _ _ (rLenS K) from c_len) (by rfl) T.z_len (by decide +kernel) (pa_cons (pe_ix (show IxR _ (rIxL K) from ix_list) (pv 0) pe_int (fun _ _ => rfl)) pa_nil)) (nomark _)))))
          (pss_cons (ps_set (i := 2) nd rfl (Or.inl rfl) (pe_ix (show IxR _ (rIxL K) from ix_list) (pe_ix (show IxR _ (rIxL K) from ix_list) (pv 0) pe_int (fun _ _ => rfl)) (pe_ix (show IxR _ (rIxL K) from ix_list) (pv 0) pe_int (fun _ _ => rfl)) (fun _ _ => rfl)))
            (pss_cons (ps_asg (pe_op op_add (pe_ix (show IxR _ (rIxL K) from ix_list) (pv 0) pe_int (fun _ _ => rfl)) pe_int) (pg_sub (pv 0) pe_int set_list))
            (pss_cons (ps_asg (pe_op op_mod (pe_callTy c_int1 (by rfl) T.z_int (by decide +kernel) (pa_cons (pe_op op_add (pe_op op_add (pe_op op_mul (pe_ix (show IxR _ (rIxL K) from ix_list) (pv 0) pe_int (fun _ _ => rfl)) pe_int) (pv 2)) pe_int) pa_nil)) pe_int) (pg_sub (pv 0) pe_int set_list))
            (pss_one (ps_if (pt_cmpR op_ge (pv 2) (pe_op op_pow pe_int pe_int) (nomark _))
              (pss_one (ps_asg (pv 2) (pg_sub (pv 0) pe_int set_list)))
              pss_nil)))))
          pss_nil)
        (pss_cons (ps_if (pt_cmpR op_gt (pe_ix (show IxR _ (rIxL K) from ix_list) (pv 0) pe_int (fun _ _ => rfl)) pe_int (nomark _))
          (pss_cons (ps_set (i := 3) nd rfl (Or.inl rfl) (pe_op op_mod (pe_callTy c_int1 (by rfl) T.z_int (by decide +kernel) (pa_cons (pe_ix (show IxR _ (rIxL K) from ix_list) (pv 0) pe_int (fun _ _ => rfl)) pa_nil)) (pv 1)))
            (pss_cons (ps_asg (pe_op op_fdiv (pe_ix (show IxR _ (rIxL K) from ix_list) (pv 0) pe_int (fun _ _ => rfl)) (pv 1)) (pg_sub (pv 0) pe_int set_list))
            (pss_one (ps_ret (pv 3)))))
          pss_nil)
        (pss_cons (ps_asg (pe_op op_add (pe_ix (show IxR _ (rIxL K) from ix_list) (pv 0) pe_int (fun _ _ => rfl)) pe_int) (pg_sub (pv 0) pe_int set_list))
        (pss_cons (ps_set (i := 4) nd rfl (Or.inl rfl) (pe_op op_mod (pe_callTy c_int1 (by rfl) T.z_int (by decide +kernel) (pa_cons (pe_op op_mul (pe_callTy c_int1 (by rfl) T.z_int (by decide +kernel) (pa_cons (pe_op op_add (pe_ix (show IxR _ (rIxL K) from ix_list) (pv 0) pe_int (fun _ _ => rfl)) (pe_op op_mul pe_int (pe_ix (show IxR _ (rIxL K) from ix_list) (pv 0) pe_int (fun _ _ => rfl)))) pa_nil)) pe_int) pa_nil)) pe_int))
        (pss_cons (ps_set (i := 4) nd rfl (Or.inl rfl) (pe_op op_mod (pe_callTy c_int1 (by rfl) T.z_int (by decide +kernel) (pa_cons (pe_op op_mul (pv 4) (pe_op op_add (pe_op op_fdiv (pv 4) pe_int) pe_int)) pa_nil)) pe_int))
        (pss_cons (ps_set (i := 4) nd rfl (Or.inl rfl) (pe_op op_mod (pe_callTy c_int1 (by rfl) T.z_int (by decide +kernel) (pa_cons (pe_op op_mul (pv 4) (pe_op op_add (pe_op op_fdiv (pv 4) pe_int) pe_int)) pa_nil)) pe_int))
        (pss_one (ps_ret (pe_op op_mod (pe_callTy c_int1 (by rfl) T.z_int (by decide +kernel) (pa_cons (pe_op op_fdiv (pv 4) pe_int) pa_nil)) (pv 1)))))))))), ?_⟩
    refine x_cut (fun σ' H' => ∃ v2, σ' = [some (.ref a), some (nv m), v2, none, none] ∧ ExB a H H' ∧ Hand H' a c ns) ?_ ?_
    · walk_at "fv"
      refine r_ixL (SqL.of ha) (at_nat (i := 2) rfl rfl) ?_
      walk_at "fv"
      by_cases hb : b = 0
      · refine ite_t (dI hb) ?_
        walk_at "fv"
        refine r_ixL (SqL.of ha) (at_nat (i := 1) rfl rfl) ?_
        walk_at "fv"
        refine r_ixL (SqL.of ha) (at_nat (i := 0) rfl rfl) ?_
        walk_at "fv"
        refine l_lenL (SqL.of hc) ns.length (by simp) ?_
        walk_at "fv"
        by_cases hi : i < (ns.length : Int)
        · refine ite_t (decide_eq_true hi) ?_
          walk_at "fv"
          refine r_ixL (SqL.of ha) (at_nat (i := 0) rfl rfl) ?_
          walk_at "fv"
          refine r_ixL (SqL.of ha) (at_nat (i := 1) rfl rfl) ?_
          obtain ⟨z, hz⟩ := at_enz i0 hi
          refine r_ixL (SqL.of hc) hz ?_
          walk_at "fv"
          refine r_ixL (SqL.of ha) (at_nat (i := 1) rfl rfl) ?_
          walk_at "fv"
          refine l_set (j := 1) ha rfl ?_
          walk_at "fv"
          refine r_ixL (SqL.of upd_same) (at_nat (i := 3) rfl rfl) ?_
          walk_at "fv"
          refine r_I (.inr (by decide)) ?_
          walk_at "fv"
          refine l_intI ?_
          walk_at "fv"
          refine r_I (by decide) ?_
          walk_at "fv"
          refine l_set (j := 3) upd_same rfl ?_
          walk_at "fv"
          refine r_I (by unfold CPow; decide) ?_
          walk_at "fv"
          by_cases hg : z ≥ 10 ^ Int.toNat 18
          · refine ite_t (decide_eq_true hg) ?_
            walk_at "fv"
            refine l_set (j := 2) upd_same rfl ?_
            exact ⟨_, rfl, fun x o hx h => by rw [upd_ne hx, upd_ne hx, upd_ne hx]; exact h, ⟨_, _, _, _, by omega, upd_same⟩, by rw [upd_ne hca, upd_ne hca, upd_ne hca]; exact hc⟩
          · refine ite_f (decide_eq_false hg) ?_
            refine x_next ?_
            exact ⟨_, rfl, fun x o hx h => by rw [upd_ne hx, upd_ne hx]; exact h, ⟨_, _, _, _, by omega, upd_same⟩, by rw [upd_ne hca, upd_ne hca]; exact hc⟩
        · refine ite_f (decide_eq_false hi) ?_
          walk_at "fv"
          exact ⟨ExB.refl _ _, hand⟩
      · refine ite_f (dN hb) ?_
        walk_at "fv"
        refine ite_f rfl ?_
        exact ⟨_, rfl, ExB.refl _ _, hand⟩
    · rintro σ' H' ⟨v2, rfl, e, hand'⟩
      obtain ⟨⟨i, b, s, n, i0, ha⟩, hc⟩ := id hand'
      walk_at "fv"
      refine r_ixL (SqL.of ha) (at_nat (i := 2) rfl rfl) ?_
      walk_at "fv"
      by_cases hb : b > 0
      · refine ite_t (decide_eq_true hb) ?_
        walk_at "fv"
        refine r_ixL (SqL.of ha) (at_nat (i := 2) rfl rfl) ?_
        walk_at "fv"
        refine l_intI ?_
        walk_at "fv"
        refine r_I (by omega) ?_
        obtain ⟨d, d1, d2⟩ := mod_nat b m0
        rw [d2]
        walk_at "fv"
        refine r_ixL (SqL.of ha) (at_nat (i := 2) rfl rfl) ?_
        walk_at "fv"
        refine r_I (by unfold CDiv; omega) ?_
        walk_at "fv"
        refine l_set (j := 2) ha rfl ?_
        walk_at "fv"
        exact k d _ d1 (fun x o hx h => by rw [upd_ne hx]; exact e x o hx h) ⟨⟨_, _, _, _, i0, upd_same⟩, by rw [upd_ne hca]; exact hc⟩
      · refine ite_f (decide_eq_false hb) ?_
        walk_at "fv"
        refine r_ixL (SqL.of ha) (at_nat (i := 4) rfl rfl) ?_
        walk_at "fv"
        refine l_set (j := 4) ha rfl ?_
        walk_at "fv"
        refine r_ixL (SqL.of upd_same) (at_nat (i := 3) rfl rfl) ?_
        walk_at "fv"
        refine r_ixL (SqL.of upd_same) (at_nat (i := 4) rfl rfl) ?_
        walk_at "fv"
        refine r_I (.inl (by decide)) ?_
        walk_at "fv"
        refine l_intI ?_
        walk_at "fv"
        refine r_I (.inr (by decide)) ?_
        walk_at "fv"
        refine l_intI ?_
        walk_at "fv"
        refine r_I (by decide) ?_
        obtain ⟨z1, z10, z11, hz1⟩ := emod_bd ((s + 7919 * (n + 1)) * 48271) (show (0 : Int) < 2147483647 by decide)
        rw [hz1]
        walk_at "fv"
        refine r_I (by unfold CDiv; decide) ?_
        walk_at "fv"
        refine r_I (.inl (by omega)) ?_
        walk_at "fv"
        refine l_intI ?_
        walk_at "fv"
        refine r_I (by decide) ?_
        obtain ⟨z2, z20, z21, hz2⟩ := emod_bd (z1 * (z1 / 1009 + 69621)) (show (0 : Int) < 2147483647 by decide)
        rw [hz2]
        walk_at "fv"
        refine r_I (by unfold CDiv; decide) ?_
        walk_at "fv"
        refine r_I (.inl (by omega)) ?_
        walk_at "fv"
        refine l_intI ?_
        walk_at "fv"
        refine r_I (by decide) ?_
        walk_at "fv"
        refine r_I (by unfold CDiv; decide) ?_
        walk_at "fv"
        refine l_intI ?_
        walk_at "fv"
        refine r_I (by omega) ?_
        obtain ⟨d, d1, d2⟩ := mod_nat _ m0
        rw [d2]
        exact k d _ d1 (fun x o hx h => by rw [upd_ne hx]; exact e x o hx h) ⟨⟨_, _, _, _, i0, upd_same⟩, by rw [upd_ne hca]; exact hc⟩
end
end FV
namespace FV
open PySem PySem.Spec PyProof.Rows L2 Evl
open C8 (Cal Mak Def InsC)
section
variable {P : Program} {w : World} {K : PySem.W.Frag} {mg : Str → Option Value} {base : Heap} {cT cW cH : Addr}
abbrev spLTree : Sp := fun vs H Q _ => ∃ (a c : Addr) (ns : List Int) (n : Nat), vs = [.ref a, nv n] ∧ 1 ≤ n ∧ n ≤ 40 ∧ ns.length ≤ 100 ∧ Hand H a c ns ∧ ∀ t hg H2, ExB a H H2 → Hand H2 a c ns → H2 t = some (.tup (hg.map nv)) → hg.length = n → Tr hg → Q (.ref t) H2
abbrev s__law_tree : Stmt := top 44
theorem sc__law_tree : FnScope ["_law_hand_here", "_law_many", "_law_left", "_law_places", "_law_found", "_law_block"] ["_law_hand_here", "_law_many"] (C8.fnScope s__law_tree) := C8.fnScope_by (by decide +kernel)
theorem k__law_tree (F : Df K mg "_law_tree" s__law_tree ["_law_hand_here", "_law_many"]) (T : Txt K mg cT cW cH) (c__law_draw : Cal P w K mg base 1 "_law_draw" spDraw []) : Cal P w K mg base 2 "_law_tree" spLTree [] := by
  refine cal_of F sc__law_tree (fun vs H Q E h => ?_) (fun f cdv A outer sh H vs Q E hr h => ?_)
  · obtain ⟨a, c, ns, n, rfl, _⟩ := h; rfl
  · obtain ⟨a, c, ns, n, rfl, n1, n2, nz, hand, k⟩ := h
    have nd := sc__law_tree.nd
    refine ⟨_, (pss_cons (ps_set (i := 2) nd rfl (Or.inl rfl) (pe_listRg rfl rfl T.z_list (prg_2 rfl T.z_range pe_int (pe_op op_add (pv 1) pe_int))))
        (pss_cons (ps_set (i := 3) nd rfl (Or.inl rfl) (pe_lst (pa_cons pe_int pa_nil)))
        (pss_cons (ps_set (i := 4) nd rfl (Or.inl rfl) (pe_op op_rep (pe_lst (pa_cons pe_int pa_nil)) (pv 1)))
        (pss_cons (ps_while PassesOwn.never (pt_cmpR op_gt (pe_callB (show CallR _ _ (rLenS K) from c_len) (by rfl) T.z_len (by decide +kernel) (pa_cons (pv 2) pa_nil)) pe_int (nomark _))
          (pss_cons (ps_set (i := 5) nd rfl (Or.inl rfl) (pe_bm PySem.F.plainAttrs_list PySem.F.slot_list_pop PySem.F.type_list_pop mt_popAt (pv 2) (pa_cons (C8.pe_c c__law_draw hr (by decide) rfl (pa_cons (pv 0) (pa_cons (pe_callB (show CallR _ _ (rLenS K) from c_len) (by rfl) T.z_len (by decide +kernel) (pa_cons (pv 2) pa_nil)) pa_nil))) pa_nil)))
            (pss_cons (ps_asg (pe_ix (show IxR _ (rIxL K) from ix_list) (pv 3) (C8.pe_c c__law_draw hr (by decide) rfl (pa_cons (pv 0) (pa_cons (pe_callB (show CallR _ _ (rLenS K) from c_len) (by rfl) T.z_len (by decide +kernel) (pa_cons (pv 3) pa_nil)) pa_nil))) (fun _ _ => rfl)) (pg_sub (pv 4) (pe_op op_sub (pv 5) pe_int) set_list))
            (pss_one (ps_expr (pe_bm PySem.F.plainAttrs_list PySem.F.slot_list_append PySem.F.type_list_append mt_append (pv 3) (pa_cons (pv 5) pa_nil)))))))
        (pss_one (ps_ret (pe_callTy (show CallR _ _ (rTupOf K) from c_tupOf) (by rfl) T.z_tuple (by decide +kernel) (pa_cons (pv 4) pa_nil)))))))), ?_⟩
    walk_at "fv"
    refine l_rg1 n (by omega) (by omega) fun lq H1 hlq e1 h1 => ?_
    walk_at "fv"
    refine l_lst (by simp) fun pq H2 hpq e2 h2 => ?_
    walk_at "fv"
    refine l_lst (by simp) fun zq H3 hzq e3 h3 => ?_
    walk_at "fv"
    refine l_rep h3 (by omega) fun fq H4 hfq e4 h4 => ?_
    walk_at "fv"
    have npl : pq ≠ lq := (ne_of_none h1 hpq).symm
    have nfl : fq ≠ lq := (ne_of_none (e3 _ _ (e2 _ _ h1)) hfq).symm
    have nfp : fq ≠ pq := (ne_of_none (e3 _ _ h2) hfq).symm
    have hpq0 : H pq = none := fresh_back e1 hpq
    have hfq0 : H fq = none := fresh_back ((e1.trans e2).trans e3) hfq
    obtain ⟨nla, nlc⟩ := hand_new hand hlq
    obtain ⟨npa, npc⟩ := hand_new hand hpq0
    obtain ⟨nfa, nfc⟩ := hand_new hand hfq0
    refine while_w (fun m σ' H' => ∃ ls pl fs v5, σ' = [some (.ref a), some (nv n), some (.ref lq), some (.ref pq), some (.ref fq), v5] ∧ ExB a H H' ∧ Hand H' a c ns ∧ H' lq = some (.lst (ls.map nv)) ∧ H' pq = some (.lst (pl.map nv)) ∧ H' fq = some (.lst (fs.map nv)) ∧ TInv n ls pl fs ∧ m = ls.length) _
      ⟨blocks n, [0], List.replicate n 0, _, rfl, ExB.of (((e1.trans e2).trans e3).trans e4), hand.ex (((e1.trans e2).trans e3).trans e4), e4 _ _ (e3 _ _ (e2 _ _ h1)), e4 _ _ (e3 _ _ h2), h4, TInv.init n, rfl⟩ ?_
    rintro m σ' H' ⟨ls, pl, fs, v5, rfl, e, hd, hL, hP, hF, TI, rfl⟩
    have lz : ls.length ≤ n := pigeon_lt TI.lnd TI.lin
    have pz : pl.length ≤ n + 1 := pigeon_le TI.pnd TI.ple
    have pp : 0 < pl.length := List.length_pos_of_mem TI.zero
    walk_at "fv"
    refine l_lenL (SqL.of hL) ls.length (by simp) ?_
    walk_at "fv"
    by_cases hl : 0 < ls.length
    · refine ite_t (decide_eq_true (by omega)) (wbody ?_)
      walk_at "fv"
      refine l_bmL (SqL.of hL) ?_
      walk_at "fv"
      refine l_lenL (SqL.of hL) ls.length (by simp) ?_
      walk_at "fv"
      refine ⟨a, c, ns, ls.length, rfl, hl, by omega, nz, hd, fun d H5 hd1 e5 hd5 => ?_⟩
      have hL5 := e5 _ _ nla hL
      have hP5 := e5 _ _ npa hP
      have hF5 := e5 _ _ nfa hF
      walk_at "fv"
      refine l_popAt hL5 hd1 (by omega) ?_
      walk_at "fv"
      have hd6 := hd5.up (o := .lst ((ls.eraseIdx d).map nv)) nla nlc
      have hP6 : (upd H5 lq (.lst ((ls.eraseIdx d).map nv))) pq = some (.lst (pl.map nv)) := by rw [upd_ne npl]; exact hP5
      have hF6 : (upd H5 lq (.lst ((ls.eraseIdx d).map nv))) fq = some (.lst (fs.map nv)) := by rw [upd_ne nfl]; exact hF5
      have e06 : ExB a H (upd H5 lq (.lst ((ls.eraseIdx d).map nv))) := (e.trans e5).mut hlq
      refine l_lenL (SqL.of hP6) pl.length (by simp) ?_
      walk_at "fv"
      refine ⟨a, c, ns, pl.length, rfl, pp, by omega, nz, hd6, fun g H7 hg1 e7 hd7 => ?_⟩
      have hL7 := e7 _ _ nla upd_same
      have hP7 := e7 _ _ npa hP6
      have hF7 := e7 _ _ nfa hF6
      refine r_ixL (SqL.of hP7) (at_ns rfl hg1) ?_
      walk_at "fv"
      have b1 := TI.lin _ (ent_mem hd1)
      refine l_set (j := ent ls d - 1) hF7 (by unfold ixN; rw [List.length_map, if_pos (by omega), if_pos (by rw [TI.len]; omega)]; congr 1; omega) ?_
      walk_at "fv"
      have hP8 : (upd H7 fq (.lst ((fs.map nv).set (ent ls d - 1) (nv (ent pl g))))) pq = some (.lst (pl.map nv)) := by rw [upd_ne nfp.symm]; exact hP7
      refine l_bmL (SqL.of hP8) ?_
      walk_at "fv"
      refine ⟨pq, _, _, rfl, rfl, hP8, sz_lt (by rw [List.length_map]; omega), ?_⟩
      walk_at "fv"
      refine ⟨(ls.eraseIdx d).length, by rw [List.length_eraseIdx_of_lt hd1]; omega, _, _, _, _, rfl, ((e06.trans e7).mut hfq0).mut hpq0, (hd7.up nfa nfc).up npa npc, ?_, ?_, ?_, TI.step hd1 hg1, rfl⟩
      · rw [upd_ne npl.symm, upd_ne nfl.symm]
        exact hL7
      · rw [upd_same, List.map_append]
        rfl
      · rw [upd_ne nfp, upd_same, List.map_set]
    · refine ite_f (decide_eq_false (by omega)) ?_
      walk_at "fv"
      refine l_tupOf (SqL.of hF) fun t H5 ht e5 h5 => ?_
      have e0 : ls = [] := List.length_eq_zero_iff.mp (by omega)
      subst e0
      exact k t fs H5 (e.ex2 e5) (hd.ex e5) h5 TI.len TI.tree
abbrev spLRow : Sp := fun vs H Q _ => ∃ (a : Addr) (hg : List Nat) (x : Nat), vs = [.ref a, nv x] ∧ H a = some (.tup (hg.map nv)) ∧ hg.length ≤ 40 ∧ Tr hg ∧ x ≤ hg.length ∧ RetL ((rowL hg x).map nv) H Q
abbrev s__law_row : Stmt := top 45
theorem sc__law_row : FnScope ["_law_hung", "_law_place", "_law_found", "_law_here"] ["_law_hung", "_law_place"] (C8.fnScope s__law_row) := C8.fnScope_by (by decide +kernel)
theorem k__law_row (F : Df K mg "_law_row" s__law_row ["_law_hung", "_law_place"]) (T : Txt K mg cT cW cH) : Cal P w K mg base 1 "_law_row" spLRow [] := by
  refine cal_of F sc__law_row (fun vs H Q E h => ?_) (fun f cdv A outer sh H vs Q E hr h => ?_)
  · obtain ⟨a, hg, x, rfl, _⟩ := h; rfl
  · obtain ⟨a, hg, x, rfl, ha, hz, t, hx, k⟩ := h
    have nd := sc__law_row.nd
    obtain ⟨k0, k1, k2⟩ := home t hx
    refine ⟨_, (pss_cons (ps_set (i := 2) nd rfl (Or.inl rfl) (pe_lst pa_nil))
        (pss_cons (ps_set (i := 3) nd rfl (Or.inl rfl) (pv 1))
        (pss_cons (ps_while PassesOwn.never (pt_cmpR op_ne (pv 3) pe_int (nomark _))
          (pss_cons (ps_set (i := 3) nd rfl (Or.inl rfl) (pe_ix (show IxR _ (rIxT K) from ix_tup) (pv 0) (pe_op op_sub (pv 3) pe_int) (fun _ _ => rfl)))
            (pss_one (ps_expr (pe_bm PySem.F.plainAttrs_list PySem.F.slot_list_append PySem.F.type_list_append mt_append (pv 2) (pa_cons (pv 3) pa_nil))))))
        (pss_one (ps_ret (pv 2)))))), ?_⟩
    walk_at "fv"
    refine l_lst (by simp) fun fq H1 hfq e1 h1 => ?_
    walk_at "fv"
    refine while_w (fun m σ' H' => ∃ j fs, σ' = [some (.ref a), some (nv x), some (.ref fq), some (nv (up hg x j))] ∧ Ex H H' ∧ H' fq = some (.lst (fs.map nv)) ∧ fs.length = j ∧ fs ++ rowF hg (hg.length + 1 - j) (up hg x j) = rowL hg x ∧ (∀ i, i < j → up hg x i ≠ 0) ∧ m = k0 - j ∧ j ≤ k0) _
      ⟨0, [], rfl, e1, h1, rfl, rfl, fun i hi => absurd hi (Nat.not_lt_zero i), rfl, Nat.zero_le _⟩ ?_
    rintro m σ' H' ⟨j, fs, rfl, e, hf, fl, hr', no, rfl, jk⟩
    walk_at "fv"
    by_cases h0 : up hg x j = 0
    · refine ite_f (by rw [dI (by omega)]; rfl) ?_
      walk_at "fv"
      have z : rowF hg (hg.length + 1 - j) (up hg x j) = [] := by
        obtain ⟨c, hc⟩ : ∃ c, hg.length + 1 - j = c + 1 := ⟨hg.length - j, by omega⟩
        rw [hc, h0]
        rfl
      rw [z, List.append_nil] at hr'
      exact k fq H' hfq e (by rw [hf, hr'])
    · refine ite_t (by rw [dN (by omega)]; rfl) (wbody ?_)
      have jk2 : j < k0 := Nat.lt_of_le_of_ne jk fun z => h0 (z ▸ k2)
      have ul := t.up_le hx j no
      walk_at "fv"
      refine r_ixT (SqT.of (e _ _ ha)) (at_par (by omega) ul) ?_
      walk_at "fv"
      refine l_bmL (SqL.of hf) ?_
      walk_at "fv"
      refine ⟨fq, _, _, rfl, rfl, hf, sz_lt (by rw [List.length_map]; omega), ?_⟩
      walk_at "fv"
      refine ⟨k0 - (j + 1), by omega, j + 1, fs ++ [par hg (up hg x j)], rfl, Ex.mut e hfq, ?_, by simp [fl], ?_, ?_, rfl, jk2⟩
      · rw [upd_same, List.map_append]
        rfl
      · obtain ⟨c, hc⟩ : ∃ c, hg.length + 1 - j = c + 1 := ⟨hg.length - j, by omega⟩
        have hc2 : hg.length + 1 - (j + 1) = c := by omega
        rw [hc] at hr'
        rw [hc2, ← hr']
        show (fs ++ [par hg (up hg x j)]) ++ rowF hg c (par hg (up hg x j)) = fs ++ rowF hg (c + 1) (up hg x j)
        have : rowF hg (c + 1) (up hg x j) = par hg (up hg x j) :: rowF hg c (par hg (up hg x j)) := by
          show (if up hg x j = 0 then [] else par hg (up hg x j) :: rowF hg c (par hg (up hg x j))) = _
          rw [if_neg h0]
        rw [this]
        simp
      · intro i hi
        rcases Nat.lt_or_eq_of_le (Nat.le_of_lt_succ hi) with l | rfl
        · exact no i l
        · exact h0
abbrev spLBen : Sp := fun vs H Q _ => ∃ (a : Addr) (hg : List Nat) (b : Nat), vs = [.ref a, nv b] ∧ H a = some (.tup (hg.map nv)) ∧ hg.length ≤ 40 ∧ Tr hg ∧ 1 ≤ b ∧ RetL ((benL hg b).map nv) H Q
abbrev s__law_beneath : Stmt := top 48
theorem sc__law_beneath : FnScope ["_law_hung", "_law_place", "_law_block"] ["_law_hung", "_law_place"] (C8.fnScope s__law_beneath) := C8.fnScope_by (by decide +kernel)
theorem k__law_beneath (F : Df K mg "_law_beneath" s__law_beneath ["_law_hung", "_law_place"]) (T : Txt K mg cT cW cH) (c__law_row : Cal P w K mg base 1 "_law_row" spLRow []) : Cal P w K mg base 2 "_law_beneath" spLBen [] := by
  refine cal_of F sc__law_beneath (fun vs H Q E h => ?_) (fun f cdv A outer sh H vs Q E hr h => ?_)
  · obtain ⟨a, hg, x, rfl, _⟩ := h; rfl
  · obtain ⟨a, hg, b, rfl, ha, hz, t, b1, k⟩ := h
    have nd := sc__law_beneath.nd
    refine ⟨_, (pss_one (ps_ret (pe_op op_cat (pe_lc (own := [("_law_block", 2)]) rfl nd (pi_range2 (by rfl) T.z_range (pa_cons pe_int (pa_cons (pe_op op_add (pe_callB (show CallR _ _ (rLenS K) from c_len) (by rfl) T.z_len (by decide +kernel) (pa_cons (pv 0) pa_nil)) pe_int) pa_nil))) (blkOk_by (own := [("_law_block", 2)]) (N := ["_law_hung", "_law_place", "_law_block"]) (sc := (C8.fnScope s__law_beneath)) (by decide +kernel)) (fun _ _ _ _ _ => (pg_name (i := 2) nd rfl (Or.inl rfl))) (fun _ _ _ _ _ => (pts_one (pt_cmpR (show OpR _ _ (rIn K false) from op_in_seq) (pv 1) (pe_op op_cat (pe_lst (pa_cons (pv 2) pa_nil)) (C8.pe_c c__law_row hr (by decide) rfl (pa_cons (pv 0) (pa_cons (pv 2) pa_nil)))) (by rfl)))) (fun _ _ _ _ _ => (pv 2))) (pe_op op_rep (pe_lst (pa_cons pe_int pa_nil)) (pe_callTy c_int1 (by rfl) T.z_int (by decide +kernel) (pa_cons (pe_cmpR op_eq (pv 1) pe_int (nomark _)) pa_nil)))))), ?_⟩
    walk_at "fv"
    refine l_lenT (SqT.of ha) hg.length (by simp) ?_
    walk_at "fv"
    refine l_rng2 hg.length (by omega) (by omega) (by omega) ?_
    refine lc_v wk_rng1 (by omega) (fun i => decide (b ∈ (i + 1) :: rowL hg (i + 1))) (fun i => nv (i + 1)) (fun _ _ => rfl) (fun i hi H1 e1 Q1 k1 => ?_) (fun i hi hf H1 e1 Q1 k1 => ?_) (fun q H1 hq e1 h1 => ?_)
    · walk_at "fv"
      refine l_lst (by simp) fun q2 H2 hq2 e2 h2 => ?_
      walk_at "fv"
      refine ⟨a, hg, i + 1, rfl, e2 _ _ (e1 _ _ ha), hz, t, by omega, fun q3 H3 hq3 e3 h3 => ?_⟩
      have rl := rowF_len hg (hg.length + 1) (i + 1)
      refine r_cat (e3 _ _ h2) h3 (by simp [rowL]; omega) fun q4 H4 hq4 e4 h4 => ?_
      have h4 : H4 q4 = some (.lst (((i + 1) :: rowL hg (i + 1)).map nv)) := h4
      refine r_inNL h4 ?_
      walk_at "fv"
      exact k1 _ ((e2.trans e3).trans e4)
    · walk_at "fv"
      exact k1 _ (Ex.refl _)
    · rw [given_nv] at h1
      walk_at "fv"
      refine l_lst (by simp) fun q2 H2 hq2 e2 h2 => ?_
      walk_at "fv"
      refine l_intB ?_
      rw [dN (by omega)]
      walk_at "fv"
      refine l_rep (n := 0) h2 (by omega) fun q3 H3 hq3 e3 h3 => ?_
      refine r_cat (e3 _ _ (e2 _ _ h1)) h3 (by simp; have := List.length_filter_le (fun i => decide (b ∈ (i + 1) :: rowL hg (i + 1))) (List.range hg.length); simp at this; simp; omega) fun q4 H4 hq4 e4 h4 => ?_
      refine k q4 H4 (fresh_back ((e1.trans e2).trans e3) hq4) (((e1.trans e2).trans e3).trans e4) ?_
      rw [h4]
      show some (HO.lst ((benL hg b).map nv ++ [])) = _
      rw [List.append_nil]
abbrev s__law_put : Stmt := top 49
theorem sc__law_put : FnScope ["_law_hung", "_law_block", "_law_place"] ["_law_hung", "_law_block", "_law_place"] (C8.fnScope s__law_put) := C8.fnScope_by (by decide +kernel)
theorem k__law_put (F : Df K mg "_law_put" s__law_put ["_law_hung", "_law_block", "_law_place"]) (T : Txt K mg cT cW cH) : Cal P w K mg base 1 "_law_put" spWith [] := by
  refine cal_of F sc__law_put (fun vs H Q E h => ?_) (fun f cdv A outer s H vs Q E hr h => ?_)
  · obtain ⟨a, hg, b, p, rfl, _⟩ := h; rfl
  · obtain ⟨a, hg, b, p, rfl, ha, hz, b1, b2, k⟩ := h
    have nd := sc__law_put.nd
    refine ⟨_, (pss_one (ps_ret (pe_op (show OpR _ _ (rCatA K) from op_catA) (pe_op (show OpR _ _ (rCatA K) from op_catA) (pe_slice (show SlR _ (rSlA K) from sl_tupA) (pv 0) po_none (po_some (pe_op op_sub (pv 1) pe_int))) (pe_tup (pa_cons (pv 2) pa_nil))) (pe_slice (show SlR _ (rSlA K) from sl_tupA) (pv 0) (po_some (pv 1)) po_none)))), ?_⟩
    walk_at "fv"
    refine r_slA (ys := (hg.map nv).take (b - 1)) ha (by rw [show ((b : Nat) : Int) - 1 = ((b - 1 : Nat) : Int) by omega]; exact cutV_to _ _) fun q1 H1 e1 h1 => ?_
    walk_at "fv"
    refine l_tup (by simp) fun q2 H2 hq2 e2 h2 => ?_
    walk_at "fv"
    refine r_catA (e2 _ _ h1) h2 (by simp; omega) fun q3 H3 e3 h3 => ?_
    walk_at "fv"
    refine r_slA (ys := (hg.map nv).drop b) (e3 _ _ (e2 _ _ (e1 _ _ ha))) (cutV_from _ _) fun q4 H4 e4 h4 => ?_
    refine r_catA (e4 _ _ h3) h4 (by simp; omega) fun q5 H5 e5 h5 => ?_
    exact k q5 H5 ((((e1.trans e2).trans e3).trans e4).trans e5) (by rw [h5, set_cut b1 b2])
end
end FV
namespace FV
open PySem PySem.Spec PyProof.Rows L2 Evl
open C8 (Cal Mak Def InsC)
theorem MovesAt.exB {A B : Hp} {D m : Addr} {M : List (Nat × Nat)} {ys : List V} (h : MovesAt A m M) (e : ExB D A B) (hD : A D = some (.lst ys)) : MovesAt B m M := let ⟨ad, a, b⟩ := h; ⟨ad, e.tup a hD, fun i hi => e.tup (b i hi) hD⟩
theorem mb_app1 {M N : List (Nat × Nat)} {i : Nat} (h : i < M.length) : mb (M ++ N) i = mb M i := by unfold mb; rw [List.getD_eq_getElem?_getD, List.getD_eq_getElem?_getD, List.getElem?_append_left h]
theorem mp_app1 {M N : List (Nat × Nat)} {i : Nat} (h : i < M.length) : mp (M ++ N) i = mp M i := by unfold mp; rw [List.getD_eq_getElem?_getD, List.getD_eq_getElem?_getD, List.getElem?_append_left h]
theorem MovesAt.snoc {H H' : Hp} {m' q : Addr} {M : List (Nat × Nat)} {b p : Nat} {ad : Nat → Addr} (e : Ex H H') (h2 : ∀ i, i < M.length → H (ad i) = some (.tup [nv (mb M i), nv (mp M i)])) (hq : H' q = some (.tup [nv b, nv p]))
    (hm : H' m' = some (.tup (((List.range M.length).map fun i => V.ref (ad i)) ++ [V.ref q]))) : MovesAt H' m' (M ++ [(b, p)]) := by
  refine ⟨fun i => if i < M.length then ad i else q, ?_, fun i hi => ?_⟩
  · rw [hm, List.length_append, List.length_singleton, List.range_succ, List.map_append]
    congr 2
    congr 1
    · refine List.map_congr_left fun i hi => ?_
      show V.ref (ad i) = V.ref (if i < M.length then ad i else q)
      rw [if_pos (List.mem_range.mp hi)]
    · simp
  · rw [List.length_append, List.length_singleton] at hi
    by_cases hlt : i < M.length
    · simp only [hlt, if_true]
      rw [mb_app1 hlt, mp_app1 hlt]
      exact e _ _ (h2 i hlt)
    · have z : i = M.length := by omega
      subst z
      simp only [Nat.lt_irrefl, if_false]
      have e1 : mb (M ++ [(b, p)]) M.length = b := by unfold mb; rw [List.getD_eq_getElem?_getD]; simp
      have e2 : mp (M ++ [(b, p)]) M.length = p := by unfold mp; rw [List.getD_eq_getElem?_getD]; simp
      rw [e1, e2]
      exact hq
def noHp : Hp := fun _ => none
theorem ex_no (H : Hp) : Ex noHp H := fun a o h => by cases h
section
variable {P : Program} {w : World} {K : PySem.W.Frag} {mg : Str → Option Value} {base : Heap} {cT cW cH : Addr}
abbrev spLMoves : Sp := fun vs H Q _ => ∃ (a c h : Addr) (ns : List Int) (hg : List Nat) (k : Nat), vs = [.ref a, .ref h, nv k] ∧ H h = some (.tup (hg.map nv)) ∧ 1 ≤ hg.length ∧ hg.length ≤ 40 ∧ k ≤ 50 ∧ Tr hg ∧ ns.length ≤ 100 ∧ Hand H a c ns ∧
  ∀ v mq lq M H2, ExB a H H2 → Hand H2 a c ns → H2 v = some (.tup [.ref mq, .ref lq]) → MovesAt H2 mq M → Vm hg M → M.length = k → Q (.ref v) H2
abbrev s__law_moves : Stmt := top 50
theorem sc__law_moves : FnScope ["_law_hand_here", "_law_hung", "_law_many", "_law_moves_here", "_law_elder", "_law_turn", "_law_block", "_law_inner", "_law_places", "_law_place"] ["_law_hand_here", "_law_hung", "_law_many"] (C8.fnScope s__law_moves) := C8.fnScope_by (by decide +kernel)
theorem k__law_moves (F : Df K mg "_law_moves" s__law_moves ["_law_hand_here", "_law_hung", "_law_many"]) (T : Txt K mg cT cW cH) (c__law_draw : Cal P w K mg base 1 "_law_draw" spDraw []) (c__law_beneath : Cal P w K mg base 2 "_law_beneath" spLBen []) (c__law_put : Cal P w K mg base 1 "_law_put" spWith []) : Cal P w K mg base 3 "_law_moves" spLMoves [] := by
  refine cal_of F sc__law_moves (fun vs H Q E h => ?_) (fun f cdv A outer sh H vs Q E hr h => ?_)
  · obtain ⟨a, c, h, ns, hg, k, rfl, _⟩ := h; rfl
  · obtain ⟨a, c, h, ns, hg, kk, rfl, hh, n1, n2, kz, tr, nz, hand, k⟩ := h
    have nd := sc__law_moves.nd
    refine ⟨_, (pss_cons (ps_par (i := 3) (j := 4) (by rfl) nd rfl rfl (by decide) rfl rfl (pa_cons (pe_tup pa_nil) (pa_cons (pv 1) pa_nil)) (by rfl))
        (pss_cons (ps_for PassesOwn.never rfl (pi_range1 (by rfl) T.z_range (pa_cons (pv 2) pa_nil)) (pg_name (i := 5) nd rfl (Or.inl rfl))
          (pss_cons (ps_set (i := 6) nd rfl (Or.inl rfl) (pe_op op_add pe_int (C8.pe_c c__law_draw hr (by decide) rfl (pa_cons (pv 0) (pa_cons (pe_callB (show CallR _ _ (rLenS K) from c_len) (by rfl) T.z_len (by decide +kernel) (pa_cons (pv 1) pa_nil)) pa_nil)))))
            (pss_cons (ps_set (i := 7) nd rfl (Or.inr rfl) (C8.pe_c c__law_beneath hr (by decide) rfl (pa_cons (pv 1) (pa_cons (pv 6) pa_nil))))
            (pss_cons (ps_setLc (i := 8) (own := [("_law_place", 9)]) rfl nd rfl rfl (sw_true rfl rfl rfl (by decide +kernel)) (pi_range1 (by rfl) T.z_range (pa_cons (pe_op op_add (pe_callB (show CallR _ _ (rLenS K) from c_len) (by rfl) T.z_len (by decide +kernel) (pa_cons (pv 1) pa_nil)) pe_int) pa_nil)) (blkOk_by (own := [("_law_place", 9)]) (N := ["_law_hand_here", "_law_hung", "_law_many", "_law_moves_here", "_law_elder", "_law_turn", "_law_block", "_law_inner", "_law_places", "_law_place"]) (sc := (C8.fnScope s__law_moves)) (by decide +kernel)) (fun _ _ _ _ _ => (pg_name (i := 9) nd rfl (Or.inl rfl))) (fun _ _ _ _ _ => (pts_one (pt_cmpR (show OpR _ _ (rIn K true) from op_notIn_seq) (pv 9) (pv 7) (by rfl)))) (fun _ _ _ _ _ => (pv 9)))
            (pss_cons (ps_set (i := 9) nd rfl (Or.inl rfl) (pe_ix (show IxR _ (rIxL K) from ix_list) (pv 8) (C8.pe_c c__law_draw hr (by decide) rfl (pa_cons (pv 0) (pa_cons (pe_callB (show CallR _ _ (rLenS K) from c_len) (by rfl) T.z_len (by decide +kernel) (pa_cons (pv 8) pa_nil)) pa_nil))) (fun _ _ => rfl)))
            (Evl.pss_cut (ps_if (PW.pt (pw_and (pt_cmpR op_eq (C8.pe_c c__law_draw hr (by decide) rfl (pa_cons (pv 0) (pa_cons pe_int pa_nil))) pe_int (nomark _)) (pw_and1 (pt_cmpR (show OpR _ _ (rIn K false) from op_in_seq) (pe_ix (show IxR _ (rIxT K) from ix_tup) (pv 4) (pe_op op_sub (pv 6) pe_int) (fun _ _ => rfl)) (pv 8) (by rfl)))))
              (pss_one (ps_set (i := 9) nd rfl (Or.inl rfl) (pe_ix (show IxR _ (rIxT K) from ix_tup) (pv 4) (pe_op op_sub (pv 6) pe_int) (fun _ _ => rfl))))
              pss_nil)
            (pss_cons (ps_set (i := 3) nd rfl (Or.inl rfl) (pe_op (show OpR _ _ (rCatA K) from op_catA) (pv 3) (pe_tup (pa_cons (pe_tup (pa_cons (pv 6) (pa_cons (pv 9) pa_nil))) pa_nil))))
            (pss_one (ps_set (i := 1) nd rfl (Or.inl rfl) (C8.pe_c c__law_put hr (by decide) rfl (pa_cons (pv 1) (pa_cons (pv 6) (pa_cons (pv 9) pa_nil)))))))))))))
        (pss_one (ps_ret (pe_tup (pa_cons (pv 3) (pa_cons (pv 1) pa_nil))))))), ?_⟩
    walk_at "fv"
    refine l_tup (by simp) fun mq H1 hmq e1 h1 => ?_
    walk_at "fv"
    refine ⟨_, _, rfl, ?_⟩
    walk_at "fv"
    refine l_rng1 kk (by omega) (by omega) ?_
    refine for_w (H0 := noHp) (fun i σ' H' => ExB a H H' ∧ Hand H' a c ns ∧ ∃ ha mq M v5 v6 v7 v8 v9, σ' = [some (.ref a), some (.ref ha), some (nv kk), some (.ref mq), some (.ref h), v5, v6, v7, v8, v9] ∧ H' ha = some (.tup ((appM hg M).map nv)) ∧ MovesAt H' mq M ∧ Vm hg M ∧ M.length = i)
      wk_rng0 (fun _ _ H' _ _ => ex_no H') ⟨ExB.of e1, hand.ex e1, h, mq, [], _, _, _, _, _, rfl, e1 _ _ hh, ⟨fun _ => 0, h1, fun i hi => absurd hi (Nat.not_lt_zero i)⟩, True.intro, rfl⟩ ?_ ?_
    · rintro i σ' H' hi ⟨e, hd, ha, mq, M, v5, v6, v7, v8, v9, rfl, hha, hmv, vm, ml⟩ H2 e2
      have tri := Vm.tree M hg tr vm
      have len := appM_len M hg
      generalize hhi : appM hg M = hi' at hha tri len
      have hha2 := e2 _ _ hha
      have hd2 := hd.ex e2
      have e02 := e.ex2 e2
      walk_at "fv"
      refine l_lenT (SqT.of hha2) hi'.length (by simp) ?_
      walk_at "fv"
      refine ⟨a, c, ns, hi'.length, rfl, by omega, by omega, nz, hd2, fun d H3 d1 e3 hd3 => ?_⟩
      obtain ⟨xs2, hxs2⟩ := hd2.lst
      have hha3 := e3.tup hha2 hxs2
      walk_at "fv"
      rw [show (1 : Int) + (d : Int) = ((d + 1 : Nat) : Int) by omega]
      refine ⟨ha, hi', d + 1, rfl, hha3, by omega, tri, by omega, fun iq H4 hiq e4 h4 => ?_⟩
      walk_at "fv"
      have hha4 := e4 _ _ hha3
      refine l_lenT (SqT.of hha4) hi'.length (by simp) ?_
      walk_at "fv"
      refine l_rng1 (hi'.length + 1) (by omega) (by omega) ?_
      refine lc_v wk_rng0 (by omega) (fun p => !decide (p ∈ benL hi' (d + 1))) (fun p => nv p) (fun _ _ => rfl) (fun p hp H5 e5 Q5 k5 => ?_) (fun p hp hf H5 e5 Q5 k5 => ?_) (fun pq H5 hpq e5 h5 => ?_)
      · walk_at "fv"
        refine r_ninNL (e5 _ _ h4) ?_
        walk_at "fv"
        exact k5 _ (Ex.refl _)
      · walk_at "fv"
        exact k5 _ (Ex.refl _)
      · rw [given_nv, List.map_id'] at h5
        have h5 : H5 pq = some (.lst ((freeL hi' (d + 1)).map nv)) := h5
        walk_at "fv"
        have hd5 := (hd3.ex e4).ex e5
        obtain ⟨npa, npc⟩ := hand_new (hd3.ex e4) hpq
        have fp := freeL_pos hi' (d + 1)
        have fz : (freeL hi' (d + 1)).length ≤ 41 := by
          have q : (freeL hi' (d + 1)).length ≤ (List.range (hi'.length + 1)).length := List.length_filter_le _ _
          rw [List.length_range] at q
          omega
        refine l_lenL (SqL.of h5) (freeL hi' (d + 1)).length (by simp) ?_
        walk_at "fv"
        refine ⟨a, c, ns, (freeL hi' (d + 1)).length, rfl, fp, by omega, nz, hd5, fun g H6 g1 e6 hd6 => ?_⟩
        have h6 := e6 _ _ npa h5
        refine r_ixL (SqL.of h6) (at_ns rfl g1) ?_
        walk_at "fv"
        obtain ⟨xs5, hxs5⟩ := hd5.lst
        have hha6 := e6.tup (e5 _ _ hha4) hxs5
        have hmv3 := (hmv.mono e2).exB e3 hxs2
        have hmv6 := ((hmv3.mono e4).mono e5).exB e6 hxs5
        have e06 := (((e02.trans e3).ex2 e4).ex2 e5).trans e6
        have pm : ent (freeL hi' (d + 1)) g ∈ freeL hi' (d + 1) := ent_mem g1
        generalize ent (freeL hi' (d + 1)) g = p0 at pm
        refine x_cut (fun σ' H' => ExB a H H' ∧ Hand H' a c ns ∧ ∃ p v7 v8, σ' = [some (.ref a), some (.ref ha), some (nv kk), some (.ref mq), some (.ref h), some (nv i), some (nv (d + 1)), v7, v8, some (nv p)] ∧ p ∈ freeL hi' (d + 1) ∧ H' ha = some (.tup (hi'.map nv)) ∧ MovesAt H' mq M) ?_ ?_
        · walk_at "fv"
          refine ⟨a, c, ns, 4, rfl, by omega, by omega, nz, hd6, fun g2 H7 g21 e7 hd7 => ?_⟩
          obtain ⟨xs6, hxs6⟩ := hd6.lst
          have h7 := e7 _ _ npa h6
          have e07 := e06.trans e7
          have hha7 := e7.tup hha6 hxs6
          have hmv7 := hmv6.exB e7 hxs6
          have hh7 := hand.tup e07 hh
          walk_at "fv"
          by_cases hz : g2 = 0
          · refine ite_t (dI (by omega)) ?_
            walk_at "fv"
            refine r_ixT (SqT.of hh7) (at_par (b := d + 1) (by omega) (by omega)) ?_
            walk_at "fv"
            refine r_inNL h7 ?_
            walk_at "fv"
            by_cases hm : par hg (d + 1) ∈ freeL hi' (d + 1)
            · refine ite_t (decide_eq_true hm) ?_
              walk_at "fv"
              refine r_ixT (SqT.of hh7) (at_par (b := d + 1) (by omega) (by omega)) ?_
              exact ⟨e07, hd7, _, _, _, rfl, hm, hha7, hmv7⟩
            · refine ite_f (decide_eq_false hm) ?_
              exact ⟨e07, hd7, _, _, _, rfl, pm, hha7, hmv7⟩
          · refine ite_f (dN (by omega)) ?_
            refine ite_f rfl ?_
            exact ⟨e07, hd7, _, _, _, rfl, pm, hha7, hmv7⟩
        · rintro σ' H' ⟨e7, hd7, p, v7, v8, rfl, pm, hha7, ⟨ad, hm1, hm2⟩⟩
          obtain ⟨p1, p2⟩ := mem_freeL.mp pm
          have mv : Mv hi' (d + 1) p := mv_of tri (by omega) (by omega) p1 p2
          walk_at "fv"
          refine l_tup (by simp) fun q8 H8 hq8 e8 h8 => ?_
          walk_at "fv"
          refine l_tup (by simp) fun q9 H9 hq9 e9 h9 => ?_
          walk_at "fv"
          refine r_catA ((e8.trans e9) _ _ hm1) h9 (by simp; omega) fun q10 H10 e10 h10 => ?_
          walk_at "fv"
          have e80 := (e8.trans e9).trans e10
          refine ⟨ha, hi', d + 1, p, rfl, e80 _ _ hha7, by omega, by omega, by omega, fun q11 H11 e11 h11 => ?_⟩
          walk_at "fv"
          have e81 := e80.trans e11
          refine ⟨e7.ex2 e81, hd7.ex e81, q11, q10, M ++ [(d + 1, p)], _, _, _, _, _, rfl, ?_, MovesAt.snoc e81 hm2 (((e9.trans e10).trans e11) _ _ h8) (e11 _ _ h10), Vm_snoc M hg _ _ vm (hhi ▸ mv), by rw [List.length_append, ml]; rfl⟩
          rw [appM_snoc, hhi]
          exact h11
    · rintro σ' H' ⟨e, hd, ha, mq, M, v5, v6, v7, v8, v9, rfl, hha, hmv, vm, ml⟩
      walk_at "fv"
      refine l_tup (by simp) fun v H2 hv e2 h2 => ?_
      exact k v mq ha M H2 (e.ex2 e2) (hd.ex e2) h2 (hmv.mono e2) vm ml
end
end FV
namespace FV
open PySem PySem.Spec PyProof.Rows L2 Evl
open C8 (Cal Mak Def InsC)
theorem mergeK_range {n : Nat} {v : Nat → V} : mergeK [] ((List.range n).map fun i => ((Sum.inl (kB i) : Key), v i)) = (List.range n).map fun i => (Sum.inl (kB i), v i) := by
  induction n with
  | zero => rfl
  | succ n ih =>
    rw [List.range_succ, List.map_append]
    unfold mergeK at ih ⊢
    rw [List.foldl_append, ih]
    show putK _ (Sum.inl (kB n)) (v n) = _
    unfold putK
    rw [if_neg]
    · rfl
    · simp only [List.any_map, List.any_eq_true, List.mem_range, Function.comp, decide_eq_true_eq, not_exists, not_and, Sum.inl.injEq]
      intro j hj z
      unfold kB at z
      omega
theorem putK_range {n j : Nat} {v : Nat → V} {x : V} (hj : j < n) : putK ((List.range n).map fun i => ((Sum.inl (kB i) : Key), v i)) (Sum.inl (kB j)) x = (List.range n).map fun i => (Sum.inl (kB i), put1 v j x i) := by
  unfold putK
  rw [if_pos]
  · rw [List.map_map]
    refine List.map_congr_left fun i _ => ?_
    show (if (Sum.inl (kB i) : Key) = Sum.inl (kB j) then ((Sum.inl (kB i) : Key), x) else (Sum.inl (kB i), v i)) = (Sum.inl (kB i), if i = j then x else v i)
    by_cases h : i = j
    · rw [if_pos (by rw [h]), if_pos h]
    · rw [if_neg (fun z => h (by have z2 : kB i = kB j := Sum.inl.inj z; unfold kB at z2; omega)), if_neg h]
  · simp only [List.any_map, List.any_eq_true, List.mem_range, Function.comp, decide_eq_true_eq]
    exact ⟨j, hj, rfl⟩
theorem paired_range {K : PySem.W.Frag} {H : Hp} {n : Nat} {ad : Nat → Addr} {v : Nat → V} (h : ∀ i, i < n → H (ad i) = some (.tup [.int (kB i), v i])) :
    Paired (fun p kv => SqT K H p [kV kv.1, kv.2]) ((List.range n).map ad) ((List.range n).map fun i => ((Sum.inl (kB i) : Key), v i)) := by
  have q : ∀ l : List Nat, (∀ i, i ∈ l → i < n) → Paired (fun p kv => SqT K H p [kV kv.1, kv.2]) (l.map ad) (l.map fun i => ((Sum.inl (kB i) : Key), v i)) := by
    intro l
    induction l with
    | nil => intro _; exact .nil
    | cons x l ih => exact fun hl => .cons (SqT.of (h x (hl x List.mem_cons_self))) (ih fun i hi => hl i (List.mem_cons_of_mem _ hi))
  exact q _ fun i hi => List.mem_range.mp hi
theorem l_dictP {K : PySem.W.Frag} {H : Hp} {Q : VK} {a : Addr} {n : Nat} {ad : Nat → Addr} {v : Nat → V} (h : H a = some (.lst ((List.range n).map fun i => V.ref (ad i)))) (hp : ∀ i, i < n → H (ad i) = some (.tup [.int (kB i), v i]))
    (k : ∀ p H2, H p = none → Ex H H2 → H2 p = some (.dK ((List.range n).map fun i => (Sum.inl (kB i), v i))) → Q (.ref p) H2) : rDictP K [.ref a] H Q := by
  refine ⟨a, (List.range n).map ad, _, rfl, SqL.of (by rw [List.map_map]; exact h), paired_range hp, fun p hp => k p _ hp (Ex.new hp) ?_⟩
  rw [upd_same, mergeK_range]
section
variable {P : Program} {w : World} {K : PySem.W.Frag} {mg : Str → Option Value} {base : Heap} {cT cW cH : Addr}
theorem l_setL {H : Hp} {Q : VK} {a : Addr} {l : List Nat} (h : SqL K H a (l.map nv)) (hn : l.length ≤ 1000) (k : ∀ p c H2, H p = none → Ex H H2 → c ≤ l.length → H2 p = some (SetO w p (fun j => decide (j ∈ l.map Int.ofNat)) c) → Q (.ref p) H2) : rSetI w (SqL K) [.ref a] H Q :=
  ⟨a, l.map Int.ofNat, rfl, by rw [nv_map]; exact h, by rw [List.length_map]; exact hn, fun p c hp hc => k p c _ hp (Ex.new hp) (by rw [List.length_map] at hc; exact hc) upd_same⟩
theorem l_setT {H : Hp} {Q : VK} {a : Addr} {l : List Nat} (h : SqT K H a (l.map nv)) (hn : l.length ≤ 1000) (k : ∀ p c H2, H p = none → Ex H H2 → c ≤ l.length → H2 p = some (SetO w p (fun j => decide (j ∈ l.map Int.ofNat)) c) → Q (.ref p) H2) : rSetI w (SqT K) [.ref a] H Q :=
  ⟨a, l.map Int.ofNat, rfl, by rw [nv_map]; exact h, by rw [List.length_map]; exact hn, fun p c hp hc => k p c _ hp (Ex.new hp) (by rw [List.length_map] at hc; exact hc) upd_same⟩
theorem l_sortSet {H : Hp} {Q : VK} {a : Addr} {l : List Nat} {c : Nat} (h : H a = some (SetO w a (fun j => decide (j ∈ l.map Int.ofNat)) c)) (hc : c < 64) (k : ∀ (l' : List Nat) p H2, l'.Pairwise (· < ·) → (∀ x, x ∈ l' ↔ x ∈ l) → H p = none → Ex H H2 → H2 p = some (.lst (l'.map nv)) → Q (.ref p) H2) : rSortedSet w [.ref a] H Q := by
  refine ⟨a, _, c, rfl, h, hc, fun ns p hp hm _ hfr => ?_⟩
  have pos : ∀ z, z ∈ ns → 0 ≤ z := fun z hz => by
    have q := of_decide_eq_true ((hm z).mp hz)
    obtain ⟨x, _, rfl⟩ := List.mem_map.mp q
    exact Int.natCast_nonneg x
  have e : (ns.map Int.toNat).map Int.ofNat = ns := by
    rw [List.map_map]
    have q : ns.map (Int.ofNat ∘ Int.toNat) = ns.map id := List.map_congr_left fun z hz => Int.toNat_of_nonneg (pos z hz)
    rw [q, List.map_id]
  refine k (ns.map Int.toNat) p _ ?_ (fun x => ?_) hfr (Ex.new hfr) (by rw [upd_same, ← nv_map, e])
  · rw [← e] at hp
    exact nat_lt hp
  · constructor
    · intro hx
      obtain ⟨z, hz, rfl⟩ := List.mem_map.mp hx
      have q := of_decide_eq_true ((hm z).mp hz)
      obtain ⟨y, hy, rfl⟩ := List.mem_map.mp q
      exact hy
    · intro hx
      exact List.mem_map.mpr ⟨Int.ofNat x, (hm _).mpr (decide_eq_true (List.mem_map.mpr ⟨x, hx, rfl⟩)), rfl⟩
abbrev spLHad : Sp := fun vs H Q _ => ∃ (a m : Addr) (hg : List Nat) (M : List (Nat × Nat)), vs = [.ref a, .ref m] ∧ H a = some (.tup (hg.map nv)) ∧ MovesAt H m M ∧ hg.length ≤ 40 ∧ M.length ≤ 50 ∧ Tr hg ∧ Vm hg M ∧
  ∀ d o ad H2, Ex H H2 → HadAt H2 d o ad hg.length (hadL hg M) → Q (.ref d) H2
abbrev s__law_had : Stmt := top 51
theorem sc__law_had : FnScope ["_law_hung", "_law_moves_here", "_law_found", "_law_block", "_law_place"] ["_law_hung", "_law_moves_here"] (C8.fnScope s__law_had) := C8.fnScope_by (by decide +kernel)
theorem k__law_had (F : Df K mg "_law_had" s__law_had ["_law_hung", "_law_moves_here"]) (T : Txt K mg cT cW cH) : Cal P w K mg base 1 "_law_had" spLHad [] := by
  refine cal_of F sc__law_had (fun vs H Q E h => ?_) (fun f cdv A outer sh H vs Q E hr h => ?_)
  · obtain ⟨a, m, hg, M, rfl, _⟩ := h; rfl
  · obtain ⟨a, m, hg, M, rfl, ha, ⟨ad, hm1, hm2⟩, hz, mz, t, v, k⟩ := h
    have nd := sc__law_had.nd
    have hu := hu_of hr
    have lots := had_lots t v
    refine ⟨_, (pss_cons (ps_set (i := 2) nd rfl (Or.inr rfl) (pe_callTy (show CallR _ _ (rDictP K) from (c_dictP rfl)) (by rfl) T.z_dict (by decide +kernel) (pa_cons (pe_lc (own := [("_law_block", 3)]) rfl nd (pi_range2 (by rfl) T.z_range (pa_cons pe_int (pa_cons (pe_op op_add (pe_callB (show CallR _ _ (rLenS K) from c_len) (by rfl) T.z_len (by decide +kernel) (pa_cons (pv 0) pa_nil)) pe_int) pa_nil))) (blkOk_by (own := [("_law_block", 3)]) (N := ["_law_hung", "_law_moves_here", "_law_found", "_law_block", "_law_place"]) (sc := (C8.fnScope s__law_had)) (by decide +kernel)) (fun _ _ _ _ _ => (pg_name (i := 3) nd rfl (Or.inl rfl))) (fun _ _ _ _ _ => pts_nil) (fun _ _ _ _ _ => (pe_tup (pa_cons (pv 3) (pa_cons (pe_lst (pa_cons (pe_ix (show IxR _ (rIxT K) from ix_tup) (pv 0) (pe_op op_sub (pv 3) pe_int) (fun _ _ => rfl)) pa_nil)) pa_nil))))) pa_nil)))
        (pss_cons (ps_for PassesOwn.never rfl (show PI _ _ _ (iTup K _) from pi_tup (pv 1)) (show PG _ _ (gTup K 2 _) from pg_tup rfl (pgs_cons (pg_name (i := 3) nd rfl (Or.inl rfl)) (pgs_cons (pg_name (i := 4) nd rfl (Or.inl rfl)) pgs_nil)))
          (pss_one (ps_dput hu (pv 2) (pv 3) (pe_op op_cat (pe_dget hu (pv 2) (pv 3) (fun _ _ => rfl)) (pe_lst (pa_cons (pv 4) pa_nil))) rfl)))
        (pss_one (ps_ret (pe_frz (pe_callTy (show CallR _ _ (rDictP K) from (c_dictP rfl)) (by rfl) T.z_dict (by decide +kernel) (pa_cons (pe_lc (own := [("_law_block", 3)]) rfl nd (pi_keys (pe_frz (pv 2))) (blkOk_by (own := [("_law_block", 3)]) (N := ["_law_hung", "_law_moves_here", "_law_found", "_law_block", "_law_place"]) (sc := (C8.fnScope s__law_had)) (by decide +kernel)) (fun _ _ _ _ _ => (pg_name (i := 3) nd rfl (Or.inl rfl))) (fun _ _ _ _ _ => pts_nil) (fun _ _ _ _ _ => (pe_tup (pa_cons (pv 3) (pa_cons (pe_callTy (show CallR _ _ (rTupOf K) from c_tupOf) (by rfl) T.z_tuple (by decide +kernel) (pa_cons (pe_callB (show CallR _ _ (rSortedSet w) from (cr_sortedSet rfl)) (by rfl) T.z_sorted (by decide +kernel) (pa_cons (pe_callTy (show CallR _ _ (rSetI w (SqL K)) from (cr_setLI rfl)) (by rfl) T.z_set (by decide +kernel) (pa_cons (pe_dget hu (pv 2) (pv 3) (fun _ _ => rfl)) pa_nil)) pa_nil)) pa_nil)) pa_nil))))) pa_nil))))))), ?_⟩
    walk_at "fv"
    refine l_lenT (SqT.of ha) hg.length (by simp) ?_
    walk_at "fv"
    refine l_rng2 hg.length (by omega) (by omega) (by omega) ?_
    refine lc_ry wk_rng1 (by omega) (fun D i v H' => ∃ r, v = .ref r ∧ r ≠ D ∧ ∃ l, l ≠ D ∧ H' r = some (.tup [.int (kB i), .ref l]) ∧ H' l = some (.lst ([ent hg i].map nv))) (fun D i v A B e ⟨r, q1, q2, l, q3, q4, q5⟩ => ⟨r, q1, q2, l, q3, e _ _ q2 q4, e _ _ q3 q5⟩) (fun _ _ => rfl) (fun i hi D Ha hD ea ⟨xs, hDa⟩ Q' k' => ?_) (fun p H2 v' hp e2 h2 hv => ?_)
    · walk_at "fv"
      refine r_ixT (SqT.of (ea _ _ ha)) (at_par (b := i + 1) (by omega) (by omega)) ?_
      walk_at "fv"
      refine l_lst (by simp) fun l H3 hl e3 h3 => ?_
      walk_at "fv"
      refine l_tup (by simp) fun r H4 hr4 e4 h4 => ?_
      exact k' _ _ (e3.trans e4) ⟨r, rfl, (ne_of_none (e3 _ _ hDa) hr4).symm, l, (ne_of_none hDa hl).symm, h4, e4 _ _ h3⟩
    · obtain ⟨pd, em, hpd⟩ := pick hv
      rw [em] at h2
      have : ∃ la : Nat → Addr, ∀ i, i < hg.length → H2 (pd i) = some (.tup [.int (kB i), .ref (la i)]) ∧ H2 (la i) = some (.lst ([ent hg i].map nv)) := by
        classical
        refine ⟨fun i => if h : i < hg.length then Classical.choose (hpd i h).2.2 else 0, fun i hi => ?_⟩
        have z := Classical.choose_spec (hpd i hi).2.2
        simp only [hi, dif_pos]
        exact z.2
      obtain ⟨la, hla⟩ := this
      walk_at "fv"
      refine l_dictP h2 (fun i hi => (hla i hi).1) fun d H3 hd e3 h3 => ?_
      walk_at "fv"
      have hdH : H d = none := fresh_back e2 hd
      refine for_w (H0 := H) (fun i σ' H' => Ex H H' ∧ ∃ (v3 v4 : Option V) (la : Nat → Addr), σ' = [some (.ref a), some (.ref m), some (.ref d), v3, v4] ∧ H' d = some (.dK ((List.range hg.length).map fun i => (Sum.inl (kB i), V.ref (la i)))) ∧
        ∀ k, k < hg.length → ∃ l : List Nat, l.length ≤ i + 1 ∧ (∀ q, q ∈ l ↔ (par hg (k + 1) = q ∨ (k + 1, q) ∈ M.take i)) ∧ H' (la k) = some (.lst (l.map nv)))
        (wk_tupP (SqT.of hm1) fun i hi => SqT.of (hm2 i hi)) (fun _ _ _ _ p => p.1) ⟨e2.trans e3, _, _, la, rfl, h3, fun k hk => ⟨[ent hg k], by simp, fun q => ?_, e3 _ _ (hla k hk).2⟩⟩ ?_ ?_
      · rw [List.mem_singleton, List.take_zero]
        exact ⟨fun z => .inl z.symm, fun z => z.elim (fun z => z.symm) (fun z => absurd z List.not_mem_nil)⟩
      · rintro i σ' H' hi ⟨e, v3, v4, la, rfl, hd', hl⟩ H4 e4
        obtain ⟨b1, b2, p2, pb, _⟩ := Vm.at M hg i v hi
        rw [appM_len] at b2 p2
        have kb : kB (mb M i - 1) = ((mb M i : Nat) : Int) := by unfold kB; omega
        obtain ⟨l, lz, lm, hla'⟩ := hl (mb M i - 1) (by omega)
        walk_at "fv"
        refine l_dget (dget_rd (k := Sum.inl ((mb M i : Nat) : Int)) (rd_of (e4 _ _ hd')) (valV_b b1 b2)) ?_
        walk_at "fv"
        refine l_lst (by simp) fun q1 H5 hq1 e5 h5 => ?_
        refine r_cat (e5 _ _ (e4 _ _ hla')) h5 (by simp; omega) fun q2 H6 hq2 e6 h6 => ?_
        walk_at "fv"
        refine l_dput (DPut.k (k := Sum.inl ((mb M i : Nat) : Int)) (e6 _ _ (e5 _ _ (e4 _ _ hd'))) (sz_lt (by simp; omega))) ?_
        have e46 := (e4.trans e5).trans e6
        have ndq : q2 ≠ d := (ne_of_none (e5 _ _ (e4 _ _ hd')) hq2).symm
        refine ⟨Ex.mut (e.trans e46) hdH, _, _, fun k => if k = mb M i - 1 then q2 else la k, rfl, ?_, fun k hk => ?_⟩
        · rw [upd_same, ← kb, putK_range (by omega)]
          congr 2
          refine List.map_congr_left fun j _ => ?_
          show ((Sum.inl (kB j) : Key), if j = mb M i - 1 then V.ref q2 else V.ref (la j)) = (Sum.inl (kB j), V.ref (if j = mb M i - 1 then q2 else la j))
          by_cases hj : j = mb M i - 1
          · rw [if_pos hj, if_pos hj]
          · rw [if_neg hj, if_neg hj]
        · have mt : ∀ q, (k + 1, q) ∈ M.take (i + 1) ↔ ((k + 1, q) ∈ M.take i ∨ (k + 1 = mb M i ∧ q = mp M i)) := fun q => by
            rw [List.take_succ, m_get hi, List.mem_append]
            simp [Prod.ext_iff]
          by_cases hk2 : k = mb M i - 1
          · refine ⟨l ++ [mp M i], by rw [List.length_append, List.length_singleton]; omega, fun q => ?_, ?_⟩
            · rw [mt q, List.mem_append, hk2, lm q, List.mem_singleton]
              have e1 : mb M i - 1 + 1 = mb M i := by omega
              rw [e1]
              constructor
              · rintro ((z | z) | z)
                · exact .inl z
                · exact .inr (.inl z)
                · exact .inr (.inr ⟨rfl, z⟩)
              · rintro (z | z | z)
                · exact .inl (.inl z)
                · exact .inl (.inr z)
                · exact .inr z.2
            · simp only [hk2, if_true]
              rw [upd_ne ndq, h6, List.map_append]
              rfl
          · obtain ⟨l2, lz2, lm2, hla2⟩ := hl k hk
            refine ⟨l2, by omega, fun q => ?_, ?_⟩
            · rw [mt q, lm2 q]
              constructor
              · rintro (z | z)
                · exact .inl z
                · exact .inr (.inl z)
              · rintro (z | z | z)
                · exact .inl z
                · exact .inr z
                · omega
            · simp only [hk2, if_false]
              rw [upd_ne (ne_of hla2 hd' (fun z => by cases z))]
              exact e46 _ _ hla2
      · rintro σ' H' ⟨e, v3, v4, la, rfl, hd', hl⟩
        rw [List.take_length] at hl
        walk_at "fv"
        refine l_frz hd' True.intro fun od => ?_
        refine l_keys upd_same ?_
        have ef : Ex H (upd H' d (.frz od (.dK ((List.range hg.length).map fun i => (Sum.inl (kB i), V.ref (la i)))))) := Ex.mut e hdH
        refine lc_ry (wk_keys (v := fun i => V.ref (la i)) upd_same) (by omega) (fun D i v H'' => ∃ r, v = .ref r ∧ r ≠ D ∧ ∃ b, b ≠ D ∧ H'' r = some (.tup [.int (kB i), .ref b]) ∧ H'' b = some (.tup ((hadL hg M (i + 1)).map nv))) (fun D i v A B e ⟨r, q1, q2, l, q3, q4, q5⟩ => ⟨r, q1, q2, l, q3, e _ _ q2 q4, e _ _ q3 q5⟩) (fun _ _ => rfl) (fun i hi D Ha hD ea ⟨xs, hDa⟩ Q' k' => ?_) (fun p2 H5 v5 hp5 e5 h5 hv5 => ?_)
        · walk_at "fv"
          obtain ⟨l, lz, lm, hla⟩ := hl i hi
          refine l_dget (dget_rd (k := Sum.inl (kB i)) (rd_frz (ea _ _ upd_same)) (valV_b (b := i + 1) (by omega) (by omega))) ?_
          have hla2 : Ha (la (i + 1 - 1)) = some (.lst (l.map nv)) := ea _ _ (by rw [show i + 1 - 1 = i by omega, upd_ne (ne_of hla hd' (fun z => by cases z))]; exact hla)
          walk_at "fv"
          refine l_setL (l := l) (SqL.of hla2) (by omega) fun sq c H6 hsq e6 hc6 h6 => ?_
          walk_at "fv"
          refine l_sortSet h6 (by omega) fun l' q7 H7 pw pm hq7 e7 h7 => ?_
          walk_at "fv"
          refine l_tupOf (SqL.of h7) fun q8 H8 hq8 e8 h8 => ?_
          walk_at "fv"
          refine l_tup (by simp) fun q9 H9 hq9 e9 h9 => ?_
          have el : l' = hadL hg M (i + 1) := asc_eq pw (lots.asc _ (by omega) (by omega)) fun q => by rw [pm q, lm q, mem_hadL t v (by omega) (by omega)]
          exact k' _ _ (((e6.trans e7).trans e8).trans e9) ⟨q9, rfl, (ne_of_none (e8 _ _ (e7 _ _ (e6 _ _ hDa))) hq9).symm, q8, (ne_of_none (e7 _ _ (e6 _ _ hDa)) hq8).symm, h9, by rw [e9 _ _ h8, el]⟩
        · obtain ⟨pd, em2, hpd⟩ := pick hv5
          rw [em2] at h5
          have : ∃ ga : Nat → Addr, ∀ i, i < hg.length → H5 (pd i) = some (.tup [.int (kB i), .ref (ga i)]) ∧ H5 (ga i) = some (.tup ((hadL hg M (i + 1)).map nv)) := by
            classical
            refine ⟨fun i => if h : i < hg.length then Classical.choose (hpd i h).2.2 else 0, fun i hi => ?_⟩
            have z := Classical.choose_spec (hpd i hi).2.2
            simp only [hi, dif_pos]
            exact z.2
          obtain ⟨ga, hga⟩ := this
          walk_at "fv"
          refine l_dictP h5 (fun i hi => (hga i hi).1) fun d2 H6 hd2 e6 h6 => ?_
          refine l_frz h6 True.intro fun od2 => ?_
          refine k d2 od2 ga _ (Ex.mut ((ef.trans e5).trans e6) (fresh_back (ef.trans e5) hd2)) ⟨upd_same, fun i hi => ?_⟩
          rw [upd_ne (ne_of_none (hga i hi).2 hd2)]
          exact e6 _ _ (hga i hi).2
end
end FV
namespace FV
open PySem PySem.Spec PyProof.Rows L2 Evl
open C8 (Cal Mak Def InsC)
theorem rnd_given (L : Nat → List Nat) (n : Nat) (s : List Nat) : ((List.range n).filter fun j => !decide (j + 1 ∈ s) && (L (j + 1)).all fun p => decide (p ∈ s)).map (· + 1) = (blocks n).filter fun b => !decide (b ∈ s) && (L b).all fun p => decide (p ∈ s) := by
  unfold blocks
  rw [List.filter_map]
  rfl
/-- the values that a word of a list may have, by the law -/
def wl (L : Nat → List Nat) (p b : Nat) : List V := given 2 (fun i => if i = 0 then decide (p ∈ L b) else !decide (p ∈ L b) || decide (1 < (L b).length)) (fun i => V.bl (i == 0))
theorem wl_in {L : Nat → List Nat} {p b : Nat} {c : Bool} (h1 : c = true → p ∈ L b) (h2 : c = false → p ∈ L b → 1 < (L b).length) : inV (.bl c) (wl L p b) = true := by
  unfold inV
  rw [List.any_eq_true]
  cases c with
  | true =>
    refine ⟨.bl true, ?_, rfl⟩
    unfold wl given
    exact List.mem_map.mpr ⟨0, List.mem_filter.mpr ⟨by simp, by simp [h1 rfl]⟩, rfl⟩
  | false =>
    refine ⟨.bl false, ?_, rfl⟩
    unfold wl given
    refine List.mem_map.mpr ⟨1, List.mem_filter.mpr ⟨by simp, ?_⟩, rfl⟩
    by_cases hp : p ∈ L b
    · simp [h2 rfl hp]
    · simp [hp]
theorem wl_flat (L : Nat → List Nat) (p b : Nat) : (wl L p b).all flatV = true := by
  unfold wl given
  rw [List.all_map]
  exact List.all_eq_true.mpr fun _ _ => rfl
def wKey (n k : Nat) : List Key := [Sum.inl ((k / n : Nat) : Int), Sum.inl ((k % n + 1 : Nat) : Int)]
def WT (H : Hp) (d : Addr) (la : Nat → Addr) (n m : Nat) (L : Nat → List Nat) : Prop := H d = some (.dT ((List.range m).map fun k => (wKey n k, V.ref (la k)))) ∧ ∀ k, k < m → H (la k) = some (.lst (wl L (k / n) (k % n + 1)))
structure WorthAt (H : Hp) (d : Addr) (o : Obj) (la : Nat → Addr) (n : Nat) (L : Nat → List Nat) : Prop where
  dct : H d = some (.frz o (.dT ((List.range ((n + 1) * n)).map fun k => (wKey n k, V.ref (la k)))))
  lst : ∀ k, k < (n + 1) * n → H (la k) = some (.lst (wl L (k / n) (k % n + 1)))
theorem WorthAt.mono {H H' : Hp} {d : Addr} {o : Obj} {la : Nat → Addr} {n : Nat} {L : Nat → List Nat} (h : WorthAt H d o la n L) (e : Ex H H') : WorthAt H' d o la n L := ⟨e _ _ h.dct, fun k hk => e _ _ (h.lst k hk)⟩
theorem wKey_inj {n k j : Nat} (h : wKey n k = wKey n j) : k = j := by
  unfold wKey at h
  simp only [List.cons.injEq, Sum.inl.injEq, and_true] at h
  obtain ⟨h1, h2⟩ := h
  have e1 : k / n = j / n := by omega
  have e2 : k % n = j % n := by omega
  rw [← Nat.div_add_mod k n, ← Nat.div_add_mod j n, e1, e2]
theorem wKey_at {n p j : Nat} (hj : j < n) : wKey n (p * n + j) = [Sum.inl ((p : Nat) : Int), Sum.inl ((j + 1 : Nat) : Int)] := by
  unfold wKey
  have e1 : (p * n + j) / n = p := by
    rw [Nat.mul_comm, Nat.mul_add_div (by omega), Nat.div_eq_of_lt hj, Nat.add_zero]
  have e2 : (p * n + j) % n = j := by
    rw [Nat.mul_comm, Nat.mul_add_mod, Nat.mod_eq_of_lt hj]
  rw [e1, e2]
section
variable {P : Program} {w : World} {K : PySem.W.Frag} {mg : Str → Option Value} {base : Heap} {cT cW cH : Addr}
abbrev spRound : Sp := fun vs H Q _ => ∃ (d : Addr) (o : Obj) (ad : Nat → Addr) (n : Nat) (L : Nat → List Nat), vs = [.ref d] ∧ HadAt H d o ad n L ∧ n ≤ 40 ∧ Lots n L ∧ RetV (.bl (decide ((rndL L n).length ≤ n))) H Q
abbrev s__law_is_round : Stmt := top 52
theorem sc__law_is_round : FnScope ["_law_known", "_law_done", "_law_turn", "_law_block", "_law_place"] ["_law_known"] (C8.fnScope s__law_is_round) := C8.fnScope_by (by decide +kernel)
theorem k__law_is_round (F : Df K mg "_law_is_round" s__law_is_round ["_law_known"]) (T : Txt K mg cT cW cH) : Cal P w K mg base 1 "_law_is_round" spRound [] := by
  refine cal_of F sc__law_is_round (fun vs H Q E h => ?_) (fun f cdv A outer sh H vs Q E hr h => ?_)
  · obtain ⟨d, o, ad, n, L, rfl, _⟩ := h; rfl
  · obtain ⟨d, o, ad, n, L, rfl, had, hz, lo, k⟩ := h
    have nd := sc__law_is_round.nd
    have hu := hu_of hr
    refine ⟨_, (pss_cons (ps_set (i := 1) nd rfl (Or.inr rfl) (pe_lst (pa_cons pe_int pa_nil)))
        (pss_cons (ps_for PassesOwn.never rfl (pi_range1 (by rfl) T.z_range (pa_cons (pe_callB c_lenD (by rfl) T.z_len (by decide +kernel) (pa_cons (pv 0) pa_nil)) pa_nil)) (pg_name (i := 2) nd rfl (Or.inl rfl))
          (pss_one (ps_set (i := 1) nd rfl (Or.inr rfl) (pe_op op_cat (pv 1) (pe_lc (own := [("_law_block", 3)]) rfl nd (show PI _ _ _ (iList K _) from pi_list (pe_callB (c_sortDI rfl) (by rfl) T.z_sorted (by decide +kernel) (pa_cons (pv 0) pa_nil))) (blkOk_by (own := [("_law_block", 3)]) (N := ["_law_known", "_law_done", "_law_turn", "_law_block", "_law_place"]) (sc := (C8.fnScope s__law_is_round)) (by decide +kernel)) (fun _ _ _ _ _ => (pg_name (i := 3) nd rfl (Or.inl rfl))) (fun _ _ _ _ _ => (pts_one (PW.pt (pw_and (pt_cmpR (show OpR _ _ (rIn K true) from op_notIn_seq) (pv 3) (pv 1) (by rfl)) (pw_and1 (pt_val (pe_callB (show CallR _ _ (rAll K) from (cr_all rfl)) (by rfl) T.z_all (by decide +kernel) (pa_cons (pe_lc (own := [("_law_place", 4)]) rfl nd (show PI _ _ _ (iTup K _) from pi_tup (pe_dget hu (pv 0) (pv 3) (fun _ _ => rfl))) (blkOk_by (own := [("_law_place", 4)]) (N := ["_law_known", "_law_done", "_law_turn", "_law_block", "_law_place"]) (sc := (relS _ (C8.fnScope s__law_is_round))) (by decide +kernel)) (fun _ _ _ _ _ => (pg_name (i := 4) nd rfl (Or.inl rfl))) (fun _ _ _ _ _ => pts_nil) (fun _ _ _ _ _ => (pe_cmpR (show OpR _ _ (rIn K false) from op_in_seq) (pv 4) (pv 1) (by rfl)))) pa_nil)))))))) (fun _ _ _ _ _ => (pv 3)))))))
        (pss_one (ps_ret (pe_cmpR op_le (pe_callB (show CallR _ _ (rLenS K) from c_len) (by rfl) T.z_len (by decide +kernel) (pa_cons (pv 1) pa_nil)) (pe_callB c_lenD (by rfl) T.z_len (by decide +kernel) (pa_cons (pv 0) pa_nil)) (nomark _)))))), ?_⟩
    walk_at "fv"
    refine l_lst (by simp) fun dq H1 hdq e1 h1 => ?_
    walk_at "fv"
    refine l_lenD (had.mono e1).rd n (by simp) ?_
    walk_at "fv"
    refine l_rng1 n (by omega) (by omega) ?_
    refine for_w (H0 := H) (fun i σ' H' => Ex H H' ∧ ∃ dq v2, σ' = [some (.ref d), some (.ref dq), v2, none, none] ∧ H' dq = some (.lst ((itr (rnd L n) i).map nv)) ∧ Ord L n (itr (rnd L n) i)) wk_rng0 (fun _ _ _ _ p => p.1) ⟨e1, dq, _, rfl, h1, Ord.start L n⟩ ?_ ?_
    · rintro i σ' H' hi ⟨e, dq, v2, rfl, hd, oi⟩ H2 e2
      have on := rnd_ord oi
      generalize hs : itr (rnd L n) i = s at hd oi on
      have hd2 := e2 _ _ hd
      have e02 := e.trans e2
      walk_at "fv"
      refine l_sortedD (l := blocks n) (had.mono e02).rd (had_keys n ad) (by rw [blocks_len]; omega) fun l' q H3 pm pw hq e3 h3 => ?_
      have el : l' = blocks n := sorted_is pm pw (blocks_asc n)
      subst el
      rw [blocks_map] at h3
      walk_at "fv"
      have hd3 := e3 _ _ hd2
      have had3 := had.mono (e02.trans e3)
      refine lc_v (wk_listF h3) (by omega) (fun j => !decide (j + 1 ∈ s) && (L (j + 1)).all fun p => decide (p ∈ s)) (fun j => nv (j + 1)) (fun _ _ => rfl) (fun j hj H4 e4 Q4 k4 => ?_) (fun j hj hf H4 e4 Q4 k4 => ?_) (fun q4 H4 hq4 e4 h4 => ?_)
      · walk_at "fv"
        refine r_ninNL (e4 _ _ hd3) ?_
        walk_at "fv"
        by_cases hb : j + 1 ∈ s
        · refine ite_f (by rw [decide_eq_true hb]; rfl) ?_
          rw [show (!decide (j + 1 ∈ s) && (L (j + 1)).all fun p => decide (p ∈ s)) = false by rw [decide_eq_true hb]; rfl] at k4
          exact k4 _ (Ex.refl _)
        · refine ite_t (by rw [decide_eq_false hb]; rfl) ?_
          rw [show (!decide (j + 1 ∈ s) && (L (j + 1)).all fun p => decide (p ∈ s)) = (L (j + 1)).all fun p => decide (p ∈ s) by rw [decide_eq_false hb]; rfl] at k4
          walk_at "fv"
          have g := (had3.mono e4).get (b := j + 1) (by omega) (by omega)
          have ll := lots_len lo (show 1 ≤ j + 1 by omega) (show j + 1 ≤ n by omega)
          refine l_dget g.1 ?_
          walk_at "fv"
          refine seqT_and (SqT.of g.2) ?_
          refine lc_y (wk_tupN g.2) (by omega) (fun i => V.bl (decide (ent (L (j + 1)) i ∈ s))) (fun _ _ => rfl) (fun p hp H7 e7 Q7 k7 => ?_) (fun q2 H7 hq2 e7 h7 => ?_)
          · walk_at "fv"
            refine r_inNL (e7 _ _ (e4 _ _ hd3)) ?_
            exact k7 _ (Ex.refl _)
          · walk_at "fv"
            refine l_allE (fun p => decide (p ∈ s)) h7 ?_
            walk_at "fv"
            exact k4 _ e7
      · walk_at "fv"
        exact k4 _ (Ex.refl _)
      · rw [given_nv, rnd_given] at h4
        have e24 := e3.trans e4
        have hz1 := pigeon_le oi.nd oi.le
        have hz2 := pigeon_le on.nd on.le
        unfold rnd at hz2
        rw [List.length_append] at hz2
        refine r_cat (e24 _ _ hd2) h4 (by rw [List.length_map, List.length_map]; omega) fun q5 H5 hq5 e5 h5 => ?_
        walk_at "fv"
        refine ⟨(e02.trans e24).trans e5, q5, _, rfl, ?_, ?_⟩
        · rw [h5]
          show _ = some (HO.lst ((rnd L n (itr (rnd L n) i)).map nv))
          rw [hs]
          unfold rnd
          rw [List.map_append]
        · show Ord L n (rnd L n (itr (rnd L n) i))
          rw [hs]
          exact on
    · rintro σ' H' ⟨e, dq, v2, rfl, hd, oi⟩
      walk_at "fv"
      refine l_lenL (SqL.of hd) (itr (rnd L n) n).length (by simp) ?_
      walk_at "fv"
      refine l_lenD (had.mono e).rd n (by simp) ?_
      walk_at "fv"
      rw [show decide (((itr (rnd L n) n).length : Int) ≤ (n : Int)) = decide ((rndL L n).length ≤ n) from decide_eq_decide.mpr (by unfold rndL; omega)]
      exact k _ e
abbrev spWorths : Sp := fun vs H Q _ => ∃ (d : Addr) (o : Obj) (ad : Nat → Addr) (n : Nat) (L : Nat → List Nat), vs = [.ref d, nv n] ∧ HadAt H d o ad n L ∧ 1 ≤ n ∧ n ≤ 40 ∧ Lots n L ∧
  ∀ v d1 o1 d2 o2 la H2, Ex H H2 → H2 v = some (.tup [.ref d1, .ref d2]) → HadAt H2 d1 o1 ad n L → WorthAt H2 d2 o2 la n L → Q (.ref v) H2
abbrev s__law_worths : Stmt := top 53
theorem sc__law_worths : FnScope ["_law_known", "_law_many", "_law_ups", "_law_lists", "_law_place", "_law_block", "_law_flags", "_law_flag"] ["_law_known", "_law_many"] (C8.fnScope s__law_worths) := C8.fnScope_by (by decide +kernel)
theorem k__law_worths (F : Df K mg "_law_worths" s__law_worths ["_law_known", "_law_many"]) (T : Txt K mg cT cW cH) : Cal P w K mg base 1 "_law_worths" spWorths [] := by
  refine cal_of F sc__law_worths (fun vs H Q E h => ?_) (fun f cdv A outer sh H vs Q E hr h => ?_)
  · obtain ⟨d, o, ad, n, L, rfl, _⟩ := h; rfl
  · obtain ⟨d, o, ad, n, L, rfl, had, n1, hz, lo, k⟩ := h
    have nd := sc__law_worths.nd
    have hu := hu_of hr
    refine ⟨_, (pss_cons (ps_set (i := 2) nd rfl (Or.inl rfl) (pe_callTy (show CallR _ _ (rDictP K) from (c_dictP rfl)) (by rfl) T.z_dict (by decide +kernel) (pa_cons (pe_lc (own := [("_law_block", 5)]) rfl nd (pi_keys (pv 0)) (blkOk_by (own := [("_law_block", 5)]) (N := ["_law_known", "_law_many", "_law_ups", "_law_lists", "_law_place", "_law_block", "_law_flags", "_law_flag"]) (sc := (C8.fnScope s__law_worths)) (by decide +kernel)) (fun _ _ _ _ _ => (pg_name (i := 5) nd rfl (Or.inl rfl))) (fun _ _ _ _ _ => pts_nil) (fun _ _ _ _ _ => (pe_tup (pa_cons (pv 5) (pa_cons (pe_dget hu (pv 0) (pv 5) (fun _ _ => rfl)) pa_nil))))) pa_nil)))
        (pss_cons (ps_set (i := 3) nd rfl (Or.inl rfl) pe_dnewT)
        (pss_cons (ps_for PassesOwn.never rfl (pi_range1 (by rfl) T.z_range (pa_cons (pe_op op_add (pv 1) pe_int) pa_nil)) (pg_name (i := 4) nd rfl (Or.inl rfl))
          (pss_one (ps_for PassesOwn.never rfl (pi_range2 (by rfl) T.z_range (pa_cons pe_int (pa_cons (pe_op op_add (pv 1) pe_int) pa_nil))) (pg_name (i := 5) nd rfl (Or.inl rfl))
              (pss_cons (ps_set (i := 6) nd rfl (Or.inr rfl) (pe_lst (pa_cons (pe_cmpR (show OpR _ _ (rIn K false) from op_in_seq) (pv 4) (pe_dget hu (pv 0) (pv 5) (fun _ _ => rfl)) (by rfl)) (pa_cons (pe_or (pe_cmpR (show OpR _ _ (rIn K true) from op_notIn_seq) (pv 4) (pe_dget hu (pv 0) (pv 5) (fun _ _ => rfl)) (by rfl)) (pe_one (pe_cmpR op_gt (pe_callB (show CallR _ _ (rLenS K) from c_len) (by rfl) T.z_len (by decide +kernel) (pa_cons (pe_dget hu (pv 0) (pv 5) (fun _ _ => rfl)) pa_nil)) pe_int (nomark _)))) pa_nil))))
                (pss_one (ps_dput hu (pv 3) (pe_tup (pa_cons (pv 4) (pa_cons (pv 5) pa_nil))) (pe_lc (own := [("_law_flag", 7)]) rfl nd (show PI _ _ _ (iTup K _) from pi_tup (pe_tup (pa_cons pe_bl (pa_cons pe_bl pa_nil)))) (blkOk_by (own := [("_law_flag", 7)]) (N := ["_law_known", "_law_many", "_law_ups", "_law_lists", "_law_place", "_law_block", "_law_flags", "_law_flag"]) (sc := (C8.fnScope s__law_worths)) (by decide +kernel)) (fun _ _ _ _ _ => (pg_name (i := 7) nd rfl (Or.inl rfl))) (fun _ _ _ _ _ => (pts_one (pt_val (pe_ix (show IxR _ (rIxL K) from ix_list) (pv 6) (pe_callTy c_int1 (by rfl) T.z_int (by decide +kernel) (pa_cons (pe_not (pv 7)) pa_nil)) (fun _ _ => rfl))))) (fun _ _ _ _ _ => (pv 7))) rfl))))))
        (pss_one (ps_ret (pe_tup (pa_cons (pe_frz (pv 2)) (pa_cons (pe_frz (pv 3)) pa_nil)))))))), ?_⟩
    walk_at "fv"
    refine l_keys had.1 ?_
    refine lc_ry (wk_keys (v := fun i => V.ref (ad i)) had.1) (by omega) (fun D i v H' => ∃ r, v = .ref r ∧ r ≠ D ∧ H' r = some (.tup [.int (kB i), .ref (ad i)])) (fun D i v A B e ⟨r, q1, q2, q3⟩ => ⟨r, q1, q2, e _ _ q2 q3⟩) (fun _ _ => rfl) (fun i hi D Ha hD ea ⟨xs, hDa⟩ Q' k' => ?_) (fun p H1 v hp e1 h1 hv => ?_)
    · have g := (had.mono ea).get (b := i + 1) (by omega) (by omega)
      walk_at "fv"
      refine l_dget g.1 ?_
      walk_at "fv"
      refine l_tup (by simp) fun r H4 hr4 e4 h4 => ?_
      exact k' _ _ e4 ⟨r, rfl, (ne_of_none hDa hr4).symm, h4⟩
    · obtain ⟨pd, em, hpd⟩ := pick hv
      rw [em] at h1
      walk_at "fv"
      refine l_dictP h1 (fun i hi => (hpd i hi).2.2) fun d1 H2 hd1 e2 h2 => ?_
      walk_at "fv"
      intro d2 hd2
      have ne12 : d1 ≠ d2 := ne_of_none h2 hd2
      have hd1H : H d1 = none := fresh_back e1 hd1
      have hd2H : H d2 = none := fresh_back (e1.trans e2) hd2
      have e3 : Ex H (upd H2 d2 (.dT [])) := Ex.mut (e1.trans e2) hd2H
      walk_at "fv"
      refine l_rng1 (n + 1) (by omega) (by omega) ?_
      refine for_w (H0 := H) (fun p σ' H' => Ex H H' ∧ H' d1 = some (.dK ((List.range n).map fun i => (Sum.inl (kB i), V.ref (ad i)))) ∧ ∃ v4 v5 v6 la, σ' = [some (.ref d), some (nv n), some (.ref d1), some (.ref d2), v4, v5, v6, none] ∧ WT H' d2 la n (p * n) L)
        wk_rng0 (fun _ _ _ _ p => p.1) ⟨e3, by rw [upd_ne ne12]; exact h2, _, _, _, fun _ => 0, rfl, by rw [Nat.zero_mul]; exact ⟨upd_same, fun k hk => absurd hk (Nat.not_lt_zero k)⟩⟩ ?_ ?_
      · rintro p σ' H' hp' ⟨e, hd1', v4, v5, v6, la, rfl, wt⟩ H3 e03
        walk_at "fv"
        refine l_rng2 n (by omega) (by omega) (by omega) ?_
        refine for_w (H0 := H) (fun j σ' H' => Ex H H' ∧ H' d1 = some (.dK ((List.range n).map fun i => (Sum.inl (kB i), V.ref (ad i)))) ∧ ∃ v5 v6 la, σ' = [some (.ref d), some (nv n), some (.ref d1), some (.ref d2), some (nv p), v5, v6, none] ∧ WT H' d2 la n (p * n + j) L)
          wk_rng1 (fun _ _ _ _ p => p.1) ⟨e.trans e03, e03 _ _ hd1', _, _, la, rfl, e03 _ _ wt.1, fun k hk => e03 _ _ (wt.2 k hk)⟩ ?_ ?_
        · rintro j σ' H4 hj ⟨e4, hd14, v5, v6, la, rfl, w1, w2⟩ H5 e5
          have e05 := e4.trans e5
          have g := (had.mono e05).get (b := j + 1) (by omega) (by omega)
          have kz : p * n + j < (n + 1) * n := by
            have : p * n ≤ n * n := Nat.mul_le_mul_right n (by omega)
            rw [Nat.add_mul, Nat.one_mul]
            omega
          have nn : (n + 1) * n ≤ 41 * 40 := Nat.mul_le_mul (by omega) hz
          walk_at "fv"
          refine l_dget g.1 ?_
          refine r_inNT g.2 ?_
          walk_at "fv"
          refine l_dget g.1 ?_
          refine r_ninNT g.2 ?_
          walk_at "fv"
          have main : ∀ f1 : Bool, f1 = (!decide (p ∈ L (j + 1)) || decide (1 < (L (j + 1)).length)) → ∀ fl H6, H5 fl = none → Ex H5 H6 → H6 fl = some (.lst [.bl (decide (p ∈ L (j + 1))), .bl f1]) →
            sDPut (tVar 3) (tTup (tCons (tVar 4) (tCons (tVar 5) tNil))) (tLc (iTup K (tTup (tCons (tC (.bl true)) (tCons (tC (.bl false)) tNil)))) (gName 7) (tTest (tOp (rIxL K) (tVar 6) (tCB rInt1 (tCons (tNotV (tVar 7)) tNil)))) (tVar 7) [7])
              { nx := fun σ' H' => Ex H H' ∧ H' d1 = some (.dK ((List.range n).map fun i => (Sum.inl (kB i), V.ref (ad i)))) ∧ ∃ v5 v6 la, σ' = [some (.ref d), some (nv n), some (.ref d1), some (.ref d2), some (nv p), v5, v6, none] ∧ WT H' d2 la n (p * n + (j + 1)) L, rt := Q }
              [some (.ref d), some (nv n), some (.ref d1), some (.ref d2), some (nv p), some (nv (j + 1)), some (.ref fl), none] H6 := by
            intro f1 hf1 fl H6 hfl e6 h6
            walk_at "fv"
            refine l_tup (by simp) fun tq H7 htq e7 h7 => ?_
            walk_at "fv"
            refine lc_v (n := 2) (wk_tupF (n := 2) (f := fun i => V.bl (i == 0)) h7) (by omega) (fun i => if i = 0 then decide (p ∈ L (j + 1)) else !decide (p ∈ L (j + 1)) || decide (1 < (L (j + 1)).length)) (fun i => V.bl (i == 0)) (fun _ _ => rfl) (fun i hi H8 e8 Q8 k8 => ?_) (fun i hi hf H8 e8 Q8 k8 => ?_) (fun lq H8 hlq e8 h8 => ?_)
            · have h68 := e8 _ _ (e7 _ _ h6)
              walk_at "fv"
              refine l_intB ?_
              rcases Nat.lt_or_ge i 1 with h0 | h0
              · have : i = 0 := by omega
                subst this
                refine r_ixL (SqL.of h68) (at_nat (i := 0) rfl rfl) ?_
                walk_at "fv"
                exact k8 _ (Ex.refl _)
              · have : i = 1 := by omega
                subst this
                refine r_ixL (SqL.of h68) (at_nat (i := 1) rfl rfl) ?_
                walk_at "fv"
                rw [hf1]
                exact k8 _ (Ex.refl _)
            · walk_at "fv"
              exact k8 _ (Ex.refl _)
            · have h8 : H8 lq = some (.lst (wl L p (j + 1))) := h8
              walk_at "fv"
              refine l_tup (by simp) fun kq H9 hkq e9 h9 => ?_
              have e59 := ((e6.trans e7).trans e8).trans e9
              have e49 := e5.trans e59
              refine l_dput (DPut.t (k := [Sum.inl ((p : Nat) : Int), Sum.inl ((j + 1 : Nat) : Int)]) (e49 _ _ w1) h9 (sz_lt (by rw [List.length_map, List.length_range]; omega))) ?_
              refine ⟨Ex.mut (e05.trans e59) hd2H, by rw [upd_ne ne12]; exact e49 _ _ hd14, _, _, fun k => if k = p * n + j then lq else la k, rfl, ?_, fun k hk => ?_⟩
              · rw [upd_same, ← wKey_at hj]
                congr 2
                unfold putK
                rw [if_neg]
                · rw [← Nat.add_assoc, List.range_succ, List.map_append]
                  congr 1
                  · refine List.map_congr_left fun x hx => ?_
                    have := List.mem_range.mp hx
                    show _ = (wKey n x, V.ref (if x = p * n + j then lq else la x))
                    rw [if_neg (by omega)]
                  · show _ = [(wKey n (p * n + j), V.ref (if p * n + j = p * n + j then lq else la (p * n + j)))]
                    rw [if_pos rfl]
                · simp only [List.any_map, List.any_eq_true, List.mem_range, Function.comp, decide_eq_true_eq, not_exists, not_and]
                  intro x hx z
                  have := wKey_inj z
                  omega
              · have nl : lq ≠ d2 := ne_of (e9 _ _ h8) (e49 _ _ w1) (fun z => by cases z)
                by_cases hk2 : k = p * n + j
                · subst hk2
                  simp only [if_true]
                  rw [upd_ne nl]
                  have q1 : (p * n + j) / n = p := by rw [Nat.mul_comm, Nat.mul_add_div (by omega), Nat.div_eq_of_lt hj, Nat.add_zero]
                  have q2 : (p * n + j) % n = j := by rw [Nat.mul_comm, Nat.mul_add_mod, Nat.mod_eq_of_lt hj]
                  rw [q1, q2]
                  exact e9 _ _ h8
                · simp only [hk2, if_false]
                  have hk3 := w2 k (by omega)
                  rw [upd_ne (ne_of hk3 w1 (fun z => by cases z))]
                  exact e49 _ _ hk3
          by_cases hp2 : p ∈ L (j + 1)
          · refine ite_f (by rw [decide_eq_true hp2]; rfl) ?_
            walk_at "fv"
            refine l_dget g.1 ?_
            walk_at "fv"
            refine l_lenT (SqT.of g.2) (L (j + 1)).length (by simp) ?_
            walk_at "fv"
            refine l_lst (by simp) fun fl H6 hfl e6 h6 => ?_
            exact main _ (by rw [decide_eq_true hp2]; exact decide_eq_decide.mpr (by omega)) fl H6 hfl e6 h6
          · refine ite_t (by rw [decide_eq_false hp2]; rfl) ?_
            walk_at "fv"
            refine l_lst (by simp) fun fl H6 hfl e6 h6 => ?_
            exact main _ (by rw [decide_eq_false hp2]; rfl) fl H6 hfl e6 h6
        · rintro σ' H4 ⟨e4, hd14, v5, v6, la, rfl, wt⟩
          exact ⟨e4, hd14, _, _, _, la, rfl, by rw [Nat.succ_mul]; exact wt⟩
      · rintro σ' H' ⟨e, hd1', v4, v5, v6, la, rfl, w1, w2⟩
        walk_at "fv"
        refine l_frz hd1' True.intro fun od1 => ?_
        walk_at "fv"
        have w1' : (upd H' d1 (.frz od1 (.dK ((List.range n).map fun i => (Sum.inl (kB i), V.ref (ad i)))))) d2 = some (.dT ((List.range ((n + 1) * n)).map fun k => (wKey n k, V.ref (la k)))) := by
          rw [upd_ne ne12.symm]
          exact w1
        refine l_frz w1' True.intro fun od2 => ?_
        walk_at "fv"
        refine l_tup (by simp) fun v H4 hv4 e4 h4 => ?_
        have ef : Ex H (upd (upd H' d1 (.frz od1 (.dK ((List.range n).map fun i => (Sum.inl (kB i), V.ref (ad i)))))) d2 (.frz od2 (.dT ((List.range ((n + 1) * n)).map fun k => (wKey n k, V.ref (la k)))))) := Ex.mut (Ex.mut e hd1H) hd2H
        refine k v d1 od1 d2 od2 la H4 (ef.trans e4) h4 ⟨e4 _ _ (by rw [upd_ne ne12, upd_same]), fun i hi => e4 _ _ (ef _ _ (had.2 i hi))⟩ ⟨e4 _ _ upd_same, fun k hk => e4 _ _ ?_⟩
        have q := w2 k hk
        rw [upd_ne (ne_of q w1 (fun z => by cases z)), upd_ne (ne_of q hd1' (fun z => by cases z))]
        exact q
end
end FV
namespace FV
open PySem PySem.Spec PyProof.Rows L2 Evl
open C8 (Cal Mak Def InsC)
theorem ent_range (l : List Nat) : (List.range l.length).map (ent l) = l := by
  refine List.ext_getElem (by simp) fun i h1 h2 => ?_
  rw [List.getElem_map, List.getElem_range]
  unfold ent
  rw [List.getD_eq_getElem?_getD, List.getElem?_eq_getElem h2]
  rfl
theorem map_ent {α : Type} (l : List Nat) (g : Nat → α) : l.map g = (List.range l.length).map fun k => g (ent l k) := by
  have q : (List.range l.length).map (fun k => g (ent l k)) = ((List.range l.length).map (ent l)).map g := by rw [List.map_map]; rfl
  rw [q, ent_range]
theorem filter_ent (l : List Nat) (g : Nat → Bool) : ((List.range l.length).filter fun k => g (ent l k)).map (ent l) = l.filter g := by
  have q : (((List.range l.length).map (ent l)).filter g) = ((List.range l.length).filter fun k => g (ent l k)).map (ent l) := by rw [List.filter_map]; rfl
  rw [← q, ent_range]
def cN (u p : Nat) : Nat := if p = u then 0 else 3
def cI (u p i : Nat) : Nat := if p = u then 0 else 1 + (if u < i then 1 else 0) + (if p < i then 1 else 0)
theorem cI_end {u p n : Nat} (hu : u ≤ n) (hp : p ≤ n) : cI u p (n + 1) = cN u p := by
  unfold cI cN
  split
  · rfl
  · rw [if_pos (by omega), if_pos (by omega)]
theorem dNat (i p : Nat) : decide (V.int (i : Int) = V.int (p : Int)) = decide (i = p) := (decI _ _).trans (by simp only [Int.ofNat_inj])
theorem lt_step (a i : Nat) : (if a < i + 1 then 1 else 0) = (if a < i then 1 else 0) + (if a = i then 1 else 0) := by
  by_cases h1 : a < i
  · rw [if_pos h1, if_pos (by omega), if_neg (by omega)]
  · by_cases h2 : a = i
    · rw [if_neg h1, if_pos (by omega), if_pos h2]
    · rw [if_neg h1, if_neg (by omega), if_neg h2]
theorem ne_ind {u p i : Nat} (h : p ≠ u) : (if (!(decide (u = i) == decide (i = p))) = true then (1 : Int) else 0) = (((if u = i then 1 else 0) + (if p = i then 1 else 0) : Nat) : Int) := by
  by_cases h1 : u = i
  · have h2 : ¬ i = p := fun z => h (z.symm.trans h1.symm)
    have h3 : ¬ p = i := fun z => h2 z.symm
    rw [decide_eq_true h1, decide_eq_false h2, if_pos h1, if_neg h3]
    rfl
  · by_cases h2 : i = p
    · rw [decide_eq_false h1, decide_eq_true h2, if_neg h1, if_pos h2.symm]
      rfl
    · have h3 : ¬ p = i := fun z => h2 z.symm
      rw [decide_eq_false h1, decide_eq_false h2, if_neg h1, if_neg h3]
      rfl
theorem eq_ind (u i : Nat) : (if (!(decide (u = i) == decide (i = u))) = true then (1 : Int) else 0) = 0 := by
  by_cases h1 : u = i
  · rw [decide_eq_true h1, decide_eq_true h1.symm]
    rfl
  · have h2 : ¬ i = u := fun z => h1 z.symm
    rw [decide_eq_false h1, decide_eq_false h2]
    rfl
theorem cI_step (u p i : Nat) : (cI u p i : Int) + (if (!decide (V.bl (decide (u = i)) = V.bl (decide (V.int (i : Int) = V.int (p : Int))))) = true then 1 else 0) = ((cI u p (i + 1) : Nat) : Int) := by
  rw [dNat, decB]
  unfold cI
  by_cases h1 : p = u
  · rw [if_pos h1, if_pos h1, h1, eq_ind]
    rfl
  · rw [if_neg h1, if_neg h1, ne_ind h1, lt_step u i, lt_step p i]
    omega
theorem cI_zero (u p : Nat) : (if (!decide (u = p)) = true then (1 : Int) else 0) = ((cI u p 0 : Nat) : Int) := by
  unfold cI
  by_cases h : u = p
  · rw [decide_eq_true h, if_pos h.symm]
    rfl
  · have h2 : ¬ p = u := fun z => h z.symm
    rw [decide_eq_false h, if_neg h2]
    rfl
section
variable {P : Program} {w : World} {K : PySem.W.Frag} {mg : Str → Option Value} {base : Heap} {cT cW cH : Addr}
abbrev spCost : Sp := fun vs H Q _ => ∃ (u l : Addr) (rows : Nat → Addr) (U : List Nat) (b p : Nat), vs = [.ref u, .ref l, nv b, nv p] ∧ H u = some (.tup (U.map nv)) ∧ RowsAt H l rows U.length U ∧ U.length ≤ 40 ∧ 1 ≤ b ∧ b ≤ U.length ∧ par U b ≤ U.length ∧ p ≤ U.length ∧ RetV (nv (cN (par U b) p)) H Q
abbrev s__law_cost : Stmt := top 55
theorem sc__law_cost : FnScope ["_law_ups", "_law_lists", "_law_block", "_law_place", "_law_found", "_law_other", "_law_told"] ["_law_ups", "_law_lists", "_law_block", "_law_place"] (C8.fnScope s__law_cost) := C8.fnScope_by (by decide +kernel)
theorem k__law_cost (F : Df K mg "_law_cost" s__law_cost ["_law_ups", "_law_lists", "_law_block", "_law_place"]) (T : Txt K mg cT cW cH) : Cal P w K mg base 1 "_law_cost" spCost [] := by
  refine cal_of F sc__law_cost (fun vs H Q E h => ?_) (fun f cdv A outer sh H vs Q E hr h => ?_)
  · obtain ⟨u, l, rows, U, b, p, rfl, _⟩ := h; rfl
  · obtain ⟨u, l, rows, U, b, p, rfl, hup, hrows, hz, b1, b2, u2, p2, k⟩ := h
    have nd := sc__law_cost.nd
    refine ⟨_, (pss_cons (ps_set (i := 4) nd rfl (Or.inl rfl) (pe_callTy c_int1 (by rfl) T.z_int (by decide +kernel) (pa_cons (pe_and (pe_cmpR op_notN (pe_ix (show IxR _ (rIxT K) from ix_tup) (pv 0) (pe_op op_sub (pv 2) pe_int) (fun _ _ => rfl)) pe_non (nomark _)) (pe_one (pe_cmpR op_ne (pe_ix (show IxR _ (rIxT K) from ix_tup) (pv 0) (pe_op op_sub (pv 2) pe_int) (fun _ _ => rfl)) (pv 3) (nomark _)))) pa_nil)))
        (pss_cons (ps_for PassesOwn.never rfl (pi_range1 (by rfl) T.z_range (pa_cons (pe_callB (show CallR _ _ (rLenS K) from c_len) (by rfl) T.z_len (by decide +kernel) (pa_cons (pv 1) pa_nil)) pa_nil)) (pg_name (i := 5) nd rfl (Or.inl rfl))
          (pss_cons (ps_set (i := 6) nd rfl (Or.inl rfl) (pe_ix (show IxR _ (rIxT K) from ix_tup) (pe_ix (show IxR _ (rIxT K) from ix_tup) (pv 1) (pv 5) (fun _ _ => rfl)) (pe_op op_sub (pv 2) pe_int) (fun _ _ => rfl)))
            (pss_one (ps_set (i := 4) nd rfl (Or.inl rfl) (pe_op op_add (pv 4) (pe_callTy c_int1 (by rfl) T.z_int (by decide +kernel) (pa_cons (pe_and (pe_cmpR op_notN (pv 6) pe_non (nomark _)) (pe_one (pe_cmpR op_ne (pv 6) (pe_cmpR op_eq (pv 5) (pv 3) (nomark _)) (nomark _)))) pa_nil)))))))
        (pss_one (ps_ret (pv 4))))), ?_⟩
    walk_at "fv"
    refine r_ixT (SqT.of hup) (at_par b1 b2) ?_
    walk_at "fv"
    refine ite_t rfl ?_
    walk_at "fv"
    refine r_ixT (SqT.of hup) (at_par b1 b2) ?_
    walk_at "fv"
    refine l_intB ?_
    rw [dNat, cI_zero]
    walk_at "fv"
    refine l_lenT (SqT.of hrows.1) (U.length + 1) (by simp) ?_
    walk_at "fv"
    refine l_rng1 (U.length + 1) (by omega) (by omega) ?_
    refine for_w (H0 := H) (fun i σ' H' => Ex H H' ∧ ∃ v5 v6, σ' = [some (.ref u), some (.ref l), some (nv b), some (nv p), some (nv (cI (par U b) p i)), v5, v6]) wk_rng0 (fun _ _ _ _ p => p.1) ⟨Ex.refl _, _, _, rfl⟩ ?_ ?_
    · rintro i σ' H' hi ⟨e, v5, v6, rfl⟩ H2 e2
      have hr2 := hrows.mono (e.trans e2)
      walk_at "fv"
      refine r_ixT (SqT.of hr2.1) (at_fn rfl hi) ?_
      walk_at "fv"
      refine r_ixT (SqT.of (hr2.2 i (by omega))) (at_fn (i := b - 1) (by omega) (by omega)) ?_
      walk_at "fv"
      refine ite_t rfl ?_
      walk_at "fv"
      refine l_intB ?_
      walk_at "fv"
      refine ⟨e.trans e2, some (nv i), some (.bl (decide (par U b = i))), ?_⟩
      show _ = [some (V.ref u), some (V.ref l), some (nv b), some (nv p), some (V.int ((cI (par U b) p (i + 1) : Nat) : Int)), some (nv i), some (.bl (decide (par U b = i)))]
      rw [← cI_step]
      rfl
    · rintro σ' H' ⟨e, v5, v6, rfl⟩
      rw [cI_end u2 p2]
      walk_at "fv"
      exact k _ e
abbrev spLVote : Sp := fun vs H Q _ => ∃ (u l : Addr) (rows : Nat → Addr) (U : List Nat) (b : Nat), vs = [.ref u, .ref l, nv b] ∧ H u = some (.tup (U.map nv)) ∧ RowsAt H l rows U.length U ∧ U.length ≤ 40 ∧ 1 ≤ b ∧ b ≤ U.length ∧ par U b ≤ U.length ∧ par U b ≠ b ∧
  ∀ v q H2, Ex H H2 → H2 v = some (.tup [nv 0, .ref q]) → H2 q = some (.tup [nv (par U b)]) → Q (.ref v) H2
abbrev s__law_vote : Stmt := top 56
theorem sc__law_vote : FnScope ["_law_ups", "_law_lists", "_law_block", "_law_costs", "_law_least", "_law_place", "_law_one"] ["_law_ups", "_law_lists", "_law_block"] (C8.fnScope s__law_vote) := C8.fnScope_by (by decide +kernel)
theorem k__law_vote (F : Df K mg "_law_vote" s__law_vote ["_law_ups", "_law_lists", "_law_block"]) (T : Txt K mg cT cW cH) (c__law_cost : Cal P w K mg base 1 "_law_cost" spCost []) : Cal P w K mg base 2 "_law_vote" spLVote [] := by
  refine cal_of F sc__law_vote (fun vs H Q E h => ?_) (fun f cdv A outer sh H vs Q E hr h => ?_)
  · obtain ⟨u, l, rows, U, b, rfl, _⟩ := h; rfl
  · obtain ⟨u, l, rows, U, b, rfl, hup, hrows, hz, b1, b2, u2, u3, k⟩ := h
    have nd := sc__law_vote.nd
    refine ⟨_, (pss_cons (ps_setLc (i := 3) (own := [("_law_place", 5)]) rfl nd rfl rfl (sw_true rfl rfl rfl (by decide +kernel)) (pi_range1 (by rfl) T.z_range (pa_cons (pe_callB (show CallR _ _ (rLenS K) from c_len) (by rfl) T.z_len (by decide +kernel) (pa_cons (pv 1) pa_nil)) pa_nil)) (blkOk_by (own := [("_law_place", 5)]) (N := ["_law_ups", "_law_lists", "_law_block", "_law_costs", "_law_least", "_law_place", "_law_one"]) (sc := (C8.fnScope s__law_vote)) (by decide +kernel)) (fun _ _ _ _ _ => (pg_name (i := 5) nd rfl (Or.inl rfl))) (fun _ _ _ _ _ => (pts_one (pt_cmpR op_ne (pv 5) (pv 2) (nomark _)))) (fun _ _ _ _ _ => (pe_tup (pa_cons (C8.pe_c c__law_cost hr (by decide) rfl (pa_cons (pv 0) (pa_cons (pv 1) (pa_cons (pv 2) (pa_cons (pv 5) pa_nil))))) (pa_cons (pv 5) pa_nil)))))
        (pss_cons (ps_set (i := 4) nd rfl (Or.inr rfl) (pe_ix (show IxR _ (rIxT K) from ix_tup) (pe_callB (show CallR _ _ (rMinT K) from (cr_minT rfl hr.units)) (by rfl) T.z_min (by decide +kernel) (pa_cons (pv 3) pa_nil)) pe_int (fun _ _ => rfl)))
        (pss_one (ps_ret (pe_tup (pa_cons (pv 4) (pa_cons (pe_callTy (show CallR _ _ (rTupOf K) from c_tupOf) (by rfl) T.z_tuple (by decide +kernel) (pa_cons (pe_lc (own := [("_law_one", 6), ("_law_place", 5)]) rfl nd (show PI _ _ _ (iList K _) from pi_list (pv 3)) (blkOk_by (own := [("_law_one", 6), ("_law_place", 5)]) (N := ["_law_ups", "_law_lists", "_law_block", "_law_costs", "_law_least", "_law_place", "_law_one"]) (sc := (C8.fnScope s__law_vote)) (by decide +kernel)) (fun _ _ _ _ _ => (show PG _ _ (gTup K 2 _) from pg_tup rfl (pgs_cons (pg_name (i := 6) nd rfl (Or.inl rfl)) (pgs_cons (pg_name (i := 5) nd rfl (Or.inl rfl)) pgs_nil)))) (fun _ _ _ _ _ => (pts_one (pt_cmpR op_eq (pv 6) (pv 4) (nomark _)))) (fun _ _ _ _ _ => (pv 5))) pa_nil)) pa_nil))))))), ?_⟩
    walk_at "fv"
    refine l_lenT (SqT.of hrows.1) (U.length + 1) (by simp) ?_
    walk_at "fv"
    refine l_rng1 (U.length + 1) (by omega) (by omega) ?_
    refine lc_r wk_rng0 (by omega) (fun D i v H' => ∃ r, v = .ref r ∧ r ≠ D ∧ H' r = some (.tup [nv (cN (par U b) i), nv i])) (fun i => !decide (i = b)) (fun D i v A B e ⟨r, q1, q2, q3⟩ => ⟨r, q1, q2, e _ _ q2 q3⟩) (fun _ _ => rfl) (fun i hi H1 e1 Q1 k1 => ?_) (fun i hi hf D Ha hD ea ⟨xs, hDa⟩ Q' k' => ?_) (fun cq H1 v hcq e1 h1 hv => ?_)
    · walk_at "fv"
      rw [dNat]
      exact k1 _ (Ex.refl _)
    · walk_at "fv"
      refine ⟨u, l, rows, U, b, i, rfl, ea _ _ hup, hrows.mono ea, hz, b1, b2, u2, by omega, fun H3 e3 => ?_⟩
      walk_at "fv"
      refine l_tup (by simp) fun r H4 hr4 e4 h4 => ?_
      exact k' _ _ (e3.trans e4) ⟨r, rfl, (ne_of_none (e3 _ _ hDa) hr4).symm, h4⟩
    · have : ∃ ad : Nat → Addr, ∀ i, i < U.length + 1 → (!decide (i = b)) = true → v i = .ref (ad i) ∧ H1 (ad i) = some (.tup [nv (cN (par U b) i), nv i]) := by
        classical
        refine ⟨fun i => if h : i < U.length + 1 ∧ (!decide (i = b)) = true then Classical.choose (hv i h.1 h.2) else 0, fun i hi hf => ?_⟩
        have z := Classical.choose_spec (hv i hi hf)
        simp only [hi, hf, and_self, dif_pos]
        exact ⟨z.1, z.2.2⟩
      obtain ⟨ad, had⟩ := this
      generalize hjs : (List.range (U.length + 1)).filter (fun i => !decide (i = b)) = js at *
      have jin : ∀ i, i ∈ js ↔ i ≤ U.length ∧ i ≠ b := fun i => by
        rw [← hjs, List.mem_filter, List.mem_range, Bool.not_eq_true', decide_eq_false_iff_not]
        exact ⟨fun z => ⟨by omega, z.2⟩, fun z => ⟨by omega, z.2⟩⟩
      have jad : ∀ i, i ∈ js → v i = .ref (ad i) ∧ H1 (ad i) = some (.tup [nv (cN (par U b) i), nv i]) := fun i hi => by
        obtain ⟨z1, z2⟩ := (jin i).mp hi
        exact had i (by omega) (by rw [decide_eq_false z2]; rfl)
      have jz : js.length ≤ U.length + 1 := by
        rw [← hjs]
        have q := List.length_filter_le (fun i => !decide (i = b)) (List.range (U.length + 1))
        rw [List.length_range] at q
        exact q
      have um : par U b ∈ js := (jin _).mpr ⟨u2, u3⟩
      have h1' : H1 cq = some (.lst (js.map fun i => V.ref (ad i))) := by
        rw [h1]
        unfold given
        rw [hjs]
        congr 2
        exact List.map_congr_left fun i hi => (jad i hi).1
      walk_at "fv"
      refine ⟨cq, js.map fun i => (ad i, cN (par U b) i, i), rfl, SqL.of (by rw [List.map_map]; exact h1'), by rw [List.length_map]; exact List.length_pos_of_mem um, fun x hx => ?_, fun m hm hle => ?_⟩
      · obtain ⟨i, hi, rfl⟩ := List.mem_map.mp hx
        exact ⟨SqT.of (jad i hi).2, by have := ((jin i).mp hi).1; show i < 64; omega⟩
      · obtain ⟨i, hi, rfl⟩ := List.mem_map.mp hm
        have c0 : cN (par U b) i = 0 := by
          have q := hle _ (List.mem_map.mpr ⟨par U b, um, rfl⟩)
          have q2 : cN (par U b) (par U b) = 0 := if_pos rfl
          have q3 : cN (par U b) i ≤ cN (par U b) (par U b) := q
          omega
        walk_at "fv"
        refine r_ixT (SqT.of (jad i hi).2) (at_nat (i := 0) rfl rfl) ?_
        rw [c0]
        walk_at "fv"
        rw [map_ent] at h1'
        refine lc_v (wk_listP (SqL.of h1') (f := fun k => nv (cN (par U b) (ent js k))) (g := fun k => nv (ent js k)) fun k hk => SqT.of (jad _ (ent_mem hk)).2) (by omega) (fun k => decide (cN (par U b) (ent js k) = 0)) (fun k => nv (ent js k)) (fun _ _ => rfl) (fun j hj H3 e3 Q3 k3 => ?_) (fun j hj hf H3 e3 Q3 k3 => ?_) (fun q3 H3 hq3 e3 h3 => ?_)
        · walk_at "fv"
          rw [show decide (nv (cN (par U b) (ent js j)) = nv 0) = decide (cN (par U b) (ent js j) = 0) from dNat _ _]
          exact k3 _ (Ex.refl _)
        · walk_at "fv"
          exact k3 _ (Ex.refl _)
        · rw [given_nv, filter_ent js (fun x => decide (cN (par U b) x = 0))] at h3
          have ef : js.filter (fun x => decide (cN (par U b) x = 0)) = [par U b] := by
            refine asc_eq ?_ (by simp) fun x => ?_
            · rw [← hjs]
              exact (List.pairwise_lt_range.filter _).filter _
            · rw [List.mem_filter, decide_eq_true_iff, List.mem_singleton]
              constructor
              · rintro ⟨_, z⟩
                unfold cN at z
                split at z
                · assumption
                · cases z
              · rintro rfl
                exact ⟨um, if_pos rfl⟩
          rw [ef] at h3
          walk_at "fv"
          refine l_tupOf (SqL.of h3) fun q H4 hq e4 h4 => ?_
          walk_at "fv"
          refine l_tup (by simp) fun v H5 hv e5 h5 => ?_
          exact k v q H5 (((e1.trans e3).trans e4).trans e5) h5 (e5 _ _ h4)
abbrev spBehind : Sp := fun vs H Q _ => ∃ (d t : Addr) (o : Obj) (ad : Nat → Addr) (n : Nat) (L : Nat → List Nat) (s : List Nat), vs = [.ref d, .ref t] ∧ HadAt H d o ad n L ∧ TupX H t (s.map nv) ∧ n ≤ 40 ∧ Lots n L ∧ Ord L n s ∧ s.length = n + 1 ∧
  RetL ((List.range n).map fun _ => V.bl true) H Q
abbrev s__law_behind : Stmt := top 58
theorem sc__law_behind : FnScope ["_law_had_here", "_law_order", "_law_block", "_law_place"] ["_law_had_here", "_law_order"] (C8.fnScope s__law_behind) := C8.fnScope_by (by decide +kernel)
theorem k__law_behind (F : Df K mg "_law_behind" s__law_behind ["_law_had_here", "_law_order"]) (T : Txt K mg cT cW cH) : Cal P w K mg base 1 "_law_behind" spBehind [] := by
  refine cal_of F sc__law_behind (fun vs H Q E h => ?_) (fun f cdv A outer sh H vs Q E hr h => ?_)
  · obtain ⟨d, t, o, ad, n, L, s, rfl, _⟩ := h; rfl
  · obtain ⟨d, t, o, ad, n, L, s, rfl, had, ht, hz, lo, os, sn, k⟩ := h
    have nd := sc__law_behind.nd
    have hu := hu_of hr
    have : ∃ pos : Nat → Nat, ∀ x, x ∈ s → pos x < s.length ∧ ent s (pos x) = x := by
      classical
      refine ⟨fun x => if h : x ∈ s then Classical.choose (mem_ent h) else 0, fun x hx => ?_⟩
      have z := Classical.choose_spec (mem_ent hx)
      simp only [hx, dif_pos]
      exact z
    obtain ⟨pos, hpos⟩ := this
    have all : ∀ x, x ≤ n → x ∈ s := fun x hx => pigeon_all os.nd sn os.le x hx
    refine ⟨_, (pss_one (ps_ret (pe_lc (own := [("_law_block", 2)]) rfl nd (pi_keys (pv 0)) (blkOk_by (own := [("_law_block", 2)]) (N := ["_law_had_here", "_law_order", "_law_block", "_law_place"]) (sc := (C8.fnScope s__law_behind)) (by decide +kernel)) (fun _ _ _ _ _ => (pg_name (i := 2) nd rfl (Or.inl rfl))) (fun _ _ _ _ _ => pts_nil) (fun _ _ _ _ _ => (pe_cmpR op_lt (pe_callB (show CallR _ _ (rMax K) from (cr_max rfl)) (by rfl) T.z_max (by decide +kernel) (pa_cons (pe_lc (own := [("_law_place", 3)]) rfl nd (show PI _ _ _ (iTup K _) from pi_tup (pe_dget hu (pv 0) (pv 2) (fun _ _ => rfl))) (blkOk_by (own := [("_law_place", 3)]) (N := ["_law_had_here", "_law_order", "_law_block", "_law_place"]) (sc := (relS _ (C8.fnScope s__law_behind))) (by decide +kernel)) (fun _ _ _ _ _ => (pg_name (i := 3) nd rfl (Or.inl rfl))) (fun _ _ _ _ _ => pts_nil) (fun _ _ _ _ _ => (pe_bmF PySem.F.plainAttrs_tuple PySem.F.slot_tuple_index PySem.F.type_tuple_index (show MtR _ _ (rTupIx K) from mt_tupIx) (pv 1) (pa_cons (pv 3) pa_nil)))) pa_nil)) (pe_bmF PySem.F.plainAttrs_tuple PySem.F.slot_tuple_index PySem.F.type_tuple_index (show MtR _ _ (rTupIx K) from mt_tupIx) (pv 1) (pa_cons (pv 2) pa_nil)) (nomark _)))))), ?_⟩
    walk_at "fv"
    refine l_keys had.1 ?_
    refine lc_y (wk_keys (v := fun i => V.ref (ad i)) had.1) (by omega) (fun _ => V.bl true) (fun _ _ => rfl) (fun i hi H1 e1 Q1 k1 => ?_) (fun q H1 hq e1 h1 => k q H1 hq e1 h1)
    have ht1 := ht.mono e1
    have g := (had.mono e1).get (b := i + 1) (by omega) (by omega)
    have ll := lots_len lo (show 1 ≤ i + 1 by omega) (show i + 1 ≤ n by omega)
    have lp : 0 < (L (i + 1)).length := List.length_pos_iff.mpr (lo.some _ (by omega) (by omega))
    walk_at "fv"
    refine l_dget g.1 ?_
    walk_at "fv"
    refine seqT_and (SqT.of g.2) ?_
    refine lc_y (wk_tupN g.2) (by omega) (fun j => nv (pos (ent (L (i + 1)) j))) (fun _ _ => rfl) (fun j hj H2 e2 Q2 k2 => ?_) (fun q H2 hq e2 h2 => ?_)
    · have ht2 := ht1.mono e2
      walk_at "fv"
      refine l_bmF ht2 ?_
      walk_at "fv"
      have z := hpos _ (all _ (lo.le (i + 1) (by omega) (by omega) _ (ent_mem hj)))
      refine l_indexT ht2.seq os.nd z.1 z.2 ?_
      exact k2 _ (Ex.refl _)
    · walk_at "fv"
      have ht2 := ht1.mono e2
      have em : ((List.range (L (i + 1)).length).map fun j => nv (pos (ent (L (i + 1)) j))) = ((L (i + 1)).map pos).map nv := by rw [List.map_map, map_ent (L (i + 1)) (nv ∘ pos)]; rfl
      rw [em] at h2
      refine l_max (SqL.of h2) (by rw [List.length_map]; exact lp) fun m hm => ?_
      obtain ⟨p, hp, rfl⟩ := List.mem_map.mp hm
      walk_at "fv"
      refine l_bmF ht2 ?_
      walk_at "fv"
      have zb := hpos (i + 1) (all _ (by omega))
      have zp := hpos p (all _ (lo.le (i + 1) (by omega) (by omega) _ hp))
      refine l_indexT (x := i + 1) ht2.seq os.nd zb.1 zb.2 ?_
      walk_at "fv"
      obtain ⟨j, hj, ej⟩ := os.bef (pos (i + 1)) zb.1 (by rw [zb.2]; omega) p (by rw [zb.2]; exact hp)
      have : pos p = j := ent_inj os.nd zp.1 (by omega) (zp.2.trans ej.symm)
      rw [decide_eq_true (by omega)]
      exact k1 _ e2
abbrev spRightO : Sp := fun vs H Q _ => ∃ (d t : Addr) (o : Obj) (ad : Nat → Addr) (n : Nat) (L : Nat → List Nat) (s : List Nat), vs = [.ref d, .ref t] ∧ HadAt H d o ad n L ∧ TupX H t (s.map nv) ∧ n ≤ 40 ∧ Lots n L ∧ Ord L n s ∧ s.length = n + 1 ∧ RetV (.bl true) H Q
abbrev s__law_is_right_order : Stmt := top 57
theorem sc__law_is_right_order : FnScope ["_law_had_here", "_law_order"] ["_law_had_here", "_law_order"] (C8.fnScope s__law_is_right_order) := C8.fnScope_by (by decide +kernel)
theorem k__law_is_right_order (F : Df K mg "_law_is_right_order" s__law_is_right_order ["_law_had_here", "_law_order"]) (T : Txt K mg cT cW cH) (c__law_behind : Cal P w K mg base 1 "_law_behind" spBehind []) : Cal P w K mg base 2 "_law_is_right_order" spRightO [] := by
  refine cal_of F sc__law_is_right_order (fun vs H Q E h => ?_) (fun f cdv A outer sh H vs Q E hr h => ?_)
  · obtain ⟨d, t, o, ad, n, L, s, rfl, _⟩ := h; rfl
  · obtain ⟨d, t, o, ad, n, L, s, rfl, had, ht, hz, lo, os, sn, k⟩ := h
    have nd := sc__law_is_right_order.nd
    refine ⟨_, (pss_cons (ps_if (PW.pt (pw_or (pt_not (pt_val (pe_callB (show CallR _ _ (rIsi K) from call_isi) (by rfl) T.z_isinstance (by decide +kernel) (pa_cons (pv 1) (pa_cons (pe_bltn (v := .ty "tuple") (by rfl) T.z_tuple (by decide +kernel) rfl) pa_nil))))) (pw_or1 (pt_cmpR (show OpR _ _ (rNeD K) from (op_neD hr.units)) (pe_callB (show CallR _ _ (rSortTu K) from cr_sortedTu) (by rfl) T.z_sorted (by decide +kernel) (pa_cons (pv 1) pa_nil)) (pe_listRg rfl rfl T.z_list (prg_1 rfl T.z_range (pe_op op_add (pe_callB c_lenD (by rfl) T.z_len (by decide +kernel) (pa_cons (pv 0) pa_nil)) pe_int))) (nomark _)))))
          (pss_one (ps_ret pe_bl))
          pss_nil)
        (pss_one (ps_ret (pe_callB (show CallR _ _ (rAll K) from (cr_all rfl)) (by rfl) T.z_all (by decide +kernel) (pa_cons (C8.pe_c c__law_behind hr (by decide) rfl (pa_cons (pv 0) (pa_cons (pv 1) pa_nil))) pa_nil))))), ?_⟩
    walk_at "fv"
    refine r_isi_tupF ht ?_
    walk_at "fv"
    refine ite_f rfl ?_
    walk_at "fv"
    refine l_sortedT (l := s) ht.seq (by omega) fun l' q2 H2 pm pw hq2 e2 h2 => ?_
    walk_at "fv"
    refine l_lenD (had.mono e2).rd n (by simp) ?_
    walk_at "fv"
    refine l_rg0 (n + 1) (by omega) (by omega) fun q3 H3 hq3 e3 h3 => ?_
    have el : l' = List.range (n + 1) := asc_of pm pw os.nd List.pairwise_lt_range fun x => ⟨fun hx => List.mem_range.mpr (Nat.lt_succ_of_le (os.le x hx)), fun hx => pigeon_all os.nd sn os.le x (Nat.le_of_lt_succ (List.mem_range.mp hx))⟩
    refine l_neL (SqL.of (e3 _ _ h2)) (SqL.of h3) ?_
    walk_at "fv"
    refine ite_f (by rw [decide_eq_true el]; rfl) ?_
    walk_at "fv"
    refine ⟨d, t, o, ad, n, L, s, rfl, had.mono (e2.trans e3), ht.mono (e2.trans e3), hz, lo, os, sn, fun q4 H4 hq4 e4 h4 => ?_⟩
    walk_at "fv"
    refine l_allT (SqL.of h4) (fun x hx => mem_true hx) ?_
    exact k _ ((e2.trans e3).trans e4)
end
end FV
namespace FV
open PySem PySem.Spec PyProof.Rows L2 Evl
open C8 (Cal Mak Def InsC)
section
variable {P : Program} {w : World} {K : PySem.W.Frag} {mg : Str → Option Value} {base : Heap} {cT cW cH : Addr}
theorem wk_worth {H : Hp} {d : Addr} {o : Obj} {la : Nat → Addr} {n : Nat} {L : Nat → List Nat} {j1 j2 : Nat} (h : WorthAt H d o la n L) :
    Wlk (Itkt d o ((List.range ((n + 1) * n)).map fun k => (wKey n k, V.ref (la k)))) (gTup K 2 (gCons (gName j1) (gCons (gName j2) gNil))) ((n + 1) * n) (fun σ k => (σ.set j1 (some (nv (k / n)))).set j2 (some (nv (k % n + 1)))) H :=
  wk_keysT (k1 := fun k => ((k / n : Nat) : Int)) (k2 := fun k => ((k % n + 1 : Nat) : Int)) (v := fun k => V.ref (la k)) h.dct
abbrev spRightR (cW : Addr) : Sp := fun vs H Q _ => ∃ (d r wd u l : Addr) (rows : Nat → Addr) (o : Obj) (ad : Nat → Addr) (L : Nat → List Nat) (R U : List Nat), vs = [.ref d, nv U.length, .ref r, .ref wd] ∧ HadAt H d o ad U.length L ∧ H r = some (.tup (R.map nv)) ∧ WordsAt cW H wd u l rows U.length U ∧
  1 ≤ U.length ∧ U.length ≤ 40 ∧ Lots U.length L ∧ Ring U.length L R ∧ RingU L R U ∧ RetV (.bl true) H Q
abbrev s__law_is_right_ring : Stmt := top 59
theorem sc__law_is_right_ring : FnScope ["_law_had_here", "_law_many", "_law_ring", "_law_words_here", "_law_ups", "_law_lists", "_law_first", "_law_second", "_law_place", "_law_block", "_law_told"] ["_law_had_here", "_law_many", "_law_ring", "_law_words_here"] (C8.fnScope s__law_is_right_ring) := C8.fnScope_by (by decide +kernel)
theorem k__law_is_right_ring (F : Df K mg "_law_is_right_ring" s__law_is_right_ring ["_law_had_here", "_law_many", "_law_ring", "_law_words_here"]) (T : Txt K mg cT cW cH) (c__law_worths : Cal P w K mg base 1 "_law_worths" spWorths []) (c_votes : Cal P w K mg base 3 "votes" (spVotes cW) []) (c__law_vote : Cal P w K mg base 2 "_law_vote" spLVote []) :
    Cal P w K mg base 4 "_law_is_right_ring" (spRightR cW) [] := by
  refine cal_of F sc__law_is_right_ring (fun vs H Q E h => ?_) (fun f cdv A outer sh H vs Q E hr h => ?_)
  · obtain ⟨d, r, wd, u, l, rows, o, ad, L, R, U, rfl, _⟩ := h; rfl
  · obtain ⟨d, r, wd, u, l, rows, o, ad, L, R, U, rfl, had, hring, wa, n1, hz, lo, ring, ru, k⟩ := h
    have nd := sc__law_is_right_ring.nd
    have hu := hu_of hr
    have rl : R.length ≤ U.length := pigeon_lt ring.nd ring.inn
    have rp := List.length_pos_iff.mpr ring.ne
    have pl := pl_of lo rfl ru.had
    refine ⟨_, (pss_cons (ps_if (PW.pt (pw_or (pt_not (pt_val (pe_callB (show CallR _ _ (rIsi K) from call_isi) (by rfl) T.z_isinstance (by decide +kernel) (pa_cons (pv 2) (pa_cons (pe_bltn (v := .ty "tuple") (by rfl) T.z_tuple (by decide +kernel) rfl) pa_nil))))) (pw_or (pt_cmpR op_eq (pe_callB (show CallR _ _ (rLenS K) from c_len) (by rfl) T.z_len (by decide +kernel) (pa_cons (pv 2) pa_nil)) pe_int (nomark _)) (pw_or1 (pt_cmpR (show OpR _ _ (rNeD K) from (op_neD hr.units)) (pe_callB (show CallR _ _ (rSortedSet w) from (cr_sortedSet rfl)) (by rfl) T.z_sorted (by decide +kernel) (pa_cons (pe_callTy (show CallR _ _ (rSetI w (SqT K)) from (cr_setTI rfl)) (by rfl) T.z_set (by decide +kernel) (pa_cons (pv 2) pa_nil)) pa_nil)) (pe_callB (show CallR _ _ (rSortTu K) from cr_sortedTu) (by rfl) T.z_sorted (by decide +kernel) (pa_cons (pv 2) pa_nil)) (nomark _))))))
          (pss_one (ps_ret pe_bl))
          pss_nil)
        (pss_cons (ps_if (pt_not (pt_val (pe_callB (show CallR _ _ (rAll K) from (cr_all rfl)) (by rfl) T.z_all (by decide +kernel) (pa_cons (pe_lc (own := [("_law_block", 9), ("_law_place", 8)]) rfl nd (show PI _ _ _ (RZ.iZipA K _) from RZ.pi_zipA (by rfl) T.z_zip (pa_cons (pv 2) (pa_cons (pe_op (show OpR _ _ (rCatA K) from op_catA) (pe_slice (show SlR _ (rSlA K) from sl_tupA) (pv 2) (po_some pe_int) po_none) (pe_slice (show SlR _ (rSlA K) from sl_tupA) (pv 2) po_none (po_some pe_int))) pa_nil))) (blkOk_by (own := [("_law_block", 9), ("_law_place", 8)]) (N := ["_law_had_here", "_law_many", "_law_ring", "_law_words_here", "_law_ups", "_law_lists", "_law_first", "_law_second", "_law_place", "_law_block", "_law_told"]) (sc := (C8.fnScope s__law_is_right_ring)) (by decide +kernel)) (fun _ _ _ _ _ => (show PG _ _ (gTup K 2 _) from pg_tup rfl (pgs_cons (pg_name (i := 9) nd rfl (Or.inl rfl)) (pgs_cons (pg_name (i := 8) nd rfl (Or.inl rfl)) pgs_nil)))) (fun _ _ _ _ _ => pts_nil) (fun _ _ _ _ _ => (pe_cmpR (show OpR _ _ (rIn K false) from op_in_seq) (pv 8) (pe_dget hu (pv 0) (pv 9) (fun _ _ => rfl)) (by rfl)))) pa_nil))))
          (pss_one (ps_ret pe_bl))
          pss_nil)
        (pss_cons (ps_asg (pe_tup (pa_cons (show PE _ _ (tFld K _ _) from pe_fld (pv 3) rfl) (pa_cons (show PE _ _ (tFld K _ _) from pe_fld (pv 3) rfl) pa_nil))) (show PG _ _ (gTup K 2 _) from pg_tup rfl (pgs_cons (pg_name (i := 4) nd rfl (Or.inr rfl)) (pgs_cons (pg_name (i := 5) nd rfl (Or.inl rfl)) pgs_nil))))
        (pss_cons (ps_asg (C8.pe_c c__law_worths hr (by decide) rfl (pa_cons (pv 0) (pa_cons (pv 1) pa_nil))) (show PG _ _ (gTup K 2 _) from pg_tup rfl (pgs_cons (pg_name (i := 6) nd rfl (Or.inr rfl)) (pgs_cons (pg_name (i := 7) nd rfl (Or.inl rfl)) pgs_nil))))
        (pss_cons (ps_if (pt_not (pt_val (pe_callB (show CallR _ _ (rAll K) from (cr_all rfl)) (by rfl) T.z_all (by decide +kernel) (pa_cons (pe_lc (own := [("_law_block", 9)]) rfl nd (pi_keys (pv 6)) (blkOk_by (own := [("_law_block", 9)]) (N := ["_law_had_here", "_law_many", "_law_ring", "_law_words_here", "_law_ups", "_law_lists", "_law_first", "_law_second", "_law_place", "_law_block", "_law_told"]) (sc := (C8.fnScope s__law_is_right_ring)) (by decide +kernel)) (fun _ _ _ _ _ => (pg_name (i := 9) nd rfl (Or.inl rfl))) (fun _ _ _ _ _ => pts_nil) (fun _ _ _ _ _ => (pe_or (pe_cmpR op_isN (pe_ix (show IxR _ (rIxT K) from ix_tup) (pv 4) (pe_op op_sub (pv 9) pe_int) (fun _ _ => rfl)) pe_non (nomark _)) (pe_one (pe_cmpR (show OpR _ _ (rIn K false) from op_in_seq) (pe_ix (show IxR _ (rIxT K) from ix_tup) (pv 4) (pe_op op_sub (pv 9) pe_int) (fun _ _ => rfl)) (pe_dget hu (pv 6) (pv 9) (fun _ _ => rfl)) (by rfl)))))) pa_nil))))
          (pss_one (ps_ret pe_bl))
          pss_nil)
        (pss_cons (ps_for PassesOwn.never rfl (pi_keys (pv 7)) (show PG _ _ (gTup K 2 _) from pg_tup rfl (pgs_cons (pg_name (i := 8) nd rfl (Or.inl rfl)) (pgs_cons (pg_name (i := 9) nd rfl (Or.inl rfl)) pgs_nil)))
          (pss_one (ps_if (PW.pt (pw_and (pt_cmpR op_notN (pe_ix (show IxR _ (rIxT K) from ix_tup) (pe_ix (show IxR _ (rIxT K) from ix_tup) (pv 5) (pv 8) (fun _ _ => rfl)) (pe_op op_sub (pv 9) pe_int) (fun _ _ => rfl)) pe_non (nomark _)) (pw_and1 (pt_cmpR (show OpR _ _ (rIn K true) from op_notIn_seq) (pe_ix (show IxR _ (rIxT K) from ix_tup) (pe_ix (show IxR _ (rIxT K) from ix_tup) (pv 5) (pv 8) (fun _ _ => rfl)) (pe_op op_sub (pv 9) pe_int) (fun _ _ => rfl)) (pe_dget hu (pv 7) (pe_tup (pa_cons (pv 8) (pa_cons (pv 9) pa_nil))) (fun _ _ => rfl)) (by rfl)))))
              (pss_one (ps_ret pe_bl))
              pss_nil)))
        (pss_cons (ps_set (i := 10) nd rfl (Or.inl rfl) (C8.pe_c c_votes hr (by decide) rfl (pa_cons (pv 3) pa_nil)))
        (pss_cons (ps_for PassesOwn.never rfl (show PI _ _ _ (RZ.iZipA K _) from RZ.pi_zipA (by rfl) T.z_zip (pa_cons (pv 2) (pa_cons (pe_op (show OpR _ _ (rCatA K) from op_catA) (pe_slice (show SlR _ (rSlA K) from sl_tupA) (pv 2) (po_some pe_int) po_none) (pe_slice (show SlR _ (rSlA K) from sl_tupA) (pv 2) po_none (po_some pe_int))) pa_nil))) (show PG _ _ (gTup K 2 _) from pg_tup rfl (pgs_cons (pg_name (i := 9) nd rfl (Or.inl rfl)) (pgs_cons (pg_name (i := 8) nd rfl (Or.inl rfl)) pgs_nil)))
          (pss_one (ps_if (PW.pt (pw_or (pt_cmpR (show OpR _ _ (rNeD K) from (op_neD hr.units)) (pe_ix (show IxR _ (rIxT K) from ix_tup) (C8.pe_c c__law_vote hr (by decide) rfl (pa_cons (pv 4) (pa_cons (pv 5) (pa_cons (pv 9) pa_nil)))) pe_int (fun _ _ => rfl)) (pe_tup (pa_cons (pv 8) pa_nil)) (nomark _)) (pw_or1 (pt_cmpR (show OpR _ _ (rNeD K) from (op_neD hr.units)) (pe_ix (show IxR _ (rIxT K) from ix_tup) (pe_ix (show IxR _ (rIxL K) from ix_list) (pv 10) (pe_op op_sub (pv 9) pe_int) (fun _ _ => rfl)) pe_int (fun _ _ => rfl)) (pe_tup (pa_cons (pv 8) pa_nil)) (nomark _)))))
              (pss_one (ps_ret pe_bl))
              pss_nil)))
        (pss_one (ps_ret pe_bl)))))))))), ?_⟩
    walk_at "fv"
    refine r_isi_tup hring ?_
    walk_at "fv"
    refine ite_f rfl ?_
    walk_at "fv"
    refine l_lenT (SqT.of hring) R.length (by simp) ?_
    walk_at "fv"
    refine ite_f (dN (by omega)) ?_
    walk_at "fv"
    refine l_setT (l := R) (SqT.of hring) (by omega) fun sq c H1 hsq e1 hc1 h1 => ?_
    walk_at "fv"
    refine l_sortSet h1 (by omega) fun l1 q2 H2 pw1 pm1 hq2 e2 h2 => ?_
    walk_at "fv"
    refine l_sortedT (l := R) (SqT.of (e2 _ _ (e1 _ _ hring))) (by omega) fun l2 q3 H3 pm2 pw2 hq3 e3 h3 => ?_
    have el : l1 = l2 := (asc_of pm2 pw2 ring.nd pw1 fun x => (pm1 x).symm).symm
    refine l_neL (SqL.of (e3 _ _ h2)) (SqL.of h3) ?_
    walk_at "fv"
    refine ite_f (by rw [decide_eq_true el]; rfl) ?_
    walk_at "fv"
    have e03 := (e1.trans e2).trans e3
    have hr3 := e03 _ _ hring
    refine r_slA (ys := (R.drop 1).map nv) hr3 (by rw [List.map_drop]; exact cutV_from (R.map nv) 1) fun q4 H4 e4 h4 => ?_
    walk_at "fv"
    refine r_slA (ys := (R.take 1).map nv) (e4 _ _ hr3) (by rw [List.map_take]; exact cutV_to (R.map nv) 1) fun q5 H5 e5 h5 => ?_
    refine r_catA (e5 _ _ h4) h5 (by simp; omega) fun q6 H6 e6 h6 => ?_
    rw [rot_map] at h6
    walk_at "fv"
    have e06 := ((e03.trans e4).trans e5).trans e6
    have hr6 := e06 _ _ hring
    refine l_zipT (SqT.of hr6) (SqT.of h6) ?_
    refine lc_y (wk_zipN hr6 h6 (rot_len ring.ne).symm) (by omega) (fun _ => V.bl true) (fun _ _ => rfl) (fun i hi H7 e7 Q7 k7 => ?_) (fun q7 H7 hq7 e7 h7 => ?_)
    · walk_at "fv"
      have ri := ring.inn _ (ent_mem hi)
      have g := (had.mono (e06.trans e7)).get ri.1 ri.2
      refine l_dget g.1 ?_
      refine r_inNT g.2 ?_
      rw [decide_eq_true (ring.had i hi)]
      exact k7 _ (Ex.refl _)
    · walk_at "fv"
      refine l_allT (SqL.of h7) (fun x hx => mem_true hx) ?_
      walk_at "fv"
      refine ite_f rfl ?_
      walk_at "fv"
      have wa7 := wa.mono (e06.trans e7)
      obtain ⟨⟨dw, wi⟩, hup, hrows⟩ := id wa7
      refine r_fld wi T.w_cl T.w_ups (wF_ups _ _ _) ?_
      walk_at "fv"
      refine r_fld wi T.w_cl T.w_lists (wF_lists _ _ _) ?_
      walk_at "fv"
      refine l_tup (by simp) fun q8 H8 hq8 e8 h8 => ?_
      refine two_names (SqT.of h8) ?_
      walk_at "fv"
      have e08 := (e06.trans e7).trans e8
      refine ⟨d, o, ad, U.length, L, rfl, had.mono e08, n1, hz, lo, fun v d1 o1 d2 o2 la H9 e9 h9 hd1 hd2 => ?_⟩
      refine two_names (SqT.of h9) ?_
      walk_at "fv"
      have hup9 := e9 _ _ (e8 _ _ hup)
      have hrows9 := (hrows.mono e8).mono e9
      have wa9 := (wa7.mono e8).mono e9
      have hring9 := (e08.trans e9) _ _ hring
      refine l_keys hd1.1 ?_
      refine lc_y (wk_keys (v := fun i => V.ref (ad i)) hd1.1) (by omega) (fun _ => V.bl true) (fun _ _ => rfl) (fun i hi H10 e10 Q10 k10 => ?_) (fun q10 H10 hq10 e10 h10 => ?_)
      · walk_at "fv"
        refine r_ixT (SqT.of (e10 _ _ hup9)) (at_par (b := i + 1) (by omega) (by omega)) ?_
        walk_at "fv"
        refine ite_f rfl ?_
        walk_at "fv"
        refine r_ixT (SqT.of (e10 _ _ hup9)) (at_par (b := i + 1) (by omega) (by omega)) ?_
        walk_at "fv"
        have g := (hd1.mono e10).get (b := i + 1) (by omega) (by omega)
        refine l_dget g.1 ?_
        refine r_inNT g.2 ?_
        rw [decide_eq_true (ru.had (i + 1) (by omega) (by omega))]
        exact k10 _ (Ex.refl _)
      · walk_at "fv"
        refine l_allT (SqL.of h10) (fun x hx => mem_true hx) ?_
        walk_at "fv"
        refine ite_f rfl ?_
        walk_at "fv"
        have hd2' := hd2.mono e10
        refine l_keysT hd2'.dct ?_
        have nn : (U.length + 1) * U.length ≤ 41 * 40 := Nat.mul_le_mul (by omega) hz
        refine for_w (H0 := H10) (fun i σ' H' => Ex H10 H' ∧ ∃ v8 v9, σ' = [some (.ref d), some (nv U.length), some (.ref r), some (.ref wd), some (.ref u), some (.ref l), some (.ref d1), some (.ref d2), v8, v9, none])
          (wk_worth hd2') (fun _ _ _ _ p => p.1) ⟨Ex.refl _, _, _, rfl⟩ ?_ ?_
        · rintro i σ' H' hi ⟨e11, v8, v9, rfl⟩ H12 e12
          have e112 := (e10.trans e11).trans e12
          have hr12 := hrows9.mono e112
          have hd12 := hd2.mono e112
          have pb : i / U.length ≤ U.length := by
            have := (Nat.div_lt_iff_lt_mul (k := U.length) (x := i) (y := U.length + 1) (by omega)).mpr hi
            omega
          have mb' : i % U.length < U.length := Nat.mod_lt _ (by omega)
          walk_at "fv"
          refine r_ixT (SqT.of hr12.1) (at_fn rfl (by omega)) ?_
          walk_at "fv"
          refine r_ixT (SqT.of (hr12.2 _ pb)) (at_fn (i := i % U.length) (by omega) mb') ?_
          walk_at "fv"
          refine ite_t rfl ?_
          walk_at "fv"
          refine r_ixT (SqT.of hr12.1) (at_fn rfl (by omega)) ?_
          walk_at "fv"
          refine r_ixT (SqT.of (hr12.2 _ pb)) (at_fn (i := i % U.length) (by omega) mb') ?_
          walk_at "fv"
          refine l_tup (by simp) fun q13 H13 hq13 e13 h13 => ?_
          have hd13 := hd12.mono e13
          refine l_dget (dget_rdT (k := wKey U.length i) (rd_frz hd13.dct) h13 (valV_at (key := wKey U.length) (v := fun k => V.ref (la k)) hi fun j _ z => wKey_inj z)) ?_
          have lot := ru.had (i % U.length + 1) (by omega) (by omega)
          have lot2 : ent U (i % U.length) ∈ L (i % U.length + 1) := lot
          refine r_inL (SqL.of (hd13.lst i hi)) rfl (wl_flat _ _ _) ?_
          rw [wl_in (fun z => (of_decide_eq_true z) ▸ lot2) (fun z hp => ?_)]
          · walk_at "fv"
            exact ⟨(e11.trans e12).trans e13, _, _, rfl⟩
          · have ne : ent U (i % U.length) ≠ i / U.length := of_decide_eq_false z
            refine Classical.byContradiction fun hl => ?_
            have : (L (i % U.length + 1)).length = 1 := by have := List.length_pos_of_mem lot2; omega
            obtain ⟨x, hx⟩ := List.length_eq_one_iff.mp this
            rw [hx, List.mem_singleton] at hp lot2
            exact ne (lot2.trans hp.symm)
        · rintro σ' H' ⟨e11, v8, v9, rfl⟩
          have e911 := e10.trans e11
          walk_at "fv"
          refine ⟨wd, u, l, rows, U, rfl, wa9.mono e911, hz, pl, fun va vad vqd H12 e12 h12 hv12 => ?_⟩
          walk_at "fv"
          have e912 := e911.trans e12
          have hr12 := e912 _ _ hring9
          refine r_slA (ys := (R.drop 1).map nv) hr12 (by rw [List.map_drop]; exact cutV_from (R.map nv) 1) fun q14 H14 e14 h14 => ?_
          walk_at "fv"
          refine r_slA (ys := (R.take 1).map nv) (e14 _ _ hr12) (by rw [List.map_take]; exact cutV_to (R.map nv) 1) fun q15 H15 e15 h15 => ?_
          refine r_catA (e15 _ _ h14) h15 (by simp; omega) fun q16 H16 e16 h16 => ?_
          rw [rot_map] at h16
          walk_at "fv"
          have e1216 := (e14.trans e15).trans e16
          have hr16 := e1216 _ _ hr12
          refine l_zipT (SqT.of hr16) (SqT.of h16) ?_
          refine for_w (H0 := H16) (fun i σ' H' => Ex H16 H' ∧ ∃ v8 v9, σ' = [some (.ref d), some (nv U.length), some (.ref r), some (.ref wd), some (.ref u), some (.ref l), some (.ref d1), some (.ref d2), v8, v9, some (.ref va)])
            (wk_zipN hr16 h16 (rot_len ring.ne).symm) (fun _ _ _ _ p => p.1) ⟨Ex.refl _, _, _, rfl⟩ ?_ ?_
          · rintro i σ' H' hi ⟨e17, v8, v9, rfl⟩ H18 e18
            have ri := ring.inn _ (ent_mem hi)
            have e918 := ((e912.trans e1216).trans e17).trans e18
            walk_at "fv"
            refine ⟨u, l, rows, U, ent R i, rfl, e918 _ _ hup9, hrows9.mono e918, hz, ri.1, ri.2, pl.le ri.1 ri.2, pl.ne ri.1 ri.2, fun vq qq H19 e19 h19 h19b => ?_⟩
            walk_at "fv"
            refine r_ixT (SqT.of h19) (at_nat (i := 1) rfl rfl) ?_
            walk_at "fv"
            refine l_tup (by simp) fun q20 H20 hq20 e20 h20 => ?_
            have at' := ru.at' i hi
            refine l_neT1 (SqT.of (e20 _ _ h19b)) (SqT.of h20) ?_
            walk_at "fv"
            refine ite_f (by rw [decide_eq_true at']; rfl) ?_
            walk_at "fv"
            have e1220 := (((e1216.trans e17).trans e18).trans e19).trans e20
            have hv20 := hv12 (ent R i - 1) (by omega)
            refine r_ixL (SqL.of (e1220 _ _ h12)) (at_fn (i := ent R i - 1) (by omega) (by omega)) ?_
            walk_at "fv"
            refine r_ixT (SqT.of (e1220 _ _ hv20.1)) (at_nat (i := 1) rfl rfl) ?_
            walk_at "fv"
            refine l_tup (by simp) fun q21 H21 hq21 e21 h21 => ?_
            have hv21 := e21 _ _ (e1220 _ _ hv20.2)
            rw [show ent R i - 1 + 1 = ent R i by omega] at hv21
            refine l_neT1 (SqT.of hv21) (SqT.of h21) ?_
            walk_at "fv"
            refine ite_f (by rw [decide_eq_true at']; rfl) ?_
            walk_at "fv"
            exact ⟨(((e17.trans e18).trans e19).trans e20).trans e21, _, _, rfl⟩
          · rintro σ' H' ⟨e17, v8, v9, rfl⟩
            walk_at "fv"
            exact k _ (((e08.trans e9).trans e912).trans (e1216.trans e17))
end
end FV
namespace FV
open PySem PySem.Spec PyProof.Rows L2 Evl
open C8 (Cal Mak Def InsC)
section
variable {P : Program} {w : World} {K : PySem.W.Frag} {mg : Str → Option Value} {base : Heap} {cT cW cH : Addr}
def spLaw (K : PySem.W.Frag) : Sp := fun vs H Q _ => ∃ (a : Addr) (ns : List Int), vs = [.ref a] ∧ SqL K H a (ns.map V.int) ∧ ns.length ≤ 63 ∧ ∀ H', Q (.bl true) H'
abbrev s_law : Stmt := top 60
theorem sc_law : FnScope ["_law_script", "_law_hand_here", "_law_turn", "_law_many", "_law_hung", "_law_moves_here", "_law_last", "_law_made", "_law_due", "_law_told"] ["_law_script"] (C8.fnScope s_law) := C8.fnScope_by (by decide +kernel)
theorem ok_law {f : Addr} {fd : FuncData} (F : C8.Fun K "law" "law" s_law f fd) (T : Txt K mg cT cW cH) (c__law_hand : Cal P w K mg base 1 "_law_hand" (spHand K) []) (c__law_draw : Cal P w K mg base 1 "_law_draw" spDraw []) (c__law_tree : Cal P w K mg base 2 "_law_tree" spLTree []) (c__law_moves : Cal P w K mg base 3 "_law_moves" spLMoves [])
    (k_Tree : Mak P w K mg base 3 "Tree" cT (spTree cT) []) (k_History : Mak P w K mg base 4 "History" cH (spHist cT cH) []) (c__law_had : Cal P w K mg base 1 "_law_had" spLHad []) (c_verdict : Cal P w K mg base 7 "verdict" (spVerdict cT cW cH) []) (c_is_verdict : Cal P w K mg base 4 "is_verdict" (spIsVerdict cT cW cH) [])
    (c__law_is_round : Cal P w K mg base 1 "_law_is_round" spRound []) (c__law_is_right_ring : Cal P w K mg base 4 "_law_is_right_ring" (spRightR cW) []) (c_can_stand : Cal P w K mg base 3 "can_stand" (spStand cT cW cH) []) (c__law_is_right_order : Cal P w K mg base 2 "_law_is_right_order" spRightO []) :
    FnOk P w K mg base C8.CX0 8 f fd ["_law_script"] (spLaw K) := by
  refine C8.fn0 F sc_law (fun vs H Q E h => ?_) (fun cdv A outer sh H vs Q E hr h => ?_)
  · obtain ⟨sc, ns, rfl, _⟩ := h; rfl
  · obtain ⟨sc, ns, rfl, hs, hz, k⟩ := h
    have nd := sc_law.nd
    refine ⟨_, (pss_cons (ps_set (i := 1) nd rfl (Or.inl rfl) (C8.pe_c c__law_hand hr (by decide) rfl (pa_cons (pv 0) pa_nil)))
        (pss_cons (ps_for PassesOwn.never rfl (pi_range1 (by rfl) T.z_range (pa_cons pe_int pa_nil)) (pg_name (i := 2) nd rfl (Or.inl rfl))
          (pss_cons (ps_set (i := 3) nd rfl (Or.inl rfl) (pe_op op_add pe_int (C8.pe_c c__law_draw hr (by decide) rfl (pa_cons (pv 1) (pa_cons pe_int pa_nil)))))
            (Evl.pss_cut (ps_if (pt_cmpR op_eq (C8.pe_c c__law_draw hr (by decide) rfl (pa_cons (pv 1) (pa_cons pe_int pa_nil))) pe_int (nomark _))
              (pss_one (ps_set (i := 3) nd rfl (Or.inl rfl) (pe_op op_add pe_int (C8.pe_c c__law_draw hr (by decide) rfl (pa_cons (pv 1) (pa_cons pe_int pa_nil))))))
              pss_nil)
            (pss_cons (ps_set (i := 4) nd rfl (Or.inl rfl) (C8.pe_c c__law_tree hr (by decide) rfl (pa_cons (pv 1) (pa_cons (pv 3) pa_nil))))
            (pss_cons (ps_asg (C8.pe_c c__law_moves hr (by decide) rfl (pa_cons (pv 1) (pa_cons (pv 4) (pa_cons (C8.pe_c c__law_draw hr (by decide) rfl (pa_cons (pv 1) (pa_cons pe_int pa_nil))) pa_nil)))) (show PG _ _ (gTup K 2 _) from pg_tup rfl (pgs_cons (pg_name (i := 5) nd rfl (Or.inl rfl)) (pgs_cons (pg_name (i := 6) nd rfl (Or.inl rfl)) pgs_nil))))
            (pss_cons (ps_set (i := 7) nd rfl (Or.inl rfl) (C8.pe_mk k_History hr (by decide) rfl (pa_cons (C8.pe_mk k_Tree hr (by decide) rfl (pa_cons (pv 4) pa_nil)) (pa_cons (pv 5) pa_nil))))
            (pss_cons (ps_set (i := 8) nd rfl (Or.inl rfl) (C8.pe_c c__law_had hr (by decide) rfl (pa_cons (pv 4) (pa_cons (pv 5) pa_nil))))
            (pss_cons (ps_set (i := 9) nd rfl (Or.inl rfl) (C8.pe_c c_verdict hr (by decide) rfl (pa_cons (pv 7) pa_nil)))
            (pss_cons (ps_if (PW.pt (pw_or (pt_not (pt_val (pe_callB (show CallR _ _ (rIsi K) from call_isi) (by rfl) T.z_isinstance (by decide +kernel) (pa_cons (pv 9) (pa_cons (pe_bltn (v := .ty "tuple") (by rfl) T.z_tuple (by decide +kernel) rfl) pa_nil))))) (pw_or1 (pt_cmpR op_isnot_bl (C8.pe_c c_is_verdict hr (by decide) rfl (pa_cons (pv 7) (pa_cons (pv 9) pa_nil))) pe_bl (nomark _)))))
              (pss_one (ps_ret pe_bl))
              pss_nil)
            (pss_one (ps_if (pt_val (C8.pe_c c__law_is_round hr (by decide) rfl (pa_cons (pv 8) pa_nil)))
              (pss_cons (ps_if (PW.pt (pw_or (pt_cmpR op_ne (pe_callB (show CallR _ _ (rLenS K) from c_len) (by rfl) T.z_len (by decide +kernel) (pa_cons (pv 9) pa_nil)) pe_int (nomark _)) (pw_or (pt_cmpR op_ne (pe_ix (show IxR _ (rIxT K) from ix_tup) (pv 9) pe_int (fun _ _ => rfl)) pe_str (nomark _)) (pw_or (pt_not (pt_val (pe_callB (C8.call_isC T.i_Words) (by rfl) T.z_isinstance (by decide +kernel) (pa_cons (pe_ix (show IxR _ (rIxT K) from ix_tup) (pv 9) pe_int (fun _ _ => rfl)) (pa_cons (C8.pe_gc rfl T.m_Words) pa_nil))))) (pw_or1 (pt_cmpR op_ne (show PE _ _ (tFld K _ _) from pe_fld (pe_ix (show IxR _ (rIxT K) from ix_tup) (pv 9) pe_int (fun _ _ => rfl)) rfl) (pv 3) (nomark _)))))))
                  (pss_one (ps_ret pe_bl))
                  pss_nil)
                (pss_one (ps_if (PW.pt (pw_or (pt_not (pt_val (C8.pe_c c__law_is_right_ring hr (by decide) rfl (pa_cons (pv 8) (pa_cons (pv 3) (pa_cons (pe_ix (show IxR _ (rIxT K) from ix_tup) (pv 9) pe_int (fun _ _ => rfl)) (pa_cons (pe_ix (show IxR _ (rIxT K) from ix_tup) (pv 9) pe_int (fun _ _ => rfl)) pa_nil))))))) (pw_or1 (pt_not (pt_val (C8.pe_c c_can_stand hr (by decide) rfl (pa_cons (pv 7) (pa_cons (pe_ix (show IxR _ (rIxT K) from ix_tup) (pv 9) pe_int (fun _ _ => rfl)) pa_nil))))))))
                  (pss_one (ps_ret pe_bl))
                  pss_nil)))
              (pss_one (ps_if (PW.pt (pw_or (pt_cmpR op_ne (pe_callB (show CallR _ _ (rLenS K) from c_len) (by rfl) T.z_len (by decide +kernel) (pa_cons (pv 9) pa_nil)) pe_int (nomark _)) (pw_or (pt_cmpR op_ne (pe_ix (show IxR _ (rIxT K) from ix_tup) (pv 9) pe_int (fun _ _ => rfl)) pe_str (nomark _)) (pw_or1 (pt_not (pt_val (C8.pe_c c__law_is_right_order hr (by decide) rfl (pa_cons (pv 8) (pa_cons (pe_ix (show IxR _ (rIxT K) from ix_tup) (pv 9) pe_int (fun _ _ => rfl)) pa_nil)))))))))
                  (pss_one (ps_ret pe_bl))
                  pss_nil)))))))))))))
        (pss_one (ps_ret pe_bl)))), ?_⟩
    walk_at "fv"
    refine ⟨sc, ns, rfl, hs, hz, fun a c cs H1 e1 cz hand => ?_⟩
    walk_at "fv"
    refine l_rng1 3 rfl (by omega) ?_
    refine for_w (H0 := noHp) (fun i σ' H' => Hand H' a c cs ∧ ∃ v2 v3 v4 v5 v6 v7 v8 v9, σ' = [some (.ref sc), some (.ref a), v2, v3, v4, v5, v6, v7, v8, v9]) wk_rng0 (fun _ _ H' _ _ => ex_no H') ⟨hand, _, _, _, _, _, _, _, _, rfl⟩ ?_ ?_
    · rintro i σ' H' hi ⟨hd, v2, v3, v4, v5, v6, v7, v8, v9, rfl⟩ H2 e2
      walk_at "fv"
      refine ⟨a, c, cs, 8, rfl, by omega, by omega, cz, hd.ex e2, fun g1 H3 g11 _ hd3 => ?_⟩
      walk_at "fv"
      rw [show (1 : Int) + (g1 : Int) = ((g1 + 1 : Nat) : Int) by omega]
      refine x_cut (fun σ' H' => Hand H' a c cs ∧ ∃ n, 1 ≤ n ∧ n ≤ 40 ∧ ∃ v2 v4 v5 v6 v7 v8 v9, σ' = [some (.ref sc), some (.ref a), v2, some (nv n), v4, v5, v6, v7, v8, v9]) ?_ ?_
      · walk_at "fv"
        refine ⟨a, c, cs, 8, rfl, by omega, by omega, cz, hd3, fun g2 H4 g21 _ hd4 => ?_⟩
        walk_at "fv"
        by_cases hg : g2 = 0
        · refine ite_t (dI (by omega)) ?_
          walk_at "fv"
          refine ⟨a, c, cs, 32, rfl, by omega, by omega, cz, hd4, fun g3 H5 g31 _ hd5 => ?_⟩
          walk_at "fv"
          rw [show (9 : Int) + (g3 : Int) = ((g3 + 9 : Nat) : Int) by omega]
          exact ⟨hd5, g3 + 9, by omega, by omega, _, _, _, _, _, _, _, rfl⟩
        · refine ite_f (dN (by omega)) ?_
          exact ⟨hd4, g1 + 1, by omega, by omega, _, _, _, _, _, _, _, rfl⟩
      · rintro σ' H4 ⟨hd4, n, n1, n2, v2, v4, v5, v6, v7, v8, v9, rfl⟩
        walk_at "fv"
        refine ⟨a, c, cs, n, rfl, n1, n2, cz, hd4, fun h hg H5 _ hd5 hh hn tr => ?_⟩
        subst hn
        walk_at "fv"
        refine ⟨a, c, cs, 13, rfl, by omega, by omega, cz, hd5, fun kk H6 kk1 e6 hd6 => ?_⟩
        have hh6 := hd5.tup e6 hh
        walk_at "fv"
        refine ⟨a, c, h, cs, hg, kk, rfl, hh6, n1, n2, by omega, tr, cz, hd6, fun v mq lq M H7 e7 hd7 h7 hm7 vm ml => ?_⟩
        have hh7 := hd6.tup e7 hh6
        refine two_names (SqT.of h7) ?_
        walk_at "fv"
        refine l_make fun x dx Hm hx em hm => ⟨x, h, dx, hg, rfl, hm, em _ _ hh7, n1, n2, tr, fun H8 eb h8 => ⟨rfl, ?_⟩⟩
        have e8 : Ex H7 H8 := ExB.ex hx em eb
        walk_at "fv"
        refine l_make fun hs hdx Hm2 hx2 em2 hm2 => ⟨hs, x, mq, h, hdx, hg, M, rfl, hm2, ⟨dx, em2 _ _ h8⟩, em2 _ _ (e8 _ _ hh7), (hm7.mono e8).mono em2, n2, by omega, tr, vm, fun H9 eb2 h9 => ⟨rfl, ?_⟩⟩
        have e9 : Ex H8 H9 := ExB.ex hx2 em2 eb2
        have e79 := e8.trans e9
        have hist : HistAt cT cH H9 hs h mq hg M := ⟨⟨x, ⟨hdx, h9⟩, ⟨dx, e9 _ _ h8⟩⟩, e79 _ _ hh7, hm7.mono e79⟩
        have lots := had_lots tr vm
        walk_at "fv"
        refine ⟨h, mq, hg, M, rfl, hist.hung, hist.moves, n2, by omega, tr, vm, fun d o ad H10 e10 had => ?_⟩
        walk_at "fv"
        have hist10 := hist.mono e10
        have hd10 := (hd7.ex e79).ex e10
        have rok := rndL_ok (hadL hg M) hg.length
        refine ⟨hs, h, mq, hg, M, rfl, hist10, n1, n2, tr, vm, fun s os sn tv H11 e11 htv => ?_, fun s os cl sn tv r wd u l rows R U H11 e11 ul ring ru rv => ?_⟩
        · obtain ⟨tq, ht1, ht2⟩ := id htv
          have len := rok.1.len_eq rok.2 os (os.full (by omega))
          walk_at "fv"
          refine r_isi_tup ht1 ?_
          walk_at "fv"
          refine ite_f rfl ?_
          walk_at "fv"
          refine ⟨hs, h, mq, tv, hg, M, rfl, hist10.mono e11, n1, n2, tr, vm, .inl ⟨s, os, sn, htv⟩, fun H12 e12 => ?_⟩
          walk_at "fv"
          refine ite_f rfl ?_
          walk_at "fv"
          refine ⟨d, o, ad, hg.length, hadL hg M, rfl, (had.mono e11).mono e12, n2, lots, fun H13 e13 => ?_⟩
          rw [decide_eq_false (by omega)]
          walk_at "fv"
          refine ite_f rfl ?_
          walk_at "fv"
          have e113 := e12.trans e13
          have ht13 := e113 _ _ ht1
          refine l_lenT (SqT.of ht13) 2 rfl ?_
          walk_at "fv"
          refine ite_f (by rw [dI (by omega)]; rfl) ?_
          walk_at "fv"
          refine r_ixT (SqT.of ht13) (at_nat (i := 0) rfl rfl) ?_
          walk_at "fv"
          refine ite_f (by rw [show decide (V.str (Str.ofString "tree") = V.str (Str.ofString "tree")) = true from decide_eq_true rfl]; rfl) ?_
          walk_at "fv"
          refine r_ixT (SqT.of ht13) (at_nat (i := 1) rfl rfl) ?_
          walk_at "fv"
          refine ⟨d, tq, o, ad, hg.length, hadL hg M, s, rfl, (had.mono e11).mono e113, ht2.mono e113, n2, lots, os, sn, fun H14 e14 => ?_⟩
          walk_at "fv"
          refine ite_f rfl ?_
          walk_at "fv"
          exact ⟨((hd10.ex e11).ex e113).ex e14, _, _, _, _, _, _, _, _, rfl⟩
        · have ht1 := rv.tup
          have len := rok.1.len_eq rok.2 os cl
          have sle := pigeon_le os.nd os.le
          walk_at "fv"
          refine r_isi_tup ht1 ?_
          walk_at "fv"
          refine ite_f rfl ?_
          walk_at "fv"
          refine ⟨hs, h, mq, tv, hg, M, rfl, hist10.mono e11, n1, n2, tr, vm, .inr ⟨r, wd, u, l, rows, R, U, ul, ring, ru, rv⟩, fun H12 e12 => ?_⟩
          walk_at "fv"
          refine ite_f rfl ?_
          walk_at "fv"
          refine ⟨d, o, ad, hg.length, hadL hg M, rfl, (had.mono e11).mono e12, n2, lots, fun H13 e13 => ?_⟩
          rw [decide_eq_true (by omega)]
          walk_at "fv"
          refine ite_t rfl ?_
          walk_at "fv"
          have e113 := e12.trans e13
          have rv13 := rv.mono e113
          have ht13 := rv13.tup
          obtain ⟨⟨dw, wi⟩, hup, hrows⟩ := id rv13.words
          refine l_lenT (SqT.of ht13) 3 rfl ?_
          walk_at "fv"
          refine ite_f (by rw [dI (by omega)]; rfl) ?_
          walk_at "fv"
          refine r_ixT (SqT.of ht13) (at_nat (i := 0) rfl rfl) ?_
          walk_at "fv"
          refine ite_f (by rw [show decide (V.str (Str.ofString "ring") = V.str (Str.ofString "ring")) = true from decide_eq_true rfl]; rfl) ?_
          walk_at "fv"
          refine r_ixT (SqT.of ht13) (at_nat (i := 2) rfl rfl) ?_
          walk_at "fv"
          refine l_isC wi ?_
          walk_at "fv"
          refine ite_f rfl ?_
          walk_at "fv"
          refine r_ixT (SqT.of ht13) (at_nat (i := 2) rfl rfl) ?_
          walk_at "fv"
          refine r_fld wi T.w_cl T.w_blocks (wF_blocks _ _ _) ?_
          walk_at "fv"
          refine ite_f (by rw [dI (by omega)]; rfl) ?_
          walk_at "fv"
          refine r_ixT (SqT.of ht13) (at_nat (i := 1) rfl rfl) ?_
          walk_at "fv"
          refine r_ixT (SqT.of ht13) (at_nat (i := 2) rfl rfl) ?_
          walk_at "fv"
          have had13 := (had.mono e11).mono e113
          refine ⟨d, r, wd, u, l, rows, o, ad, hadL hg M, R, U, by rw [ul]; rfl, by rw [ul]; exact had13, rv13.ring, rv13.words, by omega, by omega, by rw [ul]; exact lots, by rw [ul]; exact ring, ru, fun H14 e14 => ?_⟩
          walk_at "fv"
          refine ite_f rfl ?_
          walk_at "fv"
          have rv14 := rv13.mono e14
          refine r_ixT (SqT.of rv14.tup) (at_nat (i := 2) rfl rfl) ?_
          walk_at "fv"
          refine ⟨hs, h, mq, wd, u, l, rows, hg, U, M, rfl, ((hist10.mono e11).mono e113).mono e14, by rw [← ul]; exact rv14.words, ul, n2, tr, vm, fun b b1 b2 => ru.had b b1 (by omega), fun H15 e15 => ?_⟩
          walk_at "fv"
          refine ite_f rfl ?_
          walk_at "fv"
          exact ⟨(((hd10.ex e11).ex e113).ex e14).ex e15, _, _, _, _, _, _, _, _, rfl⟩
    · rintro σ' H' ⟨hd, v2, v3, v4, v5, v6, v7, v8, v9, rfl⟩
      walk_at "fv"
      exact k _
end
end FV
namespace FV
open PySem PySem.Spec PyProof.Rows L2 Evl
open C8 (Cal Mak Def InsC)
theorem df_mk {K : PySem.W.Frag} {h : Heap} {mg : Str → Option Value} {x : Str} {st : Stmt} {f : Addr} {ps : List Str} {od an : Option Addr} {sl : Array (Option Value)} {oc kV dc pm cd ct : Value} (X : K.In h) (G : h.Ns mainGlobals mg) (a : PySem.W.nsIn K mainGlobals x = some (some (.ref f)))
    (l : K.lookup f = some ⟨oc, od, .func (PySem.W.fnOf x x (C8.fnArgs st) (C8.fnBody st) (C8.fnScope st) .none kV dc pm an cd ct), sl⟩) (c : PySem.W.codeIn K cd x = true) (k : PySem.W.keepIn K (.ref f) = true)
    (hb : ∀ (kV doc pm : Value) (an : Option Addr) (cdv ct : Value) (us : List Value), us.length = ps.length → bindArgs (PySem.W.fnOf x x (C8.fnArgs st) (C8.fnBody st) (C8.fnScope st) .none kV doc pm an cdv ct) ⟨us, []⟩ = pure (ps.zip us)) : Df K mg x st ps :=
  have F : C8.Fun K x x st f (PySem.W.fnOf x x (C8.fnArgs st) (C8.fnBody st) (C8.fnScope st) .none kV dc pm an cd ct) := ⟨oc, od, .none, kV, dc, pm, an, cd, ct, sl, rfl, l, c⟩
  ⟨f, _, ⟨F, PySem.W.mg_of X G a, k⟩, F.binds rfl hb⟩
theorem b_is_integer (kV doc pm : Value) (an : Option Addr) (cdv ct : Value) (us : List Value) (hl : us.length = (["thing"] : List Str).length) : bindArgs (PySem.W.fnOf "is_integer" "is_integer" (C8.fnArgs s_is_integer) (C8.fnBody s_is_integer) (C8.fnScope s_is_integer) .none kV doc pm an cdv ct) ⟨us, []⟩ = pure ((["thing"] : List Str).zip us) := match us, hl with | [_], _ => rfl
theorem b_is_within (kV doc pm : Value) (an : Option Addr) (cdv ct : Value) (us : List Value) (hl : us.length = (["thing", "least", "most"] : List Str).length) : bindArgs (PySem.W.fnOf "is_within" "is_within" (C8.fnArgs s_is_within) (C8.fnBody s_is_within) (C8.fnScope s_is_within) .none kV doc pm an cdv ct) ⟨us, []⟩ = pure ((["thing", "least", "most"] : List Str).zip us) := match us, hl with | [_, _, _], _ => rfl
theorem b_is_pair (kV doc pm : Value) (an : Option Addr) (cdv ct : Value) (us : List Value) (hl : us.length = (["thing"] : List Str).length) : bindArgs (PySem.W.fnOf "is_pair" "is_pair" (C8.fnArgs s_is_pair) (C8.fnBody s_is_pair) (C8.fnScope s_is_pair) .none kV doc pm an cdv ct) ⟨us, []⟩ = pure ((["thing"] : List Str).zip us) := match us, hl with | [_], _ => rfl
theorem b_is_flag (kV doc pm : Value) (an : Option Addr) (cdv ct : Value) (us : List Value) (hl : us.length = (["thing"] : List Str).length) : bindArgs (PySem.W.fnOf "is_flag" "is_flag" (C8.fnArgs s_is_flag) (C8.fnBody s_is_flag) (C8.fnScope s_is_flag) .none kV doc pm an cdv ct) ⟨us, []⟩ = pure ((["thing"] : List Str).zip us) := match us, hl with | [_], _ => rfl
theorem b_leads_home (kV doc pm : Value) (an : Option Addr) (cdv ct : Value) (us : List Value) (hl : us.length = (["hung", "block"] : List Str).length) : bindArgs (PySem.W.fnOf "leads_home" "leads_home" (C8.fnArgs s_leads_home) (C8.fnBody s_leads_home) (C8.fnScope s_leads_home) .none kV doc pm an cdv ct) ⟨us, []⟩ = pure ((["hung", "block"] : List Str).zip us) := match us, hl with | [_, _], _ => rfl
theorem b_hanging (kV doc pm : Value) (an : Option Addr) (cdv ct : Value) (us : List Value) (hl : us.length = (["hung", "place"] : List Str).length) : bindArgs (PySem.W.fnOf "hanging" "hanging" (C8.fnArgs s_hanging) (C8.fnBody s_hanging) (C8.fnScope s_hanging) .none kV doc pm an cdv ct) ⟨us, []⟩ = pure ((["hung", "place"] : List Str).zip us) := match us, hl with | [_, _], _ => rfl
theorem b_beneath_in (kV doc pm : Value) (an : Option Addr) (cdv ct : Value) (us : List Value) (hl : us.length = (["hung", "place"] : List Str).length) : bindArgs (PySem.W.fnOf "beneath_in" "beneath_in" (C8.fnArgs s_beneath_in) (C8.fnBody s_beneath_in) (C8.fnScope s_beneath_in) .none kV doc pm an cdv ct) ⟨us, []⟩ = pure ((["hung", "place"] : List Str).zip us) := match us, hl with | [_, _], _ => rfl
theorem b_with_place (kV doc pm : Value) (an : Option Addr) (cdv ct : Value) (us : List Value) (hl : us.length = (["hung", "block", "place"] : List Str).length) : bindArgs (PySem.W.fnOf "with_place" "with_place" (C8.fnArgs s_with_place) (C8.fnBody s_with_place) (C8.fnScope s_with_place) .none kV doc pm an cdv ct) ⟨us, []⟩ = pure ((["hung", "block", "place"] : List Str).zip us) := match us, hl with | [_, _, _], _ => rfl
theorem b_check_ups (kV doc pm : Value) (an : Option Addr) (cdv ct : Value) (us : List Value) (hl : us.length = (["blocks", "ups"] : List Str).length) : bindArgs (PySem.W.fnOf "check_ups" "check_ups" (C8.fnArgs s_check_ups) (C8.fnBody s_check_ups) (C8.fnScope s_check_ups) .none kV doc pm an cdv ct) ⟨us, []⟩ = pure ((["blocks", "ups"] : List Str).zip us) := match us, hl with | [_, _], _ => rfl
theorem b_check_lists (kV doc pm : Value) (an : Option Addr) (cdv ct : Value) (us : List Value) (hl : us.length = (["blocks", "lists"] : List Str).length) : bindArgs (PySem.W.fnOf "check_lists" "check_lists" (C8.fnArgs s_check_lists) (C8.fnBody s_check_lists) (C8.fnScope s_check_lists) .none kV doc pm an cdv ct) ⟨us, []⟩ = pure ((["blocks", "lists"] : List Str).zip us) := match us, hl with | [_, _], _ => rfl
theorem b_words_from (kV doc pm : Value) (an : Option Addr) (cdv ct : Value) (us : List Value) (hl : us.length = (["ups", "pairs"] : List Str).length) : bindArgs (PySem.W.fnOf "words_from" "words_from" (C8.fnArgs s_words_from) (C8.fnBody s_words_from) (C8.fnScope s_words_from) .none kV doc pm an cdv ct) ⟨us, []⟩ = pure ((["ups", "pairs"] : List Str).zip us) := match us, hl with | [_, _], _ => rfl
theorem b_raw_costs (kV doc pm : Value) (an : Option Addr) (cdv ct : Value) (us : List Value) (hl : us.length = (["words", "block"] : List Str).length) : bindArgs (PySem.W.fnOf "raw_costs" "raw_costs" (C8.fnArgs s_raw_costs) (C8.fnBody s_raw_costs) (C8.fnScope s_raw_costs) .none kV doc pm an cdv ct) ⟨us, []⟩ = pure ((["words", "block"] : List Str).zip us) := match us, hl with | [_, _], _ => rfl
theorem b_raw_vote (kV doc pm : Value) (an : Option Addr) (cdv ct : Value) (us : List Value) (hl : us.length = (["words", "block"] : List Str).length) : bindArgs (PySem.W.fnOf "raw_vote" "raw_vote" (C8.fnArgs s_raw_vote) (C8.fnBody s_raw_vote) (C8.fnScope s_raw_vote) .none kV doc pm an cdv ct) ⟨us, []⟩ = pure ((["words", "block"] : List Str).zip us) := match us, hl with | [_, _], _ => rfl
theorem b_votes (kV doc pm : Value) (an : Option Addr) (cdv ct : Value) (us : List Value) (hl : us.length = (["words"] : List Str).length) : bindArgs (PySem.W.fnOf "votes" "votes" (C8.fnArgs s_votes) (C8.fnBody s_votes) (C8.fnScope s_votes) .none kV doc pm an cdv ct) ⟨us, []⟩ = pure ((["words"] : List Str).zip us) := match us, hl with | [_], _ => rfl
theorem b_is_move (kV doc pm : Value) (an : Option Addr) (cdv ct : Value) (us : List Value) (hl : us.length = (["hung", "thing"] : List Str).length) : bindArgs (PySem.W.fnOf "is_move" "is_move" (C8.fnArgs s_is_move) (C8.fnBody s_is_move) (C8.fnScope s_is_move) .none kV doc pm an cdv ct) ⟨us, []⟩ = pure ((["hung", "thing"] : List Str).zip us) := match us, hl with | [_, _], _ => rfl
theorem b_places_had (kV doc pm : Value) (an : Option Addr) (cdv ct : Value) (us : List Value) (hl : us.length = (["hung", "moves"] : List Str).length) : bindArgs (PySem.W.fnOf "places_had" "places_had" (C8.fnArgs s_places_had) (C8.fnBody s_places_had) (C8.fnScope s_places_had) .none kV doc pm an cdv ct) ⟨us, []⟩ = pure ((["hung", "moves"] : List Str).zip us) := match us, hl with | [_, _], _ => rfl
theorem b_had (kV doc pm : Value) (an : Option Addr) (cdv ct : Value) (us : List Value) (hl : us.length = (["history"] : List Str).length) : bindArgs (PySem.W.fnOf "had" "had" (C8.fnArgs s_had) (C8.fnBody s_had) (C8.fnScope s_had) .none kV doc pm an cdv ct) ⟨us, []⟩ = pure ((["history"] : List Str).zip us) := match us, hl with | [_], _ => rfl
theorem b_can_list (kV doc pm : Value) (an : Option Addr) (cdv ct : Value) (us : List Value) (hl : us.length = (["places", "place", "told"] : List Str).length) : bindArgs (PySem.W.fnOf "can_list" "can_list" (C8.fnArgs s_can_list) (C8.fnBody s_can_list) (C8.fnScope s_can_list) .none kV doc pm an cdv ct) ⟨us, []⟩ = pure ((["places", "place", "told"] : List Str).zip us) := match us, hl with | [_, _, _], _ => rfl
theorem b_can_stand (kV doc pm : Value) (an : Option Addr) (cdv ct : Value) (us : List Value) (hl : us.length = (["history", "words"] : List Str).length) : bindArgs (PySem.W.fnOf "can_stand" "can_stand" (C8.fnArgs s_can_stand) (C8.fnBody s_can_stand) (C8.fnScope s_can_stand) .none kV doc pm an cdv ct) ⟨us, []⟩ = pure ((["history", "words"] : List Str).zip us) := match us, hl with | [_, _], _ => rfl
theorem b_order_of (kV doc pm : Value) (an : Option Addr) (cdv ct : Value) (us : List Value) (hl : us.length = (["told"] : List Str).length) : bindArgs (PySem.W.fnOf "order_of" "order_of" (C8.fnArgs s_order_of) (C8.fnBody s_order_of) (C8.fnScope s_order_of) .none kV doc pm an cdv ct) ⟨us, []⟩ = pure ((["told"] : List Str).zip us) := match us, hl with | [_], _ => rfl
theorem b_ring_of (kV doc pm : Value) (an : Option Addr) (cdv ct : Value) (us : List Value) (hl : us.length = (["told", "done"] : List Str).length) : bindArgs (PySem.W.fnOf "ring_of" "ring_of" (C8.fnArgs s_ring_of) (C8.fnBody s_ring_of) (C8.fnScope s_ring_of) .none kV doc pm an cdv ct) ⟨us, []⟩ = pure ((["told", "done"] : List Str).zip us) := match us, hl with | [_, _], _ => rfl
theorem b_verdict (kV doc pm : Value) (an : Option Addr) (cdv ct : Value) (us : List Value) (hl : us.length = (["history"] : List Str).length) : bindArgs (PySem.W.fnOf "verdict" "verdict" (C8.fnArgs s_verdict) (C8.fnBody s_verdict) (C8.fnScope s_verdict) .none kV doc pm an cdv ct) ⟨us, []⟩ = pure ((["history"] : List Str).zip us) := match us, hl with | [_], _ => rfl
theorem b_is_order (kV doc pm : Value) (an : Option Addr) (cdv ct : Value) (us : List Value) (hl : us.length = (["told", "thing"] : List Str).length) : bindArgs (PySem.W.fnOf "is_order" "is_order" (C8.fnArgs s_is_order) (C8.fnBody s_is_order) (C8.fnScope s_is_order) .none kV doc pm an cdv ct) ⟨us, []⟩ = pure ((["told", "thing"] : List Str).zip us) := match us, hl with | [_, _], _ => rfl
theorem b_is_ring (kV doc pm : Value) (an : Option Addr) (cdv ct : Value) (us : List Value) (hl : us.length = (["told", "thing"] : List Str).length) : bindArgs (PySem.W.fnOf "is_ring" "is_ring" (C8.fnArgs s_is_ring) (C8.fnBody s_is_ring) (C8.fnScope s_is_ring) .none kV doc pm an cdv ct) ⟨us, []⟩ = pure ((["told", "thing"] : List Str).zip us) := match us, hl with | [_, _], _ => rfl
theorem b_is_verdict (kV doc pm : Value) (an : Option Addr) (cdv ct : Value) (us : List Value) (hl : us.length = (["history", "thing"] : List Str).length) : bindArgs (PySem.W.fnOf "is_verdict" "is_verdict" (C8.fnArgs s_is_verdict) (C8.fnBody s_is_verdict) (C8.fnScope s_is_verdict) .none kV doc pm an cdv ct) ⟨us, []⟩ = pure ((["history", "thing"] : List Str).zip us) := match us, hl with | [_, _], _ => rfl
theorem b__law_hand (kV doc pm : Value) (an : Option Addr) (cdv ct : Value) (us : List Value) (hl : us.length = (["_law_script"] : List Str).length) : bindArgs (PySem.W.fnOf "_law_hand" "_law_hand" (C8.fnArgs s__law_hand) (C8.fnBody s__law_hand) (C8.fnScope s__law_hand) .none kV doc pm an cdv ct) ⟨us, []⟩ = pure ((["_law_script"] : List Str).zip us) := match us, hl with | [_], _ => rfl
theorem b__law_draw (kV doc pm : Value) (an : Option Addr) (cdv ct : Value) (us : List Value) (hl : us.length = (["_law_hand_here", "_law_many"] : List Str).length) : bindArgs (PySem.W.fnOf "_law_draw" "_law_draw" (C8.fnArgs s__law_draw) (C8.fnBody s__law_draw) (C8.fnScope s__law_draw) .none kV doc pm an cdv ct) ⟨us, []⟩ = pure ((["_law_hand_here", "_law_many"] : List Str).zip us) := match us, hl with | [_, _], _ => rfl
theorem b__law_tree (kV doc pm : Value) (an : Option Addr) (cdv ct : Value) (us : List Value) (hl : us.length = (["_law_hand_here", "_law_many"] : List Str).length) : bindArgs (PySem.W.fnOf "_law_tree" "_law_tree" (C8.fnArgs s__law_tree) (C8.fnBody s__law_tree) (C8.fnScope s__law_tree) .none kV doc pm an cdv ct) ⟨us, []⟩ = pure ((["_law_hand_here", "_law_many"] : List Str).zip us) := match us, hl with | [_, _], _ => rfl
theorem b__law_row (kV doc pm : Value) (an : Option Addr) (cdv ct : Value) (us : List Value) (hl : us.length = (["_law_hung", "_law_place"] : List Str).length) : bindArgs (PySem.W.fnOf "_law_row" "_law_row" (C8.fnArgs s__law_row) (C8.fnBody s__law_row) (C8.fnScope s__law_row) .none kV doc pm an cdv ct) ⟨us, []⟩ = pure ((["_law_hung", "_law_place"] : List Str).zip us) := match us, hl with | [_, _], _ => rfl
theorem b__law_beneath (kV doc pm : Value) (an : Option Addr) (cdv ct : Value) (us : List Value) (hl : us.length = (["_law_hung", "_law_place"] : List Str).length) : bindArgs (PySem.W.fnOf "_law_beneath" "_law_beneath" (C8.fnArgs s__law_beneath) (C8.fnBody s__law_beneath) (C8.fnScope s__law_beneath) .none kV doc pm an cdv ct) ⟨us, []⟩ = pure ((["_law_hung", "_law_place"] : List Str).zip us) := match us, hl with | [_, _], _ => rfl
theorem b__law_put (kV doc pm : Value) (an : Option Addr) (cdv ct : Value) (us : List Value) (hl : us.length = (["_law_hung", "_law_block", "_law_place"] : List Str).length) : bindArgs (PySem.W.fnOf "_law_put" "_law_put" (C8.fnArgs s__law_put) (C8.fnBody s__law_put) (C8.fnScope s__law_put) .none kV doc pm an cdv ct) ⟨us, []⟩ = pure ((["_law_hung", "_law_block", "_law_place"] : List Str).zip us) := match us, hl with | [_, _, _], _ => rfl
theorem b__law_moves (kV doc pm : Value) (an : Option Addr) (cdv ct : Value) (us : List Value) (hl : us.length = (["_law_hand_here", "_law_hung", "_law_many"] : List Str).length) : bindArgs (PySem.W.fnOf "_law_moves" "_law_moves" (C8.fnArgs s__law_moves) (C8.fnBody s__law_moves) (C8.fnScope s__law_moves) .none kV doc pm an cdv ct) ⟨us, []⟩ = pure ((["_law_hand_here", "_law_hung", "_law_many"] : List Str).zip us) := match us, hl with | [_, _, _], _ => rfl
theorem b__law_had (kV doc pm : Value) (an : Option Addr) (cdv ct : Value) (us : List Value) (hl : us.length = (["_law_hung", "_law_moves_here"] : List Str).length) : bindArgs (PySem.W.fnOf "_law_had" "_law_had" (C8.fnArgs s__law_had) (C8.fnBody s__law_had) (C8.fnScope s__law_had) .none kV doc pm an cdv ct) ⟨us, []⟩ = pure ((["_law_hung", "_law_moves_here"] : List Str).zip us) := match us, hl with | [_, _], _ => rfl
theorem b__law_is_round (kV doc pm : Value) (an : Option Addr) (cdv ct : Value) (us : List Value) (hl : us.length = (["_law_known"] : List Str).length) : bindArgs (PySem.W.fnOf "_law_is_round" "_law_is_round" (C8.fnArgs s__law_is_round) (C8.fnBody s__law_is_round) (C8.fnScope s__law_is_round) .none kV doc pm an cdv ct) ⟨us, []⟩ = pure ((["_law_known"] : List Str).zip us) := match us, hl with | [_], _ => rfl
theorem b__law_worths (kV doc pm : Value) (an : Option Addr) (cdv ct : Value) (us : List Value) (hl : us.length = (["_law_known", "_law_many"] : List Str).length) : bindArgs (PySem.W.fnOf "_law_worths" "_law_worths" (C8.fnArgs s__law_worths) (C8.fnBody s__law_worths) (C8.fnScope s__law_worths) .none kV doc pm an cdv ct) ⟨us, []⟩ = pure ((["_law_known", "_law_many"] : List Str).zip us) := match us, hl with | [_, _], _ => rfl
theorem b__law_cost (kV doc pm : Value) (an : Option Addr) (cdv ct : Value) (us : List Value) (hl : us.length = (["_law_ups", "_law_lists", "_law_block", "_law_place"] : List Str).length) : bindArgs (PySem.W.fnOf "_law_cost" "_law_cost" (C8.fnArgs s__law_cost) (C8.fnBody s__law_cost) (C8.fnScope s__law_cost) .none kV doc pm an cdv ct) ⟨us, []⟩ = pure ((["_law_ups", "_law_lists", "_law_block", "_law_place"] : List Str).zip us) := match us, hl with | [_, _, _, _], _ => rfl
theorem b__law_vote (kV doc pm : Value) (an : Option Addr) (cdv ct : Value) (us : List Value) (hl : us.length = (["_law_ups", "_law_lists", "_law_block"] : List Str).length) : bindArgs (PySem.W.fnOf "_law_vote" "_law_vote" (C8.fnArgs s__law_vote) (C8.fnBody s__law_vote) (C8.fnScope s__law_vote) .none kV doc pm an cdv ct) ⟨us, []⟩ = pure ((["_law_ups", "_law_lists", "_law_block"] : List Str).zip us) := match us, hl with | [_, _, _], _ => rfl
theorem b__law_behind (kV doc pm : Value) (an : Option Addr) (cdv ct : Value) (us : List Value) (hl : us.length = (["_law_had_here", "_law_order"] : List Str).length) : bindArgs (PySem.W.fnOf "_law_behind" "_law_behind" (C8.fnArgs s__law_behind) (C8.fnBody s__law_behind) (C8.fnScope s__law_behind) .none kV doc pm an cdv ct) ⟨us, []⟩ = pure ((["_law_had_here", "_law_order"] : List Str).zip us) := match us, hl with | [_, _], _ => rfl
theorem b__law_is_right_order (kV doc pm : Value) (an : Option Addr) (cdv ct : Value) (us : List Value) (hl : us.length = (["_law_had_here", "_law_order"] : List Str).length) : bindArgs (PySem.W.fnOf "_law_is_right_order" "_law_is_right_order" (C8.fnArgs s__law_is_right_order) (C8.fnBody s__law_is_right_order) (C8.fnScope s__law_is_right_order) .none kV doc pm an cdv ct) ⟨us, []⟩ = pure ((["_law_had_here", "_law_order"] : List Str).zip us) := match us, hl with | [_, _], _ => rfl
theorem b__law_is_right_ring (kV doc pm : Value) (an : Option Addr) (cdv ct : Value) (us : List Value) (hl : us.length = (["_law_had_here", "_law_many", "_law_ring", "_law_words_here"] : List Str).length) : bindArgs (PySem.W.fnOf "_law_is_right_ring" "_law_is_right_ring" (C8.fnArgs s__law_is_right_ring) (C8.fnBody s__law_is_right_ring) (C8.fnScope s__law_is_right_ring) .none kV doc pm an cdv ct) ⟨us, []⟩ = pure ((["_law_had_here", "_law_many", "_law_ring", "_law_words_here"] : List Str).zip us) := match us, hl with | [_, _, _, _], _ => rfl
theorem b_Tree_init (kV doc pm : Value) (an : Option Addr) (cdv ct : Value) (us : List Value) (hl : us.length = (["self", "hung"] : List Str).length) : bindArgs (PySem.W.fnOf "__init__" "Tree.__init__" (C8.fnArgs s_Tree_init) (C8.fnBody s_Tree_init) (C8.fnScope s_Tree_init) .none kV doc pm an cdv ct) ⟨us, []⟩ = pure ((["self", "hung"] : List Str).zip us) := match us, hl with | [_, _], _ => rfl
theorem b_Words_init (kV doc pm : Value) (an : Option Addr) (cdv ct : Value) (us : List Value) (hl : us.length = (["self", "blocks", "ups", "lists"] : List Str).length) : bindArgs (PySem.W.fnOf "__init__" "Words.__init__" (C8.fnArgs s_Words_init) (C8.fnBody s_Words_init) (C8.fnScope s_Words_init) .none kV doc pm an cdv ct) ⟨us, []⟩ = pure ((["self", "blocks", "ups", "lists"] : List Str).zip us) := match us, hl with | [_, _, _, _], _ => rfl
theorem b_History_init (kV doc pm : Value) (an : Option Addr) (cdv ct : Value) (us : List Value) (hl : us.length = (["self", "tree", "moves"] : List Str).length) : bindArgs (PySem.W.fnOf "__init__" "History.__init__" (C8.fnArgs s_History_init) (C8.fnBody s_History_init) (C8.fnScope s_History_init) .none kV doc pm an cdv ct) ⟨us, []⟩ = pure ((["self", "tree", "moves"] : List Str).zip us) := match us, hl with | [_, _, _], _ => rfl
theorem all_mk {l : PySem.W.OpenLaw} {w : World} {K : PySem.W.Frag} {h : Heap} {mg : Str → Option Value} {fa cT cW cH f0 f1 f2 f3 f4 f5 f6 f7 f8 f9 f10 f11 f12 f13 f14 f15 f16 f17 f18 f19 f20 f21 f22 f23 f24 f25 f26 f27 f28 f29 f30 f31 f32 f33 f34 f35 f36 f37 f38 f39 f40 g0 g1 g2 : Addr} (X : K.In h) (G : h.Ns mainGlobals mg) (hfa : mg "law" = some (.ref fa))
    {od_f0 an_f0 od_f1 an_f1 od_f2 an_f2 od_f3 an_f3 od_f4 an_f4 od_f5 an_f5 od_f6 an_f6 od_f7 an_f7 od_f8 an_f8 od_f9 an_f9 od_f10 an_f10 od_f11 an_f11 od_f12 an_f12 od_f13 an_f13 od_f14 an_f14 od_f15 an_f15 od_f16 an_f16 od_f17 an_f17 od_f18 an_f18 od_f19 an_f19 od_f20 an_f20 od_f21 an_f21 od_f22 an_f22 od_f23 an_f23 od_f24 an_f24 od_f25 an_f25 od_f26 an_f26 od_f27 an_f27 od_f28 an_f28 od_f29 an_f29 od_f30 an_f30 od_f31 an_f31 od_f32 an_f32 od_f33 an_f33 od_f34 an_f34 od_f35 an_f35 od_f36 an_f36 od_f37 an_f37 od_f38 an_f38 od_f39 an_f39 od_f40 an_f40 od_g0 an_g0 od_g1 an_g1 od_g2 an_g2 : Option Addr} {sl_f0 sl_f1 sl_f2 sl_f3 sl_f4 sl_f5 sl_f6 sl_f7 sl_f8 sl_f9 sl_f10 sl_f11 sl_f12 sl_f13 sl_f14 sl_f15 sl_f16 sl_f17 sl_f18 sl_f19 sl_f20 sl_f21 sl_f22 sl_f23 sl_f24 sl_f25 sl_f26 sl_f27 sl_f28 sl_f29 sl_f30 sl_f31 sl_f32 sl_f33 sl_f34 sl_f35 sl_f36 sl_f37 sl_f38 sl_f39 sl_f40 sl_g0 sl_g1 sl_g2 : Array (Option Value)} {oc_f0 kV_f0 dc_f0 pm_f0 cd_f0 ct_f0 oc_f1 kV_f1 dc_f1 pm_f1 cd_f1 ct_f1 oc_f2 kV_f2 dc_f2 pm_f2 cd_f2 ct_f2 oc_f3 kV_f3 dc_f3 pm_f3 cd_f3 ct_f3 oc_f4 kV_f4 dc_f4 pm_f4 cd_f4 ct_f4 oc_f5 kV_f5 dc_f5 pm_f5 cd_f5 ct_f5 oc_f6 kV_f6 dc_f6 pm_f6 cd_f6 ct_f6 oc_f7 kV_f7 dc_f7 pm_f7 cd_f7 ct_f7 oc_f8 kV_f8 dc_f8 pm_f8 cd_f8 ct_f8 oc_f9 kV_f9 dc_f9 pm_f9 cd_f9 ct_f9 oc_f10 kV_f10 dc_f10 pm_f10 cd_f10 ct_f10 oc_f11 kV_f11 dc_f11 pm_f11 cd_f11 ct_f11 oc_f12 kV_f12 dc_f12 pm_f12 cd_f12 ct_f12 oc_f13 kV_f13 dc_f13 pm_f13 cd_f13 ct_f13 oc_f14 kV_f14 dc_f14 pm_f14 cd_f14 ct_f14 oc_f15 kV_f15 dc_f15 pm_f15 cd_f15 ct_f15 oc_f16 kV_f16 dc_f16 pm_f16 cd_f16 ct_f16 oc_f17 kV_f17 dc_f17 pm_f17 cd_f17 ct_f17 oc_f18 kV_f18 dc_f18 pm_f18 cd_f18 ct_f18 oc_f19 kV_f19 dc_f19 pm_f19 cd_f19 ct_f19 oc_f20 kV_f20 dc_f20 pm_f20 cd_f20 ct_f20 oc_f21 kV_f21 dc_f21 pm_f21 cd_f21 ct_f21 oc_f22 kV_f22 dc_f22 pm_f22 cd_f22 ct_f22 oc_f23 kV_f23 dc_f23 pm_f23 cd_f23 ct_f23 oc_f24 kV_f24 dc_f24 pm_f24 cd_f24 ct_f24 oc_f25 kV_f25 dc_f25 pm_f25 cd_f25 ct_f25 oc_f26 kV_f26 dc_f26 pm_f26 cd_f26 ct_f26 oc_f27 kV_f27 dc_f27 pm_f27 cd_f27 ct_f27 oc_f28 kV_f28 dc_f28 pm_f28 cd_f28 ct_f28 oc_f29 kV_f29 dc_f29 pm_f29 cd_f29 ct_f29 oc_f30 kV_f30 dc_f30 pm_f30 cd_f30 ct_f30 oc_f31 kV_f31 dc_f31 pm_f31 cd_f31 ct_f31 oc_f32 kV_f32 dc_f32 pm_f32 cd_f32 ct_f32 oc_f33 kV_f33 dc_f33 pm_f33 cd_f33 ct_f33 oc_f34 kV_f34 dc_f34 pm_f34 cd_f34 ct_f34 oc_f35 kV_f35 dc_f35 pm_f35 cd_f35 ct_f35 oc_f36 kV_f36 dc_f36 pm_f36 cd_f36 ct_f36 oc_f37 kV_f37 dc_f37 pm_f37 cd_f37 ct_f37 oc_f38 kV_f38 dc_f38 pm_f38 cd_f38 ct_f38 oc_f39 kV_f39 dc_f39 pm_f39 cd_f39 ct_f39 oc_f40 kV_f40 dc_f40 pm_f40 cd_f40 ct_f40 oc_g0 kV_g0 dc_g0 pm_g0 cd_g0 ct_g0 oc_g1 kV_g1 dc_g1 pm_g1 cd_g1 ct_g1 oc_g2 kV_g2 dc_g2 pm_g2 cd_g2 ct_g2 : Value} {t_MOST_BLOCKS t_MOST_MOVES t_HEAD : Tok}
    (n_Tree : PySem.W.nsIn K mainGlobals "Tree" = some (some (.ref cT)))
    (n_Words : PySem.W.nsIn K mainGlobals "Words" = some (some (.ref cW)))
    (n_History : PySem.W.nsIn K mainGlobals "History" = some (some (.ref cH)))
    (a_f0 : PySem.W.nsIn K mainGlobals "is_integer" = some (some (.ref f0)))
    (l_f0 : K.lookup f0 = some ⟨oc_f0, od_f0, .func (PySem.W.fnOf "is_integer" "is_integer" (C8.fnArgs s_is_integer) (C8.fnBody s_is_integer) (C8.fnScope s_is_integer) .none kV_f0 dc_f0 pm_f0 an_f0 cd_f0 ct_f0), sl_f0⟩)
    (c_f0 : PySem.W.codeIn K cd_f0 "is_integer" = true)
    (k_f0 : PySem.W.keepIn K (.ref f0) = true)
    (a_f1 : PySem.W.nsIn K mainGlobals "is_within" = some (some (.ref f1)))
    (l_f1 : K.lookup f1 = some ⟨oc_f1, od_f1, .func (PySem.W.fnOf "is_within" "is_within" (C8.fnArgs s_is_within) (C8.fnBody s_is_within) (C8.fnScope s_is_within) .none kV_f1 dc_f1 pm_f1 an_f1 cd_f1 ct_f1), sl_f1⟩)
    (c_f1 : PySem.W.codeIn K cd_f1 "is_within" = true)
    (k_f1 : PySem.W.keepIn K (.ref f1) = true)
    (a_f2 : PySem.W.nsIn K mainGlobals "is_pair" = some (some (.ref f2)))
    (l_f2 : K.lookup f2 = some ⟨oc_f2, od_f2, .func (PySem.W.fnOf "is_pair" "is_pair" (C8.fnArgs s_is_pair) (C8.fnBody s_is_pair) (C8.fnScope s_is_pair) .none kV_f2 dc_f2 pm_f2 an_f2 cd_f2 ct_f2), sl_f2⟩)
    (c_f2 : PySem.W.codeIn K cd_f2 "is_pair" = true)
    (k_f2 : PySem.W.keepIn K (.ref f2) = true)
    (a_f3 : PySem.W.nsIn K mainGlobals "is_flag" = some (some (.ref f3)))
    (l_f3 : K.lookup f3 = some ⟨oc_f3, od_f3, .func (PySem.W.fnOf "is_flag" "is_flag" (C8.fnArgs s_is_flag) (C8.fnBody s_is_flag) (C8.fnScope s_is_flag) .none kV_f3 dc_f3 pm_f3 an_f3 cd_f3 ct_f3), sl_f3⟩)
    (c_f3 : PySem.W.codeIn K cd_f3 "is_flag" = true)
    (k_f3 : PySem.W.keepIn K (.ref f3) = true)
    (a_f4 : PySem.W.nsIn K mainGlobals "leads_home" = some (some (.ref f4)))
    (l_f4 : K.lookup f4 = some ⟨oc_f4, od_f4, .func (PySem.W.fnOf "leads_home" "leads_home" (C8.fnArgs s_leads_home) (C8.fnBody s_leads_home) (C8.fnScope s_leads_home) .none kV_f4 dc_f4 pm_f4 an_f4 cd_f4 ct_f4), sl_f4⟩)
    (c_f4 : PySem.W.codeIn K cd_f4 "leads_home" = true)
    (k_f4 : PySem.W.keepIn K (.ref f4) = true)
    (a_f5 : PySem.W.nsIn K mainGlobals "hanging" = some (some (.ref f5)))
    (l_f5 : K.lookup f5 = some ⟨oc_f5, od_f5, .func (PySem.W.fnOf "hanging" "hanging" (C8.fnArgs s_hanging) (C8.fnBody s_hanging) (C8.fnScope s_hanging) .none kV_f5 dc_f5 pm_f5 an_f5 cd_f5 ct_f5), sl_f5⟩)
    (c_f5 : PySem.W.codeIn K cd_f5 "hanging" = true)
    (k_f5 : PySem.W.keepIn K (.ref f5) = true)
    (a_f6 : PySem.W.nsIn K mainGlobals "beneath_in" = some (some (.ref f6)))
    (l_f6 : K.lookup f6 = some ⟨oc_f6, od_f6, .func (PySem.W.fnOf "beneath_in" "beneath_in" (C8.fnArgs s_beneath_in) (C8.fnBody s_beneath_in) (C8.fnScope s_beneath_in) .none kV_f6 dc_f6 pm_f6 an_f6 cd_f6 ct_f6), sl_f6⟩)
    (c_f6 : PySem.W.codeIn K cd_f6 "beneath_in" = true)
    (k_f6 : PySem.W.keepIn K (.ref f6) = true)
    (a_f7 : PySem.W.nsIn K mainGlobals "with_place" = some (some (.ref f7)))
    (l_f7 : K.lookup f7 = some ⟨oc_f7, od_f7, .func (PySem.W.fnOf "with_place" "with_place" (C8.fnArgs s_with_place) (C8.fnBody s_with_place) (C8.fnScope s_with_place) .none kV_f7 dc_f7 pm_f7 an_f7 cd_f7 ct_f7), sl_f7⟩)
    (c_f7 : PySem.W.codeIn K cd_f7 "with_place" = true)
    (k_f7 : PySem.W.keepIn K (.ref f7) = true)
    (a_f8 : PySem.W.nsIn K mainGlobals "check_ups" = some (some (.ref f8)))
    (l_f8 : K.lookup f8 = some ⟨oc_f8, od_f8, .func (PySem.W.fnOf "check_ups" "check_ups" (C8.fnArgs s_check_ups) (C8.fnBody s_check_ups) (C8.fnScope s_check_ups) .none kV_f8 dc_f8 pm_f8 an_f8 cd_f8 ct_f8), sl_f8⟩)
    (c_f8 : PySem.W.codeIn K cd_f8 "check_ups" = true)
    (k_f8 : PySem.W.keepIn K (.ref f8) = true)
    (a_f9 : PySem.W.nsIn K mainGlobals "check_lists" = some (some (.ref f9)))
    (l_f9 : K.lookup f9 = some ⟨oc_f9, od_f9, .func (PySem.W.fnOf "check_lists" "check_lists" (C8.fnArgs s_check_lists) (C8.fnBody s_check_lists) (C8.fnScope s_check_lists) .none kV_f9 dc_f9 pm_f9 an_f9 cd_f9 ct_f9), sl_f9⟩)
    (c_f9 : PySem.W.codeIn K cd_f9 "check_lists" = true)
    (k_f9 : PySem.W.keepIn K (.ref f9) = true)
    (a_f10 : PySem.W.nsIn K mainGlobals "words_from" = some (some (.ref f10)))
    (l_f10 : K.lookup f10 = some ⟨oc_f10, od_f10, .func (PySem.W.fnOf "words_from" "words_from" (C8.fnArgs s_words_from) (C8.fnBody s_words_from) (C8.fnScope s_words_from) .none kV_f10 dc_f10 pm_f10 an_f10 cd_f10 ct_f10), sl_f10⟩)
    (c_f10 : PySem.W.codeIn K cd_f10 "words_from" = true)
    (k_f10 : PySem.W.keepIn K (.ref f10) = true)
    (a_f11 : PySem.W.nsIn K mainGlobals "raw_costs" = some (some (.ref f11)))
    (l_f11 : K.lookup f11 = some ⟨oc_f11, od_f11, .func (PySem.W.fnOf "raw_costs" "raw_costs" (C8.fnArgs s_raw_costs) (C8.fnBody s_raw_costs) (C8.fnScope s_raw_costs) .none kV_f11 dc_f11 pm_f11 an_f11 cd_f11 ct_f11), sl_f11⟩)
    (c_f11 : PySem.W.codeIn K cd_f11 "raw_costs" = true)
    (k_f11 : PySem.W.keepIn K (.ref f11) = true)
    (a_f12 : PySem.W.nsIn K mainGlobals "raw_vote" = some (some (.ref f12)))
    (l_f12 : K.lookup f12 = some ⟨oc_f12, od_f12, .func (PySem.W.fnOf "raw_vote" "raw_vote" (C8.fnArgs s_raw_vote) (C8.fnBody s_raw_vote) (C8.fnScope s_raw_vote) .none kV_f12 dc_f12 pm_f12 an_f12 cd_f12 ct_f12), sl_f12⟩)
    (c_f12 : PySem.W.codeIn K cd_f12 "raw_vote" = true)
    (k_f12 : PySem.W.keepIn K (.ref f12) = true)
    (a_f13 : PySem.W.nsIn K mainGlobals "votes" = some (some (.ref f13)))
    (l_f13 : K.lookup f13 = some ⟨oc_f13, od_f13, .func (PySem.W.fnOf "votes" "votes" (C8.fnArgs s_votes) (C8.fnBody s_votes) (C8.fnScope s_votes) .none kV_f13 dc_f13 pm_f13 an_f13 cd_f13 ct_f13), sl_f13⟩)
    (c_f13 : PySem.W.codeIn K cd_f13 "votes" = true)
    (k_f13 : PySem.W.keepIn K (.ref f13) = true)
    (a_f14 : PySem.W.nsIn K mainGlobals "is_move" = some (some (.ref f14)))
    (l_f14 : K.lookup f14 = some ⟨oc_f14, od_f14, .func (PySem.W.fnOf "is_move" "is_move" (C8.fnArgs s_is_move) (C8.fnBody s_is_move) (C8.fnScope s_is_move) .none kV_f14 dc_f14 pm_f14 an_f14 cd_f14 ct_f14), sl_f14⟩)
    (c_f14 : PySem.W.codeIn K cd_f14 "is_move" = true)
    (k_f14 : PySem.W.keepIn K (.ref f14) = true)
    (a_f15 : PySem.W.nsIn K mainGlobals "places_had" = some (some (.ref f15)))
    (l_f15 : K.lookup f15 = some ⟨oc_f15, od_f15, .func (PySem.W.fnOf "places_had" "places_had" (C8.fnArgs s_places_had) (C8.fnBody s_places_had) (C8.fnScope s_places_had) .none kV_f15 dc_f15 pm_f15 an_f15 cd_f15 ct_f15), sl_f15⟩)
    (c_f15 : PySem.W.codeIn K cd_f15 "places_had" = true)
    (k_f15 : PySem.W.keepIn K (.ref f15) = true)
    (a_f16 : PySem.W.nsIn K mainGlobals "had" = some (some (.ref f16)))
    (l_f16 : K.lookup f16 = some ⟨oc_f16, od_f16, .func (PySem.W.fnOf "had" "had" (C8.fnArgs s_had) (C8.fnBody s_had) (C8.fnScope s_had) .none kV_f16 dc_f16 pm_f16 an_f16 cd_f16 ct_f16), sl_f16⟩)
    (c_f16 : PySem.W.codeIn K cd_f16 "had" = true)
    (k_f16 : PySem.W.keepIn K (.ref f16) = true)
    (a_f17 : PySem.W.nsIn K mainGlobals "can_list" = some (some (.ref f17)))
    (l_f17 : K.lookup f17 = some ⟨oc_f17, od_f17, .func (PySem.W.fnOf "can_list" "can_list" (C8.fnArgs s_can_list) (C8.fnBody s_can_list) (C8.fnScope s_can_list) .none kV_f17 dc_f17 pm_f17 an_f17 cd_f17 ct_f17), sl_f17⟩)
    (c_f17 : PySem.W.codeIn K cd_f17 "can_list" = true)
    (k_f17 : PySem.W.keepIn K (.ref f17) = true)
    (a_f18 : PySem.W.nsIn K mainGlobals "can_stand" = some (some (.ref f18)))
    (l_f18 : K.lookup f18 = some ⟨oc_f18, od_f18, .func (PySem.W.fnOf "can_stand" "can_stand" (C8.fnArgs s_can_stand) (C8.fnBody s_can_stand) (C8.fnScope s_can_stand) .none kV_f18 dc_f18 pm_f18 an_f18 cd_f18 ct_f18), sl_f18⟩)
    (c_f18 : PySem.W.codeIn K cd_f18 "can_stand" = true)
    (k_f18 : PySem.W.keepIn K (.ref f18) = true)
    (a_f19 : PySem.W.nsIn K mainGlobals "order_of" = some (some (.ref f19)))
    (l_f19 : K.lookup f19 = some ⟨oc_f19, od_f19, .func (PySem.W.fnOf "order_of" "order_of" (C8.fnArgs s_order_of) (C8.fnBody s_order_of) (C8.fnScope s_order_of) .none kV_f19 dc_f19 pm_f19 an_f19 cd_f19 ct_f19), sl_f19⟩)
    (c_f19 : PySem.W.codeIn K cd_f19 "order_of" = true)
    (k_f19 : PySem.W.keepIn K (.ref f19) = true)
    (a_f20 : PySem.W.nsIn K mainGlobals "ring_of" = some (some (.ref f20)))
    (l_f20 : K.lookup f20 = some ⟨oc_f20, od_f20, .func (PySem.W.fnOf "ring_of" "ring_of" (C8.fnArgs s_ring_of) (C8.fnBody s_ring_of) (C8.fnScope s_ring_of) .none kV_f20 dc_f20 pm_f20 an_f20 cd_f20 ct_f20), sl_f20⟩)
    (c_f20 : PySem.W.codeIn K cd_f20 "ring_of" = true)
    (k_f20 : PySem.W.keepIn K (.ref f20) = true)
    (a_f21 : PySem.W.nsIn K mainGlobals "verdict" = some (some (.ref f21)))
    (l_f21 : K.lookup f21 = some ⟨oc_f21, od_f21, .func (PySem.W.fnOf "verdict" "verdict" (C8.fnArgs s_verdict) (C8.fnBody s_verdict) (C8.fnScope s_verdict) .none kV_f21 dc_f21 pm_f21 an_f21 cd_f21 ct_f21), sl_f21⟩)
    (c_f21 : PySem.W.codeIn K cd_f21 "verdict" = true)
    (k_f21 : PySem.W.keepIn K (.ref f21) = true)
    (a_f22 : PySem.W.nsIn K mainGlobals "is_order" = some (some (.ref f22)))
    (l_f22 : K.lookup f22 = some ⟨oc_f22, od_f22, .func (PySem.W.fnOf "is_order" "is_order" (C8.fnArgs s_is_order) (C8.fnBody s_is_order) (C8.fnScope s_is_order) .none kV_f22 dc_f22 pm_f22 an_f22 cd_f22 ct_f22), sl_f22⟩)
    (c_f22 : PySem.W.codeIn K cd_f22 "is_order" = true)
    (k_f22 : PySem.W.keepIn K (.ref f22) = true)
    (a_f23 : PySem.W.nsIn K mainGlobals "is_ring" = some (some (.ref f23)))
    (l_f23 : K.lookup f23 = some ⟨oc_f23, od_f23, .func (PySem.W.fnOf "is_ring" "is_ring" (C8.fnArgs s_is_ring) (C8.fnBody s_is_ring) (C8.fnScope s_is_ring) .none kV_f23 dc_f23 pm_f23 an_f23 cd_f23 ct_f23), sl_f23⟩)
    (c_f23 : PySem.W.codeIn K cd_f23 "is_ring" = true)
    (k_f23 : PySem.W.keepIn K (.ref f23) = true)
    (a_f24 : PySem.W.nsIn K mainGlobals "is_verdict" = some (some (.ref f24)))
    (l_f24 : K.lookup f24 = some ⟨oc_f24, od_f24, .func (PySem.W.fnOf "is_verdict" "is_verdict" (C8.fnArgs s_is_verdict) (C8.fnBody s_is_verdict) (C8.fnScope s_is_verdict) .none kV_f24 dc_f24 pm_f24 an_f24 cd_f24 ct_f24), sl_f24⟩)
    (c_f24 : PySem.W.codeIn K cd_f24 "is_verdict" = true)
    (k_f24 : PySem.W.keepIn K (.ref f24) = true)
    (a_f25 : PySem.W.nsIn K mainGlobals "_law_hand" = some (some (.ref f25)))
    (l_f25 : K.lookup f25 = some ⟨oc_f25, od_f25, .func (PySem.W.fnOf "_law_hand" "_law_hand" (C8.fnArgs s__law_hand) (C8.fnBody s__law_hand) (C8.fnScope s__law_hand) .none kV_f25 dc_f25 pm_f25 an_f25 cd_f25 ct_f25), sl_f25⟩)
    (c_f25 : PySem.W.codeIn K cd_f25 "_law_hand" = true)
    (k_f25 : PySem.W.keepIn K (.ref f25) = true)
    (a_f26 : PySem.W.nsIn K mainGlobals "_law_draw" = some (some (.ref f26)))
    (l_f26 : K.lookup f26 = some ⟨oc_f26, od_f26, .func (PySem.W.fnOf "_law_draw" "_law_draw" (C8.fnArgs s__law_draw) (C8.fnBody s__law_draw) (C8.fnScope s__law_draw) .none kV_f26 dc_f26 pm_f26 an_f26 cd_f26 ct_f26), sl_f26⟩)
    (c_f26 : PySem.W.codeIn K cd_f26 "_law_draw" = true)
    (k_f26 : PySem.W.keepIn K (.ref f26) = true)
    (a_f27 : PySem.W.nsIn K mainGlobals "_law_tree" = some (some (.ref f27)))
    (l_f27 : K.lookup f27 = some ⟨oc_f27, od_f27, .func (PySem.W.fnOf "_law_tree" "_law_tree" (C8.fnArgs s__law_tree) (C8.fnBody s__law_tree) (C8.fnScope s__law_tree) .none kV_f27 dc_f27 pm_f27 an_f27 cd_f27 ct_f27), sl_f27⟩)
    (c_f27 : PySem.W.codeIn K cd_f27 "_law_tree" = true)
    (k_f27 : PySem.W.keepIn K (.ref f27) = true)
    (a_f28 : PySem.W.nsIn K mainGlobals "_law_row" = some (some (.ref f28)))
    (l_f28 : K.lookup f28 = some ⟨oc_f28, od_f28, .func (PySem.W.fnOf "_law_row" "_law_row" (C8.fnArgs s__law_row) (C8.fnBody s__law_row) (C8.fnScope s__law_row) .none kV_f28 dc_f28 pm_f28 an_f28 cd_f28 ct_f28), sl_f28⟩)
    (c_f28 : PySem.W.codeIn K cd_f28 "_law_row" = true)
    (k_f28 : PySem.W.keepIn K (.ref f28) = true)
    (a_f29 : PySem.W.nsIn K mainGlobals "_law_beneath" = some (some (.ref f29)))
    (l_f29 : K.lookup f29 = some ⟨oc_f29, od_f29, .func (PySem.W.fnOf "_law_beneath" "_law_beneath" (C8.fnArgs s__law_beneath) (C8.fnBody s__law_beneath) (C8.fnScope s__law_beneath) .none kV_f29 dc_f29 pm_f29 an_f29 cd_f29 ct_f29), sl_f29⟩)
    (c_f29 : PySem.W.codeIn K cd_f29 "_law_beneath" = true)
    (k_f29 : PySem.W.keepIn K (.ref f29) = true)
    (a_f30 : PySem.W.nsIn K mainGlobals "_law_put" = some (some (.ref f30)))
    (l_f30 : K.lookup f30 = some ⟨oc_f30, od_f30, .func (PySem.W.fnOf "_law_put" "_law_put" (C8.fnArgs s__law_put) (C8.fnBody s__law_put) (C8.fnScope s__law_put) .none kV_f30 dc_f30 pm_f30 an_f30 cd_f30 ct_f30), sl_f30⟩)
    (c_f30 : PySem.W.codeIn K cd_f30 "_law_put" = true)
    (k_f30 : PySem.W.keepIn K (.ref f30) = true)
    (a_f31 : PySem.W.nsIn K mainGlobals "_law_moves" = some (some (.ref f31)))
    (l_f31 : K.lookup f31 = some ⟨oc_f31, od_f31, .func (PySem.W.fnOf "_law_moves" "_law_moves" (C8.fnArgs s__law_moves) (C8.fnBody s__law_moves) (C8.fnScope s__law_moves) .none kV_f31 dc_f31 pm_f31 an_f31 cd_f31 ct_f31), sl_f31⟩)
    (c_f31 : PySem.W.codeIn K cd_f31 "_law_moves" = true)
    (k_f31 : PySem.W.keepIn K (.ref f31) = true)
    (a_f32 : PySem.W.nsIn K mainGlobals "_law_had" = some (some (.ref f32)))
    (l_f32 : K.lookup f32 = some ⟨oc_f32, od_f32, .func (PySem.W.fnOf "_law_had" "_law_had" (C8.fnArgs s__law_had) (C8.fnBody s__law_had) (C8.fnScope s__law_had) .none kV_f32 dc_f32 pm_f32 an_f32 cd_f32 ct_f32), sl_f32⟩)
    (c_f32 : PySem.W.codeIn K cd_f32 "_law_had" = true)
    (k_f32 : PySem.W.keepIn K (.ref f32) = true)
    (a_f33 : PySem.W.nsIn K mainGlobals "_law_is_round" = some (some (.ref f33)))
    (l_f33 : K.lookup f33 = some ⟨oc_f33, od_f33, .func (PySem.W.fnOf "_law_is_round" "_law_is_round" (C8.fnArgs s__law_is_round) (C8.fnBody s__law_is_round) (C8.fnScope s__law_is_round) .none kV_f33 dc_f33 pm_f33 an_f33 cd_f33 ct_f33), sl_f33⟩)
    (c_f33 : PySem.W.codeIn K cd_f33 "_law_is_round" = true)
    (k_f33 : PySem.W.keepIn K (.ref f33) = true)
    (a_f34 : PySem.W.nsIn K mainGlobals "_law_worths" = some (some (.ref f34)))
    (l_f34 : K.lookup f34 = some ⟨oc_f34, od_f34, .func (PySem.W.fnOf "_law_worths" "_law_worths" (C8.fnArgs s__law_worths) (C8.fnBody s__law_worths) (C8.fnScope s__law_worths) .none kV_f34 dc_f34 pm_f34 an_f34 cd_f34 ct_f34), sl_f34⟩)
    (c_f34 : PySem.W.codeIn K cd_f34 "_law_worths" = true)
    (k_f34 : PySem.W.keepIn K (.ref f34) = true)
    (a_f35 : PySem.W.nsIn K mainGlobals "_law_cost" = some (some (.ref f35)))
    (l_f35 : K.lookup f35 = some ⟨oc_f35, od_f35, .func (PySem.W.fnOf "_law_cost" "_law_cost" (C8.fnArgs s__law_cost) (C8.fnBody s__law_cost) (C8.fnScope s__law_cost) .none kV_f35 dc_f35 pm_f35 an_f35 cd_f35 ct_f35), sl_f35⟩)
    (c_f35 : PySem.W.codeIn K cd_f35 "_law_cost" = true)
    (k_f35 : PySem.W.keepIn K (.ref f35) = true)
    (a_f36 : PySem.W.nsIn K mainGlobals "_law_vote" = some (some (.ref f36)))
    (l_f36 : K.lookup f36 = some ⟨oc_f36, od_f36, .func (PySem.W.fnOf "_law_vote" "_law_vote" (C8.fnArgs s__law_vote) (C8.fnBody s__law_vote) (C8.fnScope s__law_vote) .none kV_f36 dc_f36 pm_f36 an_f36 cd_f36 ct_f36), sl_f36⟩)
    (c_f36 : PySem.W.codeIn K cd_f36 "_law_vote" = true)
    (k_f36 : PySem.W.keepIn K (.ref f36) = true)
    (a_f37 : PySem.W.nsIn K mainGlobals "_law_behind" = some (some (.ref f37)))
    (l_f37 : K.lookup f37 = some ⟨oc_f37, od_f37, .func (PySem.W.fnOf "_law_behind" "_law_behind" (C8.fnArgs s__law_behind) (C8.fnBody s__law_behind) (C8.fnScope s__law_behind) .none kV_f37 dc_f37 pm_f37 an_f37 cd_f37 ct_f37), sl_f37⟩)
    (c_f37 : PySem.W.codeIn K cd_f37 "_law_behind" = true)
    (k_f37 : PySem.W.keepIn K (.ref f37) = true)
    (a_f38 : PySem.W.nsIn K mainGlobals "_law_is_right_order" = some (some (.ref f38)))
    (l_f38 : K.lookup f38 = some ⟨oc_f38, od_f38, .func (PySem.W.fnOf "_law_is_right_order" "_law_is_right_order" (C8.fnArgs s__law_is_right_order) (C8.fnBody s__law_is_right_order) (C8.fnScope s__law_is_right_order) .none kV_f38 dc_f38 pm_f38 an_f38 cd_f38 ct_f38), sl_f38⟩)
    (c_f38 : PySem.W.codeIn K cd_f38 "_law_is_right_order" = true)
    (k_f38 : PySem.W.keepIn K (.ref f38) = true)
    (a_f39 : PySem.W.nsIn K mainGlobals "_law_is_right_ring" = some (some (.ref f39)))
    (l_f39 : K.lookup f39 = some ⟨oc_f39, od_f39, .func (PySem.W.fnOf "_law_is_right_ring" "_law_is_right_ring" (C8.fnArgs s__law_is_right_ring) (C8.fnBody s__law_is_right_ring) (C8.fnScope s__law_is_right_ring) .none kV_f39 dc_f39 pm_f39 an_f39 cd_f39 ct_f39), sl_f39⟩)
    (c_f39 : PySem.W.codeIn K cd_f39 "_law_is_right_ring" = true)
    (k_f39 : PySem.W.keepIn K (.ref f39) = true)
    (a_f40 : PySem.W.nsIn K mainGlobals "law" = some (some (.ref f40)))
    (l_f40 : K.lookup f40 = some ⟨oc_f40, od_f40, .func (PySem.W.fnOf "law" "law" (C8.fnArgs s_law) (C8.fnBody s_law) (C8.fnScope s_law) .none kV_f40 dc_f40 pm_f40 an_f40 cd_f40 ct_f40), sl_f40⟩)
    (c_f40 : PySem.W.codeIn K cd_f40 "law" = true)
    (k_f40 : PySem.W.keepIn K (.ref f40) = true)
    (a_g0 : PySem.W.findIn K (.ref cT) "__init__" = some (some (.ref g0)))
    (i_g0 : PySem.W.isFn K (.ref g0) = true)
    (l_g0 : K.lookup g0 = some ⟨oc_g0, od_g0, .func (PySem.W.fnOf "__init__" "Tree.__init__" (C8.fnArgs s_Tree_init) (C8.fnBody s_Tree_init) (C8.fnScope s_Tree_init) .none kV_g0 dc_g0 pm_g0 an_g0 cd_g0 ct_g0), sl_g0⟩)
    (c_g0 : PySem.W.codeIn K cd_g0 "Tree.__init__" = true)
    (pg_Tree : PySem.W.plainGet K cT Str.empty = true)
    (hd_Tree : PySem.W.hasDictIn K cT = true)
    (po_Tree : PySem.W.plainOver K cT = true)
    (sa_Tree : PySem.W.findIn K (.ref cT) "__setattr__" = some (some (.builtin "object.__setattr__")))
    (mk_Tree : PySem.W.makesIn K cT = true)
    (kc_Tree : PySem.W.keepIn K (.ref cT) = true)
    (na_Tree_hung : PySem.W.findIn K (.ref cT) "hung" = some none)
    (ha_Tree : PySem.W.findIn K (.ref cT) "__class__" = some (some (.builtin "object.__class__")))
    (hm_Tree : PySem.W.mroIn K cT (.type "object") = some true)
    (a_g1 : PySem.W.findIn K (.ref cW) "__init__" = some (some (.ref g1)))
    (i_g1 : PySem.W.isFn K (.ref g1) = true)
    (l_g1 : K.lookup g1 = some ⟨oc_g1, od_g1, .func (PySem.W.fnOf "__init__" "Words.__init__" (C8.fnArgs s_Words_init) (C8.fnBody s_Words_init) (C8.fnScope s_Words_init) .none kV_g1 dc_g1 pm_g1 an_g1 cd_g1 ct_g1), sl_g1⟩)
    (c_g1 : PySem.W.codeIn K cd_g1 "Words.__init__" = true)
    (pg_Words : PySem.W.plainGet K cW Str.empty = true)
    (hd_Words : PySem.W.hasDictIn K cW = true)
    (po_Words : PySem.W.plainOver K cW = true)
    (sa_Words : PySem.W.findIn K (.ref cW) "__setattr__" = some (some (.builtin "object.__setattr__")))
    (mk_Words : PySem.W.makesIn K cW = true)
    (kc_Words : PySem.W.keepIn K (.ref cW) = true)
    (na_Words_blocks : PySem.W.findIn K (.ref cW) "blocks" = some none)
    (na_Words_ups : PySem.W.findIn K (.ref cW) "ups" = some none)
    (na_Words_lists : PySem.W.findIn K (.ref cW) "lists" = some none)
    (ha_Words : PySem.W.findIn K (.ref cW) "__class__" = some (some (.builtin "object.__class__")))
    (hm_Words : PySem.W.mroIn K cW (.type "object") = some true)
    (a_g2 : PySem.W.findIn K (.ref cH) "__init__" = some (some (.ref g2)))
    (i_g2 : PySem.W.isFn K (.ref g2) = true)
    (l_g2 : K.lookup g2 = some ⟨oc_g2, od_g2, .func (PySem.W.fnOf "__init__" "History.__init__" (C8.fnArgs s_History_init) (C8.fnBody s_History_init) (C8.fnScope s_History_init) .none kV_g2 dc_g2 pm_g2 an_g2 cd_g2 ct_g2), sl_g2⟩)
    (c_g2 : PySem.W.codeIn K cd_g2 "History.__init__" = true)
    (pg_History : PySem.W.plainGet K cH Str.empty = true)
    (hd_History : PySem.W.hasDictIn K cH = true)
    (po_History : PySem.W.plainOver K cH = true)
    (sa_History : PySem.W.findIn K (.ref cH) "__setattr__" = some (some (.builtin "object.__setattr__")))
    (mk_History : PySem.W.makesIn K cH = true)
    (kc_History : PySem.W.keepIn K (.ref cH) = true)
    (na_History_tree : PySem.W.findIn K (.ref cH) "tree" = some none)
    (na_History_moves : PySem.W.findIn K (.ref cH) "moves" = some none)
    (hn_ : PySem.W.specialIn K (.builtin "object.__class__") "__get__" = some (some (.builtin "getset_descriptor.__get__")))
    (htk_ : PySem.W.takesIn K (.builtin "object.__class__") = some true)
    (z_isinstance : PySem.W.nsIn K mainGlobals "isinstance" = some none)
    (z_int : PySem.W.nsIn K mainGlobals "int" = some none)
    (z_bool : PySem.W.nsIn K mainGlobals "bool" = some none)
    (z_tuple : PySem.W.nsIn K mainGlobals "tuple" = some none)
    (z_str : PySem.W.nsIn K mainGlobals "str" = some none)
    (z_len : PySem.W.nsIn K mainGlobals "len" = some none)
    (z_range : PySem.W.nsIn K mainGlobals "range" = some none)
    (z_sorted : PySem.W.nsIn K mainGlobals "sorted" = some none)
    (z_list : PySem.W.nsIn K mainGlobals "list" = some none)
    (z_set : PySem.W.nsIn K mainGlobals "set" = some none)
    (z_dict : PySem.W.nsIn K mainGlobals "dict" = some none)
    (z_abs : PySem.W.nsIn K mainGlobals "abs" = some none)
    (z_min : PySem.W.nsIn K mainGlobals "min" = some none)
    (z_max : PySem.W.nsIn K mainGlobals "max" = some none)
    (z_all : PySem.W.nsIn K mainGlobals "all" = some none)
    (z_enumerate : PySem.W.nsIn K mainGlobals "enumerate" = some none)
    (z_zip : PySem.W.nsIn K mainGlobals "zip" = some none)
    (m_MOST_BLOCKS : PySem.W.nsIn K mainGlobals "MOST_BLOCKS" = some (some (.int 40 t_MOST_BLOCKS)))
    (m_MOST_MOVES : PySem.W.nsIn K mainGlobals "MOST_MOVES" = some (some (.int 100 t_MOST_MOVES)))
    (m_HEAD : PySem.W.nsIn K mainGlobals "HEAD" = some (some (.int 0 t_HEAD)))
    : ∃ fd : FuncData, (∀ (s : Shared) (v : Value), BindsTo s fd ⟨[v], []⟩ [("_law_script", v)]) ∧ ∀ base : Heap, K.In base → base.Ns mainGlobals mg → FnOk l.prog w K mg base C8.CX0 8 fa fd ["_law_script"] (spLaw K) := by
  have e := hfa.symm.trans (PySem.W.mg_of X G a_f40)
  cases e
  have cls_Tree : Cls K cT := ⟨pg_Tree, hd_Tree, po_Tree, sa_Tree⟩
  have cls_Words : Cls K cW := ⟨pg_Words, hd_Words, po_Words, sa_Words⟩
  have cls_History : Cls K cH := ⟨pg_History, hd_History, po_History, sa_History⟩
  have T : Txt K mg cT cW cH := { t_cl := cls_Tree, t_hung := na_Tree_hung, w_cl := cls_Words, w_blocks := na_Words_blocks, w_ups := na_Words_ups, w_lists := na_Words_lists, h_cl := cls_History, h_tree := na_History_tree, h_moves := na_History_moves, i_Tree := ⟨cls_Tree, ha_Tree, hn_, htk_, hm_Tree, if_pos (beq_self_eq_true _)⟩, i_Words := ⟨cls_Words, ha_Words, hn_, htk_, hm_Words, if_pos (beq_self_eq_true _)⟩, m_Tree := ⟨_, PySem.W.mg_of X G n_Tree, rfl⟩, m_Words := ⟨_, PySem.W.mg_of X G n_Words, rfl⟩, m_MOST_BLOCKS := ⟨_, PySem.W.mg_of X G m_MOST_BLOCKS, ⟨_, rfl⟩⟩, m_MOST_MOVES := ⟨_, PySem.W.mg_of X G m_MOST_MOVES, ⟨_, rfl⟩⟩, m_HEAD := ⟨_, PySem.W.mg_of X G m_HEAD, ⟨_, rfl⟩⟩, z_isinstance := PySem.W.mg_none_of X G z_isinstance, z_int := PySem.W.mg_none_of X G z_int, z_bool := PySem.W.mg_none_of X G z_bool, z_tuple := PySem.W.mg_none_of X G z_tuple, z_str := PySem.W.mg_none_of X G z_str, z_len := PySem.W.mg_none_of X G z_len, z_range := PySem.W.mg_none_of X G z_range, z_sorted := PySem.W.mg_none_of X G z_sorted, z_list := PySem.W.mg_none_of X G z_list, z_set := PySem.W.mg_none_of X G z_set, z_dict := PySem.W.mg_none_of X G z_dict, z_abs := PySem.W.mg_none_of X G z_abs, z_min := PySem.W.mg_none_of X G z_min, z_max := PySem.W.mg_none_of X G z_max, z_all := PySem.W.mg_none_of X G z_all, z_enumerate := PySem.W.mg_none_of X G z_enumerate, z_zip := PySem.W.mg_none_of X G z_zip }
  have d_is_integer : Df K mg "is_integer" s_is_integer ["thing"] := df_mk X G a_f0 l_f0 c_f0 k_f0 b_is_integer
  have d_is_within : Df K mg "is_within" s_is_within ["thing", "least", "most"] := df_mk X G a_f1 l_f1 c_f1 k_f1 b_is_within
  have d_is_pair : Df K mg "is_pair" s_is_pair ["thing"] := df_mk X G a_f2 l_f2 c_f2 k_f2 b_is_pair
  have d_is_flag : Df K mg "is_flag" s_is_flag ["thing"] := df_mk X G a_f3 l_f3 c_f3 k_f3 b_is_flag
  have d_leads_home : Df K mg "leads_home" s_leads_home ["hung", "block"] := df_mk X G a_f4 l_f4 c_f4 k_f4 b_leads_home
  have d_hanging : Df K mg "hanging" s_hanging ["hung", "place"] := df_mk X G a_f5 l_f5 c_f5 k_f5 b_hanging
  have d_beneath_in : Df K mg "beneath_in" s_beneath_in ["hung", "place"] := df_mk X G a_f6 l_f6 c_f6 k_f6 b_beneath_in
  have d_with_place : Df K mg "with_place" s_with_place ["hung", "block", "place"] := df_mk X G a_f7 l_f7 c_f7 k_f7 b_with_place
  have d_check_ups : Df K mg "check_ups" s_check_ups ["blocks", "ups"] := df_mk X G a_f8 l_f8 c_f8 k_f8 b_check_ups
  have d_check_lists : Df K mg "check_lists" s_check_lists ["blocks", "lists"] := df_mk X G a_f9 l_f9 c_f9 k_f9 b_check_lists
  have d_words_from : Df K mg "words_from" s_words_from ["ups", "pairs"] := df_mk X G a_f10 l_f10 c_f10 k_f10 b_words_from
  have d_raw_costs : Df K mg "raw_costs" s_raw_costs ["words", "block"] := df_mk X G a_f11 l_f11 c_f11 k_f11 b_raw_costs
  have d_raw_vote : Df K mg "raw_vote" s_raw_vote ["words", "block"] := df_mk X G a_f12 l_f12 c_f12 k_f12 b_raw_vote
  have d_votes : Df K mg "votes" s_votes ["words"] := df_mk X G a_f13 l_f13 c_f13 k_f13 b_votes
  have d_is_move : Df K mg "is_move" s_is_move ["hung", "thing"] := df_mk X G a_f14 l_f14 c_f14 k_f14 b_is_move
  have d_places_had : Df K mg "places_had" s_places_had ["hung", "moves"] := df_mk X G a_f15 l_f15 c_f15 k_f15 b_places_had
  have d_had : Df K mg "had" s_had ["history"] := df_mk X G a_f16 l_f16 c_f16 k_f16 b_had
  have d_can_list : Df K mg "can_list" s_can_list ["places", "place", "told"] := df_mk X G a_f17 l_f17 c_f17 k_f17 b_can_list
  have d_can_stand : Df K mg "can_stand" s_can_stand ["history", "words"] := df_mk X G a_f18 l_f18 c_f18 k_f18 b_can_stand
  have d_order_of : Df K mg "order_of" s_order_of ["told"] := df_mk X G a_f19 l_f19 c_f19 k_f19 b_order_of
  have d_ring_of : Df K mg "ring_of" s_ring_of ["told", "done"] := df_mk X G a_f20 l_f20 c_f20 k_f20 b_ring_of
  have d_verdict : Df K mg "verdict" s_verdict ["history"] := df_mk X G a_f21 l_f21 c_f21 k_f21 b_verdict
  have d_is_order : Df K mg "is_order" s_is_order ["told", "thing"] := df_mk X G a_f22 l_f22 c_f22 k_f22 b_is_order
  have d_is_ring : Df K mg "is_ring" s_is_ring ["told", "thing"] := df_mk X G a_f23 l_f23 c_f23 k_f23 b_is_ring
  have d_is_verdict : Df K mg "is_verdict" s_is_verdict ["history", "thing"] := df_mk X G a_f24 l_f24 c_f24 k_f24 b_is_verdict
  have d__law_hand : Df K mg "_law_hand" s__law_hand ["_law_script"] := df_mk X G a_f25 l_f25 c_f25 k_f25 b__law_hand
  have d__law_draw : Df K mg "_law_draw" s__law_draw ["_law_hand_here", "_law_many"] := df_mk X G a_f26 l_f26 c_f26 k_f26 b__law_draw
  have d__law_tree : Df K mg "_law_tree" s__law_tree ["_law_hand_here", "_law_many"] := df_mk X G a_f27 l_f27 c_f27 k_f27 b__law_tree
  have d__law_row : Df K mg "_law_row" s__law_row ["_law_hung", "_law_place"] := df_mk X G a_f28 l_f28 c_f28 k_f28 b__law_row
  have d__law_beneath : Df K mg "_law_beneath" s__law_beneath ["_law_hung", "_law_place"] := df_mk X G a_f29 l_f29 c_f29 k_f29 b__law_beneath
  have d__law_put : Df K mg "_law_put" s__law_put ["_law_hung", "_law_block", "_law_place"] := df_mk X G a_f30 l_f30 c_f30 k_f30 b__law_put
  have d__law_moves : Df K mg "_law_moves" s__law_moves ["_law_hand_here", "_law_hung", "_law_many"] := df_mk X G a_f31 l_f31 c_f31 k_f31 b__law_moves
  have d__law_had : Df K mg "_law_had" s__law_had ["_law_hung", "_law_moves_here"] := df_mk X G a_f32 l_f32 c_f32 k_f32 b__law_had
  have d__law_is_round : Df K mg "_law_is_round" s__law_is_round ["_law_known"] := df_mk X G a_f33 l_f33 c_f33 k_f33 b__law_is_round
  have d__law_worths : Df K mg "_law_worths" s__law_worths ["_law_known", "_law_many"] := df_mk X G a_f34 l_f34 c_f34 k_f34 b__law_worths
  have d__law_cost : Df K mg "_law_cost" s__law_cost ["_law_ups", "_law_lists", "_law_block", "_law_place"] := df_mk X G a_f35 l_f35 c_f35 k_f35 b__law_cost
  have d__law_vote : Df K mg "_law_vote" s__law_vote ["_law_ups", "_law_lists", "_law_block"] := df_mk X G a_f36 l_f36 c_f36 k_f36 b__law_vote
  have d__law_behind : Df K mg "_law_behind" s__law_behind ["_law_had_here", "_law_order"] := df_mk X G a_f37 l_f37 c_f37 k_f37 b__law_behind
  have d__law_is_right_order : Df K mg "_law_is_right_order" s__law_is_right_order ["_law_had_here", "_law_order"] := df_mk X G a_f38 l_f38 c_f38 k_f38 b__law_is_right_order
  have d__law_is_right_ring : Df K mg "_law_is_right_ring" s__law_is_right_ring ["_law_had_here", "_law_many", "_law_ring", "_law_words_here"] := df_mk X G a_f39 l_f39 c_f39 k_f39 b__law_is_right_ring
  have F_Tree : C8.Fun K "__init__" "Tree.__init__" s_Tree_init g0 _ := ⟨oc_g0, od_g0, .none, kV_g0, dc_g0, pm_g0, an_g0, cd_g0, ct_g0, sl_g0, rfl, l_g0, c_g0⟩
  have B_Tree : Binds K _ ["self", "hung"] [] := F_Tree.binds rfl b_Tree_init
  have M_Tree : Mk K cT g0 := ⟨mk_Tree, a_g0, i_g0, kc_Tree⟩
  have F_Words : C8.Fun K "__init__" "Words.__init__" s_Words_init g1 _ := ⟨oc_g1, od_g1, .none, kV_g1, dc_g1, pm_g1, an_g1, cd_g1, ct_g1, sl_g1, rfl, l_g1, c_g1⟩
  have B_Words : Binds K _ ["self", "blocks", "ups", "lists"] [] := F_Words.binds rfl b_Words_init
  have M_Words : Mk K cW g1 := ⟨mk_Words, a_g1, i_g1, kc_Words⟩
  have F_History : C8.Fun K "__init__" "History.__init__" s_History_init g2 _ := ⟨oc_g2, od_g2, .none, kV_g2, dc_g2, pm_g2, an_g2, cd_g2, ct_g2, sl_g2, rfl, l_g2, c_g2⟩
  have B_History : Binds K _ ["self", "tree", "moves"] [] := F_History.binds rfl b_History_init
  have M_History : Mk K cH g2 := ⟨mk_History, a_g2, i_g2, kc_History⟩
  refine ⟨PySem.W.fnOf "law" "law" (C8.fnArgs s_law) (C8.fnBody s_law) (C8.fnScope s_law) .none kV_f40 dc_f40 pm_f40 an_f40 cd_f40 ct_f40, fun s v => .of_eq rfl, fun base _ _ => ?_⟩
  have c_is_integer := k_is_integer (P := l.prog) (w := w) (base := base) d_is_integer T
  have c_is_within := k_is_within (P := l.prog) (w := w) (base := base) d_is_within T c_is_integer
  have c_is_pair := k_is_pair (P := l.prog) (w := w) (base := base) d_is_pair T
  have c_is_flag := k_is_flag (P := l.prog) (w := w) (base := base) d_is_flag T
  have c_leads_home := k_leads_home (P := l.prog) (w := w) (base := base) d_leads_home T
  have k_Tree := ok_Tree (P := l.prog) (w := w) (base := base) M_Tree (PySem.W.mg_of X G n_Tree) F_Tree B_Tree T c_is_within c_leads_home
  have c_hanging := k_hanging (P := l.prog) (w := w) (base := base) d_hanging T
  have c_beneath_in := k_beneath_in (P := l.prog) (w := w) (base := base) d_beneath_in T c_hanging
  have c_with_place := k_with_place (P := l.prog) (w := w) (base := base) d_with_place T
  have c_is_move := k_is_move (P := l.prog) (w := w) (base := base) d_is_move T c_is_pair c_is_within c_beneath_in
  have c_check_ups := k_check_ups (P := l.prog) (w := w) (base := base) d_check_ups T c_is_within
  have c_check_lists := k_check_lists (P := l.prog) (w := w) (base := base) d_check_lists T c_is_flag
  have k_Words := ok_Words (P := l.prog) (w := w) (base := base) M_Words (PySem.W.mg_of X G n_Words) F_Words B_Words T c_is_within c_check_ups c_check_lists
  have c_words_from := k_words_from (P := l.prog) (w := w) (base := base) d_words_from T k_Words
  have k_History := ok_History (P := l.prog) (w := w) (base := base) M_History (PySem.W.mg_of X G n_History) F_History B_History T c_is_move c_with_place
  have c_can_list := k_can_list (P := l.prog) (w := w) (base := base) d_can_list T
  have c_places_had := k_places_had (P := l.prog) (w := w) (base := base) d_places_had T
  have c_had := k_had (P := l.prog) (w := w) (base := base) d_had T c_places_had
  have c_can_stand := k_can_stand (P := l.prog) (w := w) (base := base) d_can_stand T c_had c_can_list
  have c_order_of := k_order_of (P := l.prog) (w := w) (base := base) d_order_of T
  have c_ring_of := k_ring_of (P := l.prog) (w := w) (base := base) d_ring_of T
  have c_raw_costs := k_raw_costs (P := l.prog) (w := w) (base := base) d_raw_costs T
  have c_raw_vote := k_raw_vote (P := l.prog) (w := w) (base := base) d_raw_vote T c_raw_costs
  have c_votes := k_votes (P := l.prog) (w := w) (base := base) d_votes T c_raw_vote
  have c_verdict := k_verdict (P := l.prog) (w := w) (base := base) d_verdict T c_had c_order_of c_ring_of c_with_place c_words_from
  have c_is_order := k_is_order (P := l.prog) (w := w) (base := base) d_is_order T c_is_within
  have c_is_ring := k_is_ring (P := l.prog) (w := w) (base := base) d_is_ring T c_is_within
  have c_is_verdict := k_is_verdict (P := l.prog) (w := w) (base := base) d_is_verdict T c_had c_is_order c_is_ring c_can_stand c_raw_vote
  have c__law_hand := k__law_hand (P := l.prog) (w := w) (base := base) d__law_hand T
  have c__law_draw := k__law_draw (P := l.prog) (w := w) (base := base) d__law_draw T
  have c__law_tree := k__law_tree (P := l.prog) (w := w) (base := base) d__law_tree T c__law_draw
  have c__law_row := k__law_row (P := l.prog) (w := w) (base := base) d__law_row T
  have c__law_beneath := k__law_beneath (P := l.prog) (w := w) (base := base) d__law_beneath T c__law_row
  have c__law_put := k__law_put (P := l.prog) (w := w) (base := base) d__law_put T
  have c__law_moves := k__law_moves (P := l.prog) (w := w) (base := base) d__law_moves T c__law_draw c__law_beneath c__law_put
  have c__law_had := k__law_had (P := l.prog) (w := w) (base := base) d__law_had T
  have c__law_is_round := k__law_is_round (P := l.prog) (w := w) (base := base) d__law_is_round T
  have c__law_worths := k__law_worths (P := l.prog) (w := w) (base := base) d__law_worths T
  have c__law_cost := k__law_cost (P := l.prog) (w := w) (base := base) d__law_cost T
  have c__law_vote := k__law_vote (P := l.prog) (w := w) (base := base) d__law_vote T c__law_cost
  have c__law_behind := k__law_behind (P := l.prog) (w := w) (base := base) d__law_behind T
  have c__law_is_right_order := k__law_is_right_order (P := l.prog) (w := w) (base := base) d__law_is_right_order T c__law_behind
  have c__law_is_right_ring := k__law_is_right_ring (P := l.prog) (w := w) (base := base) d__law_is_right_ring T c__law_worths c_votes c__law_vote
  exact ok_law ⟨oc_f40, od_f40, .none, kV_f40, dc_f40, pm_f40, an_f40, cd_f40, ct_f40, sl_f40, rfl, l_f40, c_f40⟩ T c__law_hand c__law_draw c__law_tree c__law_moves k_Tree k_History c__law_had c_verdict c_is_verdict c__law_is_round c__law_is_right_ring c_can_stand c__law_is_right_order
theorem walk {l : PySem.W.OpenLaw} {q : Program} {loose : List Str} {XP : (Str → Option Value) → Heap → Prop} {YP : World → Heap → Prop} {d : DefRec} {K : Params → PySem.W.Frag} (hn : l.most = some 63) (hdf : d.params.defaults = [])
    (hY : ∀ (w : World) (h : Heap), YP w h → (K w.params).In h)
    (F : ∀ (w : World) (mg : Str → Option Value) (fa : Addr) (h : Heap), (K w.params).In h → h.Ns mainGlobals mg → mg d.name = some (.ref fa) →
      ∃ fd : FuncData, (∀ (s : Shared) (u : Value), BindsTo s fd ⟨[u], []⟩ [("_law_script", u)]) ∧ ∀ base : Heap, (K w.params).In base → base.Ns mainGlobals mg → FnOk l.prog w (K w.params) mg base C8.CX0 8 fa fd ["_law_script"] (spLaw (K w.params))) :
    PySem.W.WalkO q loose XP YP l.row.toRowW d [] (fun f vs => PySem.call f vs) :=
  L2.walk_of (n := 63) (k := 8) (x := "_law_script") (CX := fun _ => C8.CX0) (sp := fun w => spLaw (K w.params)) hn (by decide) hdf ⟨rfl, by decide, by decide⟩ hY F (fun _ _ a ns hl _ hS => ⟨a, ns, rfl, hS, hl, fun _ => rfl⟩) fun _ _ _ _ _ z => z
end FV


open PySem PySem.W PyProof.Rows in
set_option maxRecDepth 100000 in
set_option maxHeartbeats 0 in
theorem PySem.Challenge.cw_foldervotes_k36_whole_verdicts_on_histor_holds : PySem.Challenge.rw_foldervotes_k36_whole_verdicts_on_histor.Holds := by
  w_on; o_law; k_headL; (case hw => w_witness2)
  k_fill
  refine FV.walk (l := PySem.Challenge.rw_foldervotes_k36_whole_verdicts_on_histor) rfl rfl (fun w h Y => PySem.W.kIn_of Y) ?F
  case F =>
    intro w mg fa h KX G hmg
    refine' FV.all_mk KX G hmg ?n_Tree ?n_Words ?n_History ?a_f0 ?l_f0 ?c_f0 ?k_f0 ?a_f1 ?l_f1 ?c_f1 ?k_f1 ?a_f2 ?l_f2 ?c_f2 ?k_f2 ?a_f3 ?l_f3 ?c_f3 ?k_f3 ?a_f4 ?l_f4 ?c_f4 ?k_f4 ?a_f5 ?l_f5 ?c_f5 ?k_f5 ?a_f6 ?l_f6 ?c_f6 ?k_f6 ?a_f7 ?l_f7 ?c_f7 ?k_f7 ?a_f8 ?l_f8 ?c_f8 ?k_f8 ?a_f9 ?l_f9 ?c_f9 ?k_f9 ?a_f10 ?l_f10 ?c_f10 ?k_f10 ?a_f11 ?l_f11 ?c_f11 ?k_f11 ?a_f12 ?l_f12 ?c_f12 ?k_f12 ?a_f13 ?l_f13 ?c_f13 ?k_f13 ?a_f14 ?l_f14 ?c_f14 ?k_f14 ?a_f15 ?l_f15 ?c_f15 ?k_f15 ?a_f16 ?l_f16 ?c_f16 ?k_f16 ?a_f17 ?l_f17 ?c_f17 ?k_f17 ?a_f18 ?l_f18 ?c_f18 ?k_f18 ?a_f19 ?l_f19 ?c_f19 ?k_f19 ?a_f20 ?l_f20 ?c_f20 ?k_f20 ?a_f21 ?l_f21 ?c_f21 ?k_f21 ?a_f22 ?l_f22 ?c_f22 ?k_f22 ?a_f23 ?l_f23 ?c_f23 ?k_f23 ?a_f24 ?l_f24 ?c_f24 ?k_f24 ?a_f25 ?l_f25 ?c_f25 ?k_f25 ?a_f26 ?l_f26 ?c_f26 ?k_f26 ?a_f27 ?l_f27 ?c_f27 ?k_f27 ?a_f28 ?l_f28 ?c_f28 ?k_f28 ?a_f29 ?l_f29 ?c_f29 ?k_f29 ?a_f30 ?l_f30 ?c_f30 ?k_f30 ?a_f31 ?l_f31 ?c_f31 ?k_f31 ?a_f32 ?l_f32 ?c_f32 ?k_f32 ?a_f33 ?l_f33 ?c_f33 ?k_f33 ?a_f34 ?l_f34 ?c_f34 ?k_f34 ?a_f35 ?l_f35 ?c_f35 ?k_f35 ?a_f36 ?l_f36 ?c_f36 ?k_f36 ?a_f37 ?l_f37 ?c_f37 ?k_f37 ?a_f38 ?l_f38 ?c_f38 ?k_f38 ?a_f39 ?l_f39 ?c_f39 ?k_f39 ?a_f40 ?l_f40 ?c_f40 ?k_f40 ?a_g0 ?i_g0 ?l_g0 ?c_g0 ?pg_Tree ?hd_Tree ?po_Tree ?sa_Tree ?mk_Tree ?kc_Tree ?na_Tree_hung ?ha_Tree ?hm_Tree ?a_g1 ?i_g1 ?l_g1 ?c_g1 ?pg_Words ?hd_Words ?po_Words ?sa_Words ?mk_Words ?kc_Words ?na_Words_blocks ?na_Words_ups ?na_Words_lists ?ha_Words ?hm_Words ?a_g2 ?i_g2 ?l_g2 ?c_g2 ?pg_History ?hd_History ?po_History ?sa_History ?mk_History ?kc_History ?na_History_tree ?na_History_moves ?hn_ ?htk_ ?z_isinstance ?z_int ?z_bool ?z_tuple ?z_str ?z_len ?z_range ?z_sorted ?z_list ?z_set ?z_dict ?z_abs ?z_min ?z_max ?z_all ?z_enumerate ?z_zip ?m_MOST_BLOCKS ?m_MOST_MOVES ?m_HEAD
    (case n_Tree => k_is)
    (case n_Words => k_is)
    (case n_History => k_is)
    (case a_f0 => k_is)
    (case l_f0 => k_is)
    (case c_f0 => k_is)
    (case k_f0 => k_is)
    (case a_f1 => k_is)
    (case l_f1 => k_is)
    (case c_f1 => k_is)
    (case k_f1 => k_is)
    (case a_f2 => k_is)
    (case l_f2 => k_is)
    (case c_f2 => k_is)
    (case k_f2 => k_is)
    (case a_f3 => k_is)
    (case l_f3 => k_is)
    (case c_f3 => k_is)
    (case k_f3 => k_is)
    (case a_f4 => k_is)
    (case l_f4 => k_is)
    (case c_f4 => k_is)
    (case k_f4 => k_is)
    (case a_f5 => k_is)
    (case l_f5 => k_is)
    (case c_f5 => k_is)
    (case k_f5 => k_is)
    (case a_f6 => k_is)
    (case l_f6 => k_is)
    (case c_f6 => k_is)
    (case k_f6 => k_is)
    (case a_f7 => k_is)
    (case l_f7 => k_is)
    (case c_f7 => k_is)
    (case k_f7 => k_is)
    (case a_f8 => k_is)
    (case l_f8 => k_is)
    (case c_f8 => k_is)
    (case k_f8 => k_is)
    (case a_f9 => k_is)
    (case l_f9 => k_is)
    (case c_f9 => k_is)
    (case k_f9 => k_is)
    (case a_f10 => k_is)
    (case l_f10 => k_is)
    (case c_f10 => k_is)
    (case k_f10 => k_is)
    (case a_f11 => k_is)
    (case l_f11 => k_is)
    (case c_f11 => k_is)
    (case k_f11 => k_is)
    (case a_f12 => k_is)
    (case l_f12 => k_is)
    (case c_f12 => k_is)
    (case k_f12 => k_is)
    (case a_f13 => k_is)
    (case l_f13 => k_is)
    (case c_f13 => k_is)
    (case k_f13 => k_is)
    (case a_f14 => k_is)
    (case l_f14 => k_is)
    (case c_f14 => k_is)
    (case k_f14 => k_is)
    (case a_f15 => k_is)
    (case l_f15 => k_is)
    (case c_f15 => k_is)
    (case k_f15 => k_is)
    (case a_f16 => k_is)
    (case l_f16 => k_is)
    (case c_f16 => k_is)
    (case k_f16 => k_is)
    (case a_f17 => k_is)
    (case l_f17 => k_is)
    (case c_f17 => k_is)
    (case k_f17 => k_is)
    (case a_f18 => k_is)
    (case l_f18 => k_is)
    (case c_f18 => k_is)
    (case k_f18 => k_is)
    (case a_f19 => k_is)
    (case l_f19 => k_is)
    (case c_f19 => k_is)
    (case k_f19 => k_is)
    (case a_f20 => k_is)
    (case l_f20 => k_is)
    (case c_f20 => k_is)
    (case k_f20 => k_is)
    (case a_f21 => k_is)
    (case l_f21 => k_is)
    (case c_f21 => k_is)
    (case k_f21 => k_is)
    (case a_f22 => k_is)
    (case l_f22 => k_is)
    (case c_f22 => k_is)
    (case k_f22 => k_is)
    (case a_f23 => k_is)
    (case l_f23 => k_is)
    (case c_f23 => k_is)
    (case k_f23 => k_is)
    (case a_f24 => k_is)
    (case l_f24 => k_is)
    (case c_f24 => k_is)
    (case k_f24 => k_is)
    (case a_f25 => k_is)
    (case l_f25 => k_is)
    (case c_f25 => k_is)
    (case k_f25 => k_is)
    (case a_f26 => k_is)
    (case l_f26 => k_is)
    (case c_f26 => k_is)
    (case k_f26 => k_is)
    (case a_f27 => k_is)
    (case l_f27 => k_is)
    (case c_f27 => k_is)
    (case k_f27 => k_is)
    (case a_f28 => k_is)
    (case l_f28 => k_is)
    (case c_f28 => k_is)
    (case k_f28 => k_is)
    (case a_f29 => k_is)
    (case l_f29 => k_is)
    (case c_f29 => k_is)
    (case k_f29 => k_is)
    (case a_f30 => k_is)
    (case l_f30 => k_is)
    (case c_f30 => k_is)
    (case k_f30 => k_is)
    (case a_f31 => k_is)
    (case l_f31 => k_is)
    (case c_f31 => k_is)
    (case k_f31 => k_is)
    (case a_f32 => k_is)
    (case l_f32 => k_is)
    (case c_f32 => k_is)
    (case k_f32 => k_is)
    (case a_f33 => k_is)
    (case l_f33 => k_is)
    (case c_f33 => k_is)
    (case k_f33 => k_is)
    (case a_f34 => k_is)
    (case l_f34 => k_is)
    (case c_f34 => k_is)
    (case k_f34 => k_is)
    (case a_f35 => k_is)
    (case l_f35 => k_is)
    (case c_f35 => k_is)
    (case k_f35 => k_is)
    (case a_f36 => k_is)
    (case l_f36 => k_is)
    (case c_f36 => k_is)
    (case k_f36 => k_is)
    (case a_f37 => k_is)
    (case l_f37 => k_is)
    (case c_f37 => k_is)
    (case k_f37 => k_is)
    (case a_f38 => k_is)
    (case l_f38 => k_is)
    (case c_f38 => k_is)
    (case k_f38 => k_is)
    (case a_f39 => k_is)
    (case l_f39 => k_is)
    (case c_f39 => k_is)
    (case k_f39 => k_is)
    (case a_f40 => k_is)
    (case l_f40 => k_is)
    (case c_f40 => k_is)
    (case k_f40 => k_is)
    (case a_g0 => k_is)
    (case i_g0 => k_is)
    (case l_g0 => k_is)
    (case c_g0 => k_is)
    (case pg_Tree => k_is)
    (case hd_Tree => k_is)
    (case po_Tree => k_is)
    (case sa_Tree => k_is)
    (case mk_Tree => k_is)
    (case kc_Tree => k_is)
    (case na_Tree_hung => k_is)
    (case ha_Tree => k_is)
    (case hm_Tree => k_is)
    (case a_g1 => k_is)
    (case i_g1 => k_is)
    (case l_g1 => k_is)
    (case c_g1 => k_is)
    (case pg_Words => k_is)
    (case hd_Words => k_is)
    (case po_Words => k_is)
    (case sa_Words => k_is)
    (case mk_Words => k_is)
    (case kc_Words => k_is)
    (case na_Words_blocks => k_is)
    (case na_Words_ups => k_is)
    (case na_Words_lists => k_is)
    (case ha_Words => k_is)
    (case hm_Words => k_is)
    (case a_g2 => k_is)
    (case i_g2 => k_is)
    (case l_g2 => k_is)
    (case c_g2 => k_is)
    (case pg_History => k_is)
    (case hd_History => k_is)
    (case po_History => k_is)
    (case sa_History => k_is)
    (case mk_History => k_is)
    (case kc_History => k_is)
    (case na_History_tree => k_is)
    (case na_History_moves => k_is)
    (case hn_ => k_is)
    (case htk_ => k_is)
    (case z_isinstance => k_is)
    (case z_int => k_is)
    (case z_bool => k_is)
    (case z_tuple => k_is)
    (case z_str => k_is)
    (case z_len => k_is)
    (case z_range => k_is)
    (case z_sorted => k_is)
    (case z_list => k_is)
    (case z_set => k_is)
    (case z_dict => k_is)
    (case z_abs => k_is)
    (case z_min => k_is)
    (case z_max => k_is)
    (case z_all => k_is)
    (case z_enumerate => k_is)
    (case z_zip => k_is)
    (case m_MOST_BLOCKS => k_is)
    (case m_MOST_MOVES => k_is)
    (case m_HEAD => k_is)
