import PyProof.Rows.All
import Wide.All
import OpenK.AllK
import Wide.FinOn
import HandS.ForMost
import HandS.Evl
import HandS.Style
import KE.GoesMore
import KE.GoesEnum
import PyProof.ReprRoads
import HandS.Defaults
import HandS.HeadEnd
import HandS.More
import HandS.IsInst
import HandS.Walk
import HandS.Wide
import HandS.WideBits
import HandS.TupSets
import HandS.TupAny
import HandS.Star
import HandS.NoneIn
import HandS.HeadHook4
import PySem.Challenge.RW_labelmoves_k36_whole_lengths_of_thirty_f
import KE.KStateDown
import HandS.Head0
import HandS.Head1
import HandS.Head2
import HandS.HeadHook1
import HandS.HeadHook2
import HandS.HeadHook3
import HandS.DeepEq
section
set_option Elab.async false
set_option linter.all false
set_option maxRecDepth 100000
set_option maxHeartbeats 2000000
/-! Rules of our own: enumerate over a tuple, any over ints, an attribute as a part of a tuple target, t[::-1]. -/
namespace Lm
open PySem PySem.Spec PyProof.Rows L2

/-! ### enumerate(tuple) -/
theorem meets_enum_tup (a : Addr) (items : Array Value) : Meets (Builtin.«enumerate.__new__» ⟨[.type "enumerate", .ref a], []⟩) (fun _ R s => s.heap.IsTuple a items ∧
      R (.ok (.ret (.ref (s.heap.push { cls := .type "tuple_iterator", data := .fields #[.ref a, .int 0 0] }).objs.size)))
        { s with heap := (s.heap.push { cls := .type "tuple_iterator", data := .fields #[.ref a, .int 0 0] }).push { cls := .type "enumerate", data := .fields #[.none, .bool false, .ref s.heap.objs.size, rawInt 0, .none, .none] } }) :=
  .of_wp fun prog w A R s h => by
    obtain ⟨hp, g, d, tk, os⟩ := s; obtain ⟨hl, h⟩ := h
    have hsub := sub_enumerate
    have q1 : ∀ {A' : Around} {E : Value → Shared → Prop} {Q : Value → Shared → Prop}, Q (.ref hp.objs.size) ⟨hp.push { cls := .type "tuple_iterator", data := .fields #[.ref a, .int 0 0] }, g, d, tk, os⟩ → wpAny (model prog w) A' (pyIter (.ref a)) Q E ⟨hp, g, d, tk, os⟩ :=
      fun q => wpAny_pyIter_tuple hl q
    wp_walk using q1
    refine wpAny_stack_any fun st => wpAny_pure ?_
    split
    · rename_i c _ _ _ _ _
      cases (c == Value.type "enumerate")
      · wp_walk using q1
        exact ⟨_, rfl, h⟩
      · wp_walk using q1
        exact ⟨_, rfl, h⟩
    · wp_walk using q1
      exact ⟨_, rfl, h⟩
theorem call_enum_tup {prog : Program} {w : World} {A : Around} {E : Value → Shared → Prop} {s : Shared} {a : Addr} {items : Array Value} {Q : Value → Shared → Prop} (hT : s.heap.IsTuple a items)
    (h : ∀ h', IsEnum h' (s.heap.objs.size + 1) s.heap.objs.size 0 .none → h'.IsTupleIter s.heap.objs.size a 0 → h'.objs.size = s.heap.objs.size + 2 →
      (∀ b o, s.heap.get? b = some o → h'.get? b = some o) → Q (.ref (s.heap.objs.size + 1)) { s with heap := h' }) :
    wpAny (model prog w) A (call (.type "enumerate") [.ref a]) Q E s := by
  refine callType_new F.called_enumerate (by decide) (F.typeCall_enumerate_1 _) (F.newCall_enumerate_1 _) (fun obj => F.args_object_init_2 obj _) F.entry_enumerate_new
    (meets_enum_tup a items) ⟨hT, ?_⟩
  have hz : (s.heap.push { cls := .type "tuple_iterator", data := .fields #[.ref a, .int 0 0] }).objs.size = s.heap.objs.size + 1 := Heap.size_push ..
  show _ ∧ _
  rw [hz]
  have he : IsEnum ((s.heap.push { cls := .type "tuple_iterator", data := .fields #[.ref a, .int 0 0] }).push
      { cls := .type "enumerate", data := .fields #[.none, .bool false, .ref s.heap.objs.size, rawInt 0, .none, .none] }) (s.heap.objs.size + 1) s.heap.objs.size 0 .none := by
    have := Heap.get?_push_size (s.heap.push { cls := .type "tuple_iterator", data := .fields #[.ref a, .int 0 0] })
      (o := { cls := .type "enumerate", data := .fields #[.none, .bool false, .ref s.heap.objs.size, rawInt 0, .none, .none] }) rfl
    rw [hz] at this; exact this
  refine ⟨⟨_, he, rfl⟩, h _ he ⟨_, Heap.get?_push_of_some _ (Heap.get?_push_size _ rfl), rfl, rfl⟩ (by rw [Heap.size_push, hz]) fun b o x => Heap.get?_push_of_some _ (Heap.get?_push_of_some _ x)⟩
def IteT (K : PySem.W.Frag) (a : Addr) : It :=
  ⟨fun i H => ∃ (xs : List V) (x : V), SqT K H a xs ∧ xs[i]? = some x, fun i H v H' => ∃ T x, v = .ref T ∧ H T = none ∧ H' = upd H T (.tup [.int (i : Nat), x]) ∧ ∀ xs, SqT K H a xs → xs[i]? = some x, fun i H => ∃ xs : List V, SqT K H a xs ∧ xs.length ≤ i⟩
theorem tup_ne {h : Heap} {a it t : Addr} {i : Nat} {its : Array Value} (h1 : IsTup h a its) (h2 : h.IsTupleIter it t i) : a ≠ it := by
  rintro rfl
  obtain ⟨o, e, c, _⟩ := h1
  obtain ⟨o', e', c', _⟩ := h2
  rw [e] at e'
  cases e'
  rw [c] at c'
  exact absurd c' (by decide)
theorem tup_ne2 {h : Heap} {a e it : Addr} {c : Int} {old : Value} {its : Array Value} (h1 : IsTup h a its) (h2 : IsEnum h e it c old) : e ≠ a := by
  rintro rfl
  obtain ⟨o, q, c1, _⟩ := h1
  have h3 : h.get? e = some _ := h2
  rw [q] at h3
  cases h3
  injection c1 with c2
  exact absurd c2 (by decide)
theorem turn_enumT {P : Program} {w : World} {K : PySem.W.Frag} {elts : List Expr} {kk : Nat} {tpos : Pos} (a e it : Addr) :
    Turn P w K (.Tuple elts kk tpos) (IteT K a) [e, it] e (fun i h => (∃ old, IsEnum h e it ((i : Nat) : Int) old) ∧ h.IsTupleIter it a i ∧ e ≠ it) where
  mem := by simp
  obj := fun i h st b hb => by
    obtain ⟨⟨old, he⟩, ⟨o, ho, hc, hd⟩, _⟩ := st
    have e' : b = e ∨ b = it := by simpa using hb
    rcases e' with z | z
    · rw [z]; exact ⟨_, he, fun v q => nomatch q⟩
    · rw [z]; exact ⟨o, ho, fun v q => by rw [hd] at q; cases q⟩
  keep := fun i h h' st k => let ⟨⟨old, he⟩, hi, hne⟩ := st; ⟨⟨old, k e (by simp) _ he⟩, hi.at fun o q => k it (by simp) o q, hne⟩
  item := by
    intro X hP hw hK hc i pins s σ H E I hf st hg
    subst hP hw hK
    obtain ⟨⟨old, he⟩, hit, hne⟩ := st
    obtain ⟨xs, x, hq, hx⟩ := hg
    obtain ⟨its, rv, p, hz⟩ := I.tuple hq
    obtain ⟨u, hu, ru⟩ := rv.get hx
    have hel : e < s.heap.objs.size := Heap.lt_size he
    have hil : it < s.heap.objs.size := by obtain ⟨_, q, _⟩ := hit; exact Heap.lt_size q
    have hai : a ≠ it := tup_ne p hit
    have hea : e ≠ a := tup_ne2 p he
    have hil2 : i < its.toArray.size := by
      have q := (List.getElem?_eq_some_iff.mp hu).1
      simpa using q
    refine wpAny_pyNext_enum_itemD (Draws.tuple (A := X.A.in1) (I.ok.hd hc) it a hai its.toArray) he ⟨hit, p⟩ hil2 hne (by simp [hne, hea]) fun x' h' tk hx' ho hit' hT hsz hk => ?_
    have exu : x' = u := by
      have q1 : its.toArray[i]? = some x' := hx'
      rw [List.getElem?_toArray, hu] at q1
      exact (Option.some.inj q1).symm
    subst exu
    refine ⟨_, rfl, wpAny_letOwnedTupleGo_enum (s := { s with heap := h', toks := tk + 1 }) ho fun h'' he' sb => ?_⟩
    have hT2 : h''.get? s.heap.objs.size = some { cls := .type "tuple", data := .seq #[.int i tk, x'] } := (sb.2 _ (Nat.ne_of_gt hel)).trans hT
    have new : ObjOk X.prog X.w (upd H s.heap.objs.size (.tup [.int (i : Nat), x])) h'' s.heap.objs.size (.tup [.int (i : Nat), x]) :=
      ⟨by show 2 ≤ sizeLine; decide, [.int i tk, x'], .cons ⟨_, rfl⟩ (.cons ru .nil), ⟨_, hT2, rfl, _, rfl⟩⟩
    have I1 : Inv X pins σ (upd H s.heap.objs.size (.tup [.int (i : Nat), x])) { s with heap := h'', toks := tk + 1 } :=
      I.turnedNew (ch := [e, it]) (fun b ob hb q => (sb.2 b (fun z => hb (by simp [z]))).trans (hk b ob (fun z => hb (by simp [z])) (fun z => hb (by simp [z])) q)) hf (Nat.le_refl _) new
    refine ⟨.ref s.heap.objs.size, _, I1, rfl, ⟨_, x, rfl, I.hok.fresh (Nat.le_refl _), rfl, fun ys hy => by rw [I.tuple_inj hy hq]; exact hx⟩, ⟨⟨x', ?_⟩, hit'.1.at fun o q => (sb.2 it (Ne.symm hne)).trans q, hne⟩, fun b hb => ?_⟩
    · have e1 : ((i + 1 : Nat) : Int) = (i : Int) + 1 := by omega
      rw [e1]; exact he'
    · have hb' : b < s.heap.objs.size := by
        have e' : b = e ∨ b = it := by simpa using hb
        rcases e' with z | z
        · rw [z]; exact hel
        · rw [z]; exact hil
      rw [upd_ne (Nat.ne_of_lt hb')]
      exact (hf b hb).1
  done := by
    intro X hP hw hK hc i pins s σ H E I hf st hg
    subst hP hw hK
    obtain ⟨⟨old, he⟩, hit, hne⟩ := st
    obtain ⟨xs, hq, hx⟩ := hg
    obtain ⟨its, rv, p, hz⟩ := I.tuple hq
    obtain ⟨f0, f1, f2, f3, f4, f5⟩ := hf it (by simp)
    have hl := rv.length
    have hT : s.TypeIs (.ref e) "enumerate" := ⟨_, he, rfl⟩
    unfold pyNext
    refine wpAny_bind (wpAny_attempt (wpAny_callSpecial?_slot (name := Str.ofString "__next__") hT F.slot_enumerate_next
      (wpAny_call_entry F.slot_enumerate_next hT F.entry_enumerate_next ?_ (F.args_enumerate_next_1 _))))
    show wpAny _ _ (field (.ref e) 2 >>= _) _ _ _
    refine wpAny_bind (wpAny_field he rfl (x := .ref it) rfl ?_)
    refine wpAny_bind (wpAny_nextOf_tuple_end (I.ok.hd hc) hit p (by simp; omega) fun h' x he' hx' => ?_)
    obtain ⟨o, ho, hc'⟩ := hx'
    refine wpAny_bind (wpAny_isInstance (T := "StopIteration") (b := true) ⟨o, ho, hc'⟩ isSubtype_stop ?_)
    exact wpAny_pure ⟨rfl, I.turned (t' := s.toks) (fun b o hb q => he' b o hb q) f0 f1 f3 f4 f5⟩
  self := fun A i s Q E st h => let ⟨⟨_, he⟩, _⟩ := st; wpAny_pyIter_enum he h
def iEnumT (K : PySem.W.Frag) (ta : TA) : TI := fun σ H R => ta σ H fun vs H1 => ∃ a xs, vs = [.ref a] ∧ SqT K H1 a xs ∧ R (IteT K a) H1
theorem pi_enumT {X : Cx} {e : Expr} {ta : TA} {p pos tpos : Pos} {elts : List Expr} {kk : Nat} (hg : Gl X "enumerate") (hm : X.mg "enumerate" = none) (ha : PA X [e] ta) (hs : starEach [e] X.env = [(false, eval e X.env)] := by rfl) :
    PI X (.Tuple elts kk tpos) (.Call (.Name "enumerate" p) [e] [] pos) (iEnumT X.K ta) := by
  refine ⟨fun pins s σ H R I h => ?_⟩
  refine Call_ (ld_blt I hg hm boot_enumerate (PyProof.Rows.callWith_type1 (thn (ha.run pos pins s σ H _ I h) fun us s1 ⟨vs, H1, I1, r1, q1⟩ => ?_) hs rfl))
  obtain ⟨a, xs, ex, hq, q⟩ := q1
  subst ex
  cases r1 with
  | cons r rr =>
    cases rr
    cases r
    obtain ⟨its, rv, p', hz⟩ := I1.tuple hq
    refine call_enum_tup p' fun h' he hit hsz hk => wpAny_pyIter_enum he ?_
    have I2 : Inv X pins σ H1 { s1 with heap := h' } := I1.kept (t' := s1.toks) hk
    refine ⟨s1.heap.objs.size + 1, [s1.heap.objs.size + 1, s1.heap.objs.size], _, _, H1, rfl, I2, turn_enumT a (s1.heap.objs.size + 1) s1.heap.objs.size, ⟨⟨.none, he⟩, hit, Nat.succ_ne_self _⟩, fun b hb => ?_, q⟩
    have e' : b = s1.heap.objs.size + 1 ∨ b = s1.heap.objs.size := by simpa using hb
    have hle : s1.heap.objs.size ≤ b := by
      rcases e' with z | z
      · rw [z]; exact Nat.le_add_right _ _
      · rw [z]; exact Nat.le_refl _
    exact I1.fpOk hle (I1.hok.fresh hle)
end Lm
end
section
set_option Elab.async false
set_option linter.all false
set_option maxRecDepth 100000
set_option maxHeartbeats 2000000
namespace Lm
open PySem PySem.Spec PyProof.Rows L2
/-! ### any of a list of ints -/
theorem ints_of {ns : List Int} {us : List Value} (r : Vals (ns.map V.int) us) : ∀ {i : Nat} {v : Value}, us[i]? = some v → ∃ t, v = .int (ns.getD i 0) t := by
  intro i v hv
  cases e : ns[i]? with
  | none =>
    have h1 : (ns.map V.int)[i]? = none := by rw [List.getElem?_map, e]; rfl
    rw [Vals.none_of r h1] at hv
    cases hv
  | some n =>
    have h1 : (ns.map V.int)[i]? = some (.int n) := by rw [List.getElem?_map, e]; rfl
    obtain ⟨u, hu, t, rfl⟩ := Vals.get r h1
    rw [hu] at hv
    cases hv
    exact ⟨t, by rw [List.getD_eq_getElem?_getD, e]; rfl⟩
theorem any_rangeI : ∀ ns : List Int, (List.range ns.length).any (fun i => ns.getD i 0 != 0) = ns.any (fun n => n != 0)
  | [] => rfl
  | b :: bs => by
    rw [List.length_cons, List.range_succ_eq_map, List.any_cons, List.any_map, List.any_cons, ← any_rangeI bs]
    all_goals rfl
def rAnyI (K : PySem.W.Frag) : List V → Hp → VK → Prop := fun vs H Q => ∃ (a : Addr) (ns : List Int), vs = [V.ref a] ∧ SqL K H a (ns.map V.int) ∧ Q (.bl (ns.any (fun n => n != 0))) H
theorem cr_anyI {X : Cx} (hc : X.calm = true) : CallR X (.builtin "any") (rAnyI X.K) := by
  intro pins s σ H vs us Q I r h
  obtain ⟨a, ns, rfl, hs, q⟩ := h
  obtain ⟨its, rv, hl, _⟩ := I.list hs
  rw [Vals.ref1 r]
  have hln : its.length = ns.length := by rw [← rv.length, List.length_map]
  have htr : TruthOf X.prog X.w X.A.in1 (fun i v => its.toArray[i]? = some v) (fun i => ns.getD i 0 != 0) := fun i v s Q E hv hq => by
    have hv' : its[i]? = some v := by simpa using hv
    obtain ⟨t, rfl⟩ := ints_of rv hv'
    exact truthy_int hq
  refine call_any_walk (iter_any hl.isList fun s₂ e2 st hne => ?_)
  subst e2
  refine ⟨_, _, _, _, _, _, _, rfl, Walks.list (A := X.A.in1) (I.ok.hd hc) _ a hne its.toArray, st, htr, fun h' tk hk => ?_⟩
  refine ⟨.bl _, H, I.kept fun b o eo => hk b o (fun hmem => ?_) (Heap.get?_push_of_some _ eo), ?_, q⟩
  · rcases List.mem_cons.mp hmem with e1 | hmem
    · exact absurd (e1 ▸ Heap.lt_size eo) (Nat.lt_irrefl _)
    · cases hmem
  · show Value.bool _ = Value.bool _
    rw [← any_rangeI, List.size_toArray, hln]
/-! ### an attribute as a target among others -/
def gFld (K : PySem.W.Frag) (ta : TE) (f : Str) : TG := fun v σ H Q => ta σ H fun x H2 => ∃ a C dx fs, x = .ref a ∧ H2 a = some (.ins C dx fs) ∧ Cls K C ∧ NoAttr K C f ∧ fs.length < 1000 ∧
  Q σ (upd H2 a (.ins C dx (putF f v fs)))
theorem pg_fld {X : Cx} {o : Expr} {f : Str} {pos : Pos} {ta : TE} (ho : PE X o ta) : PG X (.Attribute o f pos) (gFld X.K ta f) := by
  refine ⟨fun pins s σ H v u Q I r h => ?_⟩
  rw [assign_Attribute]
  refine wpAny_bind (wpAny_holding (thn (ho.run pins s σ H _ I h) fun ov s1 ⟨x, H1, I1, rx, a, C, dx, fs, ex, ea, c, n, l, q⟩ => ?_))
  subst ex
  obtain rfl : ov = Value.ref a := rx
  refine wpAny_bind (wpAny_standAt (wpAny_bind (wpAny_holding (setattr_ok I1 ea c n l r fun s2 I2 => ?_))))
  exact wpAny_release ⟨σ, _, I2, q⟩
/-! ### t[::-1] -/
theorem sliceApplied_rev {prog : Program} {w : World} {A : Around} {E : Value → Shared → Prop} {s : Shared} {sl : Addr} {vl vu vs : Value} {n : Nat} {Q : Int × Int × Nat → Shared → Prop} (hs : s.heap.IsSliceOf sl vl vu vs) (pl : IsPart vl none) (pu : IsPart vu none) (ps : IsPart vs (some (-1)))
    (h : Q ((n : Int) - 1, -1, n) s) : wpAny (model prog w) A (Builtin.Slice.sliceApplied (.ref sl) (pure (n : Int))) Q E s := by
  obtain ⟨os, hos, hcs, hds⟩ := id hs
  unfold Builtin.Slice.sliceApplied Builtin.Slice.sliceFields
  refine wpAny_bind (wpAny_bind (wpAny_field hos hds (x := vl) rfl (wpAny_bind (wpAny_field hos hds (x := vu) rfl (wpAny_bind (wpAny_field hos hds (x := vs) rfl (wpAny_pure ?_)))))))
  refine wpAny_bind (HT.slicePart_ ps ?_)
  show wpAny _ _ (if ((-1 : Int) == 0) = true then _ else _) _ _ s
  rw [if_neg (by decide)]
  refine wpAny_bind (HT.slicePart_ pl (wpAny_bind (HT.slicePart_ pu (wpAny_bind (wpAny_pure ?_)))))
  have e1 : Builtin.Slice.sliceAdjust none none (-1) (n : Int) = ((n : Int) - 1, -1) := rfl
  have e2 : Builtin.Slice.slicePlaces ((n : Int) - 1) (-1) (-1) = n := by
    unfold Builtin.Slice.slicePlaces
    have h1 : ¬ ((-1 : Int) > 0) := by omega
    have h2 : (- -1 : Int) = 1 := by decide
    simp only [h1, if_false, h2, Int.ediv_one]
    split <;> omega
  show wpAny _ _ (match Builtin.Slice.sliceAdjust none none (-1) (n : Int) with | (lo, hi) => pure (lo, (-1 : Int), Builtin.Slice.slicePlaces lo hi (-1))) _ _ s
  rw [e1]
  show wpAny _ _ (pure ((n : Int) - 1, (-1 : Int), Builtin.Slice.slicePlaces ((n : Int) - 1) (-1) (-1))) _ _ s
  rw [e2]
  exact wpAny_pure h
theorem pick_rev (xs : Array Value) : ((List.range xs.size).filterMap fun (k : Nat) => xs[(((xs.size : Int) - 1) + (k : Int) * (-1)).toNat]?).toArray = xs.toList.reverse.toArray := by
  congr 1
  have e : ∀ l : List Value, (List.range l.length).filterMap (fun (k : Nat) => l[(((l.length : Int) - 1) + (k : Int) * (-1)).toNat]?) = l.reverse := by
    intro l
    have fc : ∀ (ks : List Nat), (∀ k ∈ ks, k < l.length) → ks.filterMap (fun (k : Nat) => l[(((l.length : Int) - 1) + (k : Int) * (-1)).toNat]?) = ks.filterMap (fun (k : Nat) => l.reverse[k]?) := by
      intro ks
      induction ks with
      | nil => intro _; rfl
      | cons k ks ih =>
        intro hk
        have hk' : k < l.length := hk k (by simp)
        have q : l[(((l.length : Int) - 1) + (k : Int) * (-1)).toNat]? = l.reverse[k]? := by
          rw [List.getElem?_reverse hk']
          congr 1
          omega
        rw [List.filterMap_cons, List.filterMap_cons, q, ih fun j hj => hk j (by simp [hj])]
    have e0 := fc (List.range l.length) fun k hk => List.mem_range.mp hk
    rw [e0]
    have e2 : l.length = l.reverse.length := by simp
    rw [e2]
    generalize l.reverse = m
    clear e0 e2
    induction m with
    | nil => rfl
    | cons a m ih =>
      rw [List.length_cons, List.range_succ_eq_map, List.filterMap_cons, List.filterMap_map]
      show a :: _ = _
      congr 1
  have := e xs.toList
  simpa using this
theorem getItem_tuple_rev {prog : Program} {w : World} {A : Around} {E : Value → Shared → Prop} {s : Shared} {t sl : Addr} {items : Array Value} {vl vu vs : Value} {Q : Value → Shared → Prop} (ht : IsTup s.heap t items) (hs : s.heap.IsSliceOf sl vl vu vs) (pl : IsPart vl none) (pu : IsPart vu none) (ps : IsPart vs (some (-1)))
    (h : Q (.ref s.heap.objs.size) { s with heap := s.heap.push { cls := .type "tuple", data := .seq items.toList.reverse.toArray } })
    (hsz : items.size ≤ sizeLine) : wpAny (model prog w) A (getItem (.ref t) (.ref sl)) Q E s := by
  have htake : sizeOk (.seq items.toList.reverse.toArray) := by
    show items.toList.reverse.toArray.size ≤ sizeLine
    rw [List.size_toArray, List.length_reverse, Array.length_toList]
    exact hsz
  obtain ⟨os, hos, hcs, hds⟩ := id hs
  have hTs : s.TypeIs (.ref sl) "slice" := ⟨os, hos, hcs⟩
  unfold getItem
  try with_reducible refine wpAny_holding ?_
  first | refine wpAny_bind (wpAny_pure ?_) | skip
  refine wpAny_bind (wpAny_sequenceKey ht.typeIs (by decide) ?_)
  refine wpAny_bind (wpAny_callSpecial?_slot (name := Str.ofString "__getitem__") ht.typeIs PyProof.Rows.slot_tuple_getitem
    (wpAny_call_entry PyProof.Rows.slot_tuple_getitem ht.typeIs entry_tuple_getitem ?_ (args_tuple_getitem _ _)))
  show wpAny _ _ (Builtin.Tuple.tupleItemsOf (.ref t) >>= _) _ _ s
  refine wpAny_bind (tupleItemsOf_ ht ?_)
  refine wpAny_bind (wpAny_typeOf hTs ?_)
  rw [if_pos (by decide)]
  refine wpAny_bind (sliceApplied_rev hs pl pu ps ?_)
  have hno : ¬ (((items.size : Int) - 1 == 0 && (-1 : Int) == 1 && items.size == items.size) = true) := by
    intro q
    rw [Bool.and_eq_true, Bool.and_eq_true] at q
    exact absurd q.1.2 (by decide)
  show wpAny _ _ (if ((items.size : Int) - 1 == 0 && (-1 : Int) == 1 && items.size == items.size) = true then _ else _) _ _ s
  rw [if_neg hno, pick_rev]
  first
    | exact wpAny_bind (m := Builtin.Tuple.tupleExact _) (wpAny_newObj_type (wpAny_pure ⟨_, rfl, wpAny_pure h⟩) htake)
    | exact wpAny_bind (m := Builtin.Tuple.tupleExact _) (wpAny_newObj_type (wpAny_bind (wpAny_pure (wpAny_pure ⟨_, rfl, wpAny_pure h⟩))) htake)
def tRevT (K : PySem.W.Frag) (te : TE) : TE := fun σ H Q => te σ H fun x H1 => ∃ a xs, x = .ref a ∧ SqT K H1 a xs ∧ ∀ p, H1 p = none → Q (.ref p) (upd H1 p (.tup xs.reverse))
theorem pe_revT {X : Cx} {e : Expr} {te : TE} {k : Nat} {p1 p2 p3 pos : Pos} (he : PE X e te) : PE X (.Subscript e (.Slice none none (some (.UnaryOp .USub (.Constant (.int 1) k p1) p2)) p3) pos) (tRevT X.K te) := by
  refine ⟨fun pins s σ H Q I h => ?_⟩
  refine Subscript_ (thn (he.run pins s σ H _ I h) fun v s1 ⟨x, H1, I1, r1, q1⟩ => ?_)
  obtain ⟨a, xs, ex, hx, q⟩ := q1
  subst ex
  cases r1
  have hst : PO X (some (.UnaryOp .USub (.Constant (.int 1) k p1) p2)) (tPart (tUn (rU fun i => .int (-i)) (tC (.int 1)))) := po_some (pe_un un_neg pe_int)
  refine wpAny_Slice (thn (po_none.run pins s1 σ H1 (fun o H2 => o = none ∧ H2 = H1) I1 ⟨rfl, rfl⟩) fun vl s2 ⟨l, H2, I2, pl, el, e2⟩ => ?_)
  subst el e2
  refine thn (po_none.run pins s2 σ H2 (fun o H3 => o = none ∧ H3 = H2) I2 ⟨rfl, rfl⟩) fun vu s3 ⟨u, H3, I3, pu, eu, e3⟩ => ?_
  subst eu e3
  refine thn (hst.run pins s3 σ H3 (fun o H4 => o = some (-1) ∧ H4 = H3) I3 ⟨1, rfl, -1, rfl, rfl, rfl⟩) fun vs s4 ⟨o, H4, I4, ps, eo, e4⟩ => ?_
  subst eo e4
  have I5 : Inv X pins σ H4 { s4 with heap := s4.heap.push { cls := .type "slice", data := .fields #[vl, vu, vs] } } := I4.kept (t' := s4.toks) fun b ob q => Heap.get?_push_of_some _ q
  obtain ⟨its, r, ht, hz⟩ := I5.tuple hx
  have hlen := r.length
  show wpAny (model X.prog X.w) X.A (subscriptTail e (.Slice none none (some (.UnaryOp .USub (.Constant (.int 1) k p1) p2)) p3) (.ref a) (.ref s4.heap.objs.size)) (EP X pins σ Q) X.xe { s4 with heap := s4.heap.push { cls := .type "slice", data := .fields #[vl, vu, vs] } }
  refine tail_any (ops := [.ref a, .ref s4.heap.objs.size]) ht.typeIs (PyProof.Rows.slot_tuple_getitem.lookup) ?_ (by with_unfolding_all rfl)
  refine getItem_tuple_rev ht (Heap.IsSliceOf.new _ vl vu vs) pl pu ps ?_ (by rw [List.size_toArray]; omega)
  refine ⟨.ref _, _, I5.laid (t' := s4.toks) (o := .tup xs.reverse) (fun b ob q => Heap.get?_push_of_some _ q) (Nat.le_refl _) ?_, rfl, q _ (I5.hok.fresh (Nat.le_refl _))⟩
  exact ⟨by rw [List.length_reverse]; exact hz, _, r.reverse, ⟨_, Heap.get?_push_size _ rfl, rfl, _, rfl⟩⟩
end Lm
end
section
set_option Elab.async false
set_option linter.all false
set_option maxRecDepth 100000
set_option maxHeartbeats 2000000
namespace Lm
open PySem PySem.Spec PyProof.Rows L2
/-! ### repr of a list, a tuple of ints -/
def small (i : Int) : Prop := i.natAbs.log2 < 1920
theorem text_le {i : Int} (h : small i) : (PyData.int i).shown.length ≤ 1921 := int_text_len_1921 h
theorem list2_le {i j : Int} (hi : small i) (hj : small j) : (PyData.list [.int i, .int j]).shown.length ≤ sizeLine := by
  have e : (PyData.list [.int i, .int j]).shown = ("[" : Str) ++ Str.join ", " [(PyData.int i).shown, (PyData.int j).shown] ++ "]" := by
    have e0 : (PyData.list [.int i, .int j]).shown = listText (PyData.shownAll [.int i, .int j]) := by simp only [PyData.shown]
    rw [e0, listText_eq_join]
    simp only [PyData.shownAll]
  have e2 := join_length_add [(PyData.int i).shown, (PyData.int j).shown] (by simp)
  have h1 := text_le hi
  have h2 := text_le hj
  rw [e]
  simp only [piled, List.foldr, List.map, List.sum_cons, List.sum_nil] at e2
  have l1 : (("[" : String) : Str).length = 1 := by decide +kernel
  have l2 : (("]" : String) : Str).length = 1 := by decide +kernel
  have e3 : (("[" : Str) ++ Str.join ", " [(PyData.int i).shown, (PyData.int j).shown] ++ "]").length = 1 + (Str.join ", " [(PyData.int i).shown, (PyData.int j).shown]).length + 1 := by
    rw [Str.length_append, Str.length_append, l1, l2]
  rw [e3, sizeLine_eq]
  omega

theorem tup2_le {i j : Int} (hi : small i) (hj : small j) : (PyData.tuple [.int i, .int j]).shown.length ≤ sizeLine := by
  have e : (PyData.tuple [.int i, .int j]).shown = ("(" : Str) ++ Str.join ", " [(PyData.int i).shown, (PyData.int j).shown] ++ (")" : String) := by
    have e0 : (PyData.tuple [.int i, .int j]).shown = tupleText (PyData.shownAll [.int i, .int j]) := by simp only [PyData.shown]
    rw [e0]
    simp only [PyData.shownAll, tupleText, List.length_cons, List.length_nil]
    rfl
  have e2 := join_length_add [(PyData.int i).shown, (PyData.int j).shown] (by simp)
  have h1 := text_le hi
  have h2 := text_le hj
  rw [e]
  simp only [piled, List.foldr, List.map, List.sum_cons, List.sum_nil] at e2
  have l1 : (("(" : String) : Str).length = 1 := by decide +kernel
  have l2 : ((")" : String) : Str).length = 1 := by decide +kernel
  have e3 : (("(" : Str) ++ Str.join ", " [(PyData.int i).shown, (PyData.int j).shown] ++ (")" : String)).length = 1 + (Str.join ", " [(PyData.int i).shown, (PyData.int j).shown]).length + 1 := by
    rw [Str.length_append, Str.length_append, l1, l2]
  rw [e3, sizeLine_eq]
  omega
def rRepr (K : PySem.W.Frag) : List V → Hp → VK → Prop := fun vs H Q => ∃ (a : Addr) (d : PyData), vs = [V.ref a] ∧ Dp K H (.ref a) d ∧ d.showable = true ∧ d.hasDict = false ∧ d.depth ≤ 40 ∧ d.shown.length ≤ sizeLine ∧ Q (.str d.shown) H
theorem cr_repr {X : Cx} (hg : X.A.guards = some []) (hu : X.A.units + 64 < cLine) : CallR X (.builtin "repr") (rRepr X.K) := by
  intro pins s σ H vs us Q I r h
  obtain ⟨a, d, rfl, hd, hs, hn, hz, hl, q⟩ := h
  rw [Vals.ref1 r]
  obtain ⟨as, rd⟩ := Dp.reads I d _ (.ref a) hd rfl
  refine repr_of_reads' rd hs (fun z => by rw [hn] at z; cases z) hg (by omega) (fun _ _ e => e) (fun h' u tk hk => ?_) hl
  exact ⟨.str d.shown, H, I.kept (t' := tk) hk, ⟨u, rfl⟩, q⟩

/-! ### a promise that is kept where no repr runs -/
structure FnG (P : Program) (w : World) (K : PySem.W.Frag) (mg : Str → Option Value) (base : Heap) (CX : CXT) (k : Nat) (f : Addr) (fd : FuncData) (ps : List Str) (sp : Sp) : Prop where
  len : ∀ vs H Q E, sp vs H Q E → vs.length = ps.length
  run : ∀ (A : Around) (outer : List Env) (s : Shared) (H : Hp) (args : Args) (us : List Value) (vs : List V) (Q : VK) (E : XK), A.guards = some [] → Room k A → Env0 P w K mg base A outer s H → BindsTo s fd args (ps.zip us) → Vals vs us → sp vs H Q E →
    codeAny (model P w) A (.call (.ref f) args) (CR CX outer P w H s Q E) s
theorem fn_ofG {CX : CXT} {P : Program} {w : World} {K : PySem.W.Frag} {mg : Str → Option Value} {base : Heap} {k : Nat} {f : Addr} {name qual : Str} {params : Arguments} {body : List Stmt} {scope : Scope} {dV kV doc pm cdv ct oc : Value} {an od : Option Addr}
    {osl : Array (Option Value)} {N ps : List Str} {sp : Sp} (lk : K.lookup f = some ⟨oc, od, .func (PySem.W.fnOf name qual params body scope dV kV doc pm an cdv ct), osl⟩) (hcd : PySem.W.codeIn K cdv qual = true) (S : FnScope N ps scope)
    (len : ∀ vs H Q E, sp vs H Q E → vs.length = ps.length)
    (hbody : ∀ (A : Around) (outer : List Env) (s : Shared) (H : Hp) (vs : List V) (Q : VK) (E : XK), A.guards = some [] → Room k (A.deeper (envOfC qual scope s.heap.objs.size f cdv)) → sp vs H Q E →
      ∃ t, PSs (cxOf CX P w K mg base N qual scope f cdv A outer s H E) body t ∧ t { nx := fun _ H' => Q .non H', rt := Q } (start N vs) H) :
    FnG P w K mg base CX (k + 1) f (PySem.W.fnOf name qual params body scope dV kV doc pm an cdv ct) ps sp := by
  refine ⟨len, fun A outer s H args us vs Q E hgd hr e0 hb r hsp => ?_⟩
  have hl := len _ _ _ _ hsp
  have KX : K.In s.heap := e0.mod.kin.keeps fun b o e => (e0.bs b o e).1
  have lim : s.heap.NoLimit := e0.mod.nolimit.keeps fun b o e => (e0.bs b o e).1
  have hkind : ∀ y ∈ ps.zip us, scope.names.lookup y.1 = some .local ∨ (scope.names.lookup y.1 = some .cell ∧ ((cellsFrom (s.heap.objs.size + 1) scope.names []).lookup y.1).isSome = true) := fun ⟨n, v⟩ hy => by
    rcases S.par n (List.of_mem_zip hy).1 with q | q
    · exact .inl q
    · exact .inr ⟨q, PySem.W.cellsFrom_some _ _ _ (.inl q)⟩
  refine codeAny_call_function hr.depth (KX _ _ lk) rfl S.co S.gen rfl (PySem.W.codeRec_of KX hcd) (hb _ _ _ _ ?_)
  refine wpAny_newFunctionEnv_cells S.kind hkind fun env he s1 x => ?_
  subst he
  refine ⟨lim.keeps x.toInCall.keep, codeAny_func ?_⟩
  obtain ⟨t, ht, hq⟩ := hbody A outer s H vs Q E hgd (hr.deeper _) hsp
  have I : Inv (cxOf CX P w K mg base N qual scope f cdv A outer s H E) [] (start N vs) H s1 := inv_start S hr.hd e0 hl r x
  refine wpAny_mono (ht.run [] s1 (start N vs) H _ I hq) (fun fl s' hs => ?_) fun e s' hs => hs
  have fin : ∀ {σ' : L2.St} {H' : Hp} {v : V} {u : Value}, Inv (cxOf CX P w K mg base N qual scope f cdv A outer s H E) [] σ' H' s' → RelV v u → Q v H' → CE outer P w H s Q u s' :=
    fun {σ' H' v u} J rv q => ⟨v, H', J.os, J.bare, J.base, J.hok, rv, q⟩
  cases fl with
  | ret u =>
    obtain ⟨v, σ', H', J, rv, q⟩ := hs
    exact fin J rv q
  | next =>
    obtain ⟨σ', H', J, q⟩ := hs
    exact fin (v := V.non) (u := Value.none) J rfl q
  | brk =>
    obtain ⟨_, _, _, q⟩ := hs
    exact False.elim q
  | cont =>
    obtain ⟨_, _, _, q⟩ := hs
    exact False.elim q
theorem okG {P : Program} {w : World} {K : PySem.W.Frag} {mg : Str → Option Value} {base : Heap} {x qual : Str} {params : Arguments} {body : List Stmt} {scope : Scope} {dvs : List V} {kws : List (Str × V)} {f : Addr} {fd : FuncData}
    {CX : CXT} {N ps : List Str} {k : Nat} {sp : Sp} (F : FunD K x qual params body scope dvs kws f fd) (S : FnScope N ps scope) (len : ∀ vs H Q E, sp vs H Q E → vs.length = ps.length)
    (hbody : ∀ (cdv : Value) (A : Around) (outer : List Env) (s : Shared) (H : Hp) (vs : List V) (Q : VK) (E : XK), A.guards = some [] → Room k (A.deeper (envOfC qual scope s.heap.objs.size f cdv)) → sp vs H Q E →
      ∃ t, PSs (cxOf CX P w K mg base N qual scope f cdv A outer s H E) body t ∧ t { nx := fun _ H' => Q .non H', rt := Q } (start N vs) H) : FnG P w K mg base CX (k + 1) f fd ps sp := by
  obtain ⟨oc, od, dV, kV, doc, pm, an, cdv, ct, osl, rfl, lk, hcd, _, _⟩ := F.ex
  exact fn_ofG lk hcd S len fun A outer s H vs Q E hg hr hsp => hbody cdv A outer s H vs Q E hg hr hsp
section
variable {X : Cx} {CX : CXT} {k : Nat} {f C : Addr} {fd : FuncData} {ps : List Str} {sp : Sp} {dvs : List V} {ds : List Value} {E : XK} {x m : Str} {p pos apos : Pos} {e o : Expr} {es : List Expr} {ta : TE} {t : TA}
theorem pe_callG (F : FnG X.prog X.w X.K X.mg X.base CX k f fd ps sp) (hgd : X.A.guards = some []) (hr : Room k X.A) (hg : Gl X x) (hm : X.mg x = some (.ref f)) (hk : PySem.W.keepIn X.K (.ref f) = true) (hb : Binds X.K fd ps ds) (hd : Vals dvs ds) (hx : Passes CX X E)
    (ha : PA X (e :: es) t) (hdb : (x == ("__debug__" : Str)) = false := by decide) (he : starEach (e :: es) X.env = (false, eval e X.env) :: starEach es X.env := by rfl) (hpl : (backTo pos (starEach es X.env)).any (·.1) = false := by rfl) :
    PE X (.Call (.Name x p) (e :: es) [] pos) (tCall sp dvs E t) := by
  refine ⟨fun pins s σ H Q I h => ?_⟩
  refine wpAny_Call_Name_kw (ld_glob I hg hm ?_ hdb)
  refine PySem.W.callWith_K (h₀ := X.base) I.ok.mod.kin hk (thn (ha.run pos pins s σ H _ I h) fun us s1 ⟨vs, H1, I1, r, q⟩ => ⟨I1.kIn, ?_⟩) he hpl
  have r2 : Vals (vs ++ dvs) (us ++ ds) := r.append hd
  have hl : (us ++ ds).length = ps.length := by rw [← r2.length]; exact F.len _ _ _ _ q
  refine wpAny_call (codeAny_mono (F.run X.A X.stack s1 H1 ⟨us, []⟩ (us ++ ds) (vs ++ dvs) Q E hgd hr I1.env0 (hb s1 us I1.kIn hl) r2 q) fun r s' hq => ?_)
  cases r with
  | error e => exact hx pins σ H1 s1 e s' I1 hq
  | ok fl =>
    cases fl with
    | ret u => exact I1.after hq
    | next => exact False.elim hq
    | brk => exact False.elim hq
    | cont => exact False.elim hq
end
theorem law_callG {P : Program} {w : World} {K : PySem.W.Frag} {mg mb : Str → Option Value} {CX : CXT} {k : Nat} {fa a : Addr} {fd : FuncData} {x : Str} {sp : Sp} {s₁ : Shared} {vs : List Value} {ns : List Int}
    (KX : K.In s₁.heap) (hns : s₁.heap.Ns mainGlobals mg) (hb : s₁.heap.Ns builtinsNs mb) (hbb : ∀ x : Str, x ≠ "__name__" → mb x = bootBuiltins x) (hlim : s₁.heap.NoLimit) (hg : s₁.gens = #[])
    (ha : s₁.heap.get? a = some { cls := .type "list", data := .seq vs.toArray }) (hi : IntsAre vs ns) (hl : ns.length ≤ sizeLine) (hr : Room k callerA)
    (F : ∀ base : Heap, K.In base → base.Ns mainGlobals mg → FnG P w K mg base CX k fa fd [x] sp) (hbind : ∀ (s : Shared) (u : Value), BindsTo s fd ⟨[u], []⟩ [(x, u)])
    (hsp : ∀ H : Hp, Only H → SqL K H a (ns.map V.int) → sp [.ref a] H (fun v _ => v = .bl true) fun _ _ _ => False)
    (hCX : ∀ H e s', CX [] H s₁ (fun _ _ _ => False) e s' → False) :
    codeAny (model P w) callerA (.call (.ref fa) ⟨[.ref a], []⟩) (fun r s' => r = .ok (.ret (.bool true)) ∧ OldK s₁.heap s'.heap ∧ s'.os = s₁.os ∧ AllBare s'.gens) s₁ := by
  have rv := vals_ints hi
  have lenV := hi.length
  -- from an abstract heap in which nothing but the script may be tracked
  have core : ∀ H : Hp, Only H → SqL K H a (ns.map V.int) → HOk P w H s₁.heap → (∀ b, H b ≠ none → b = a) → (H a ≠ none → K.lookup a = none) →
      codeAny (model P w) callerA (.call (.ref fa) ⟨[.ref a], []⟩) (fun r s' => r = .ok (.ret (.bool true)) ∧ OldK s₁.heap s'.heap ∧ s'.os = s₁.os ∧ AllBare s'.gens) s₁ := by
    intro H hO hS hok hA hK
    have base_of : ∀ {b : Addr} {o : Obj}, s₁.heap.get? b = some o → H b = none → (hidT s₁.heap H).get? b = some o := fun e n => hidT_get e n
    have noA : ∀ {b : Addr} {o : Obj} {es : Array DictEntry} {ep : Nat}, s₁.heap.get? b = some o → o.data = .dict es ep → H b = none := fun {b o es ep} e d => by
      cases q : H b with
      | none => rfl
      | some u =>
        have e' : b = a := hA b (by rw [q]; simp)
        subst e'
        rw [ha] at e; cases e
        have d' : Data.seq vs.toArray _ = Data.dict es ep := d
        cases d'
    have nsK : ∀ {b : Addr} {m : Str → Option Value}, s₁.heap.Ns b m → (hidT s₁.heap H).Ns b m := fun {b m} ⟨o, es, ep, e, d, r⟩ => ⟨o, es, ep, base_of e (noA e d), d, r⟩
    have hKb : K.In (hidT s₁.heap H) := fun b o e => base_of (KX b o e) (by
      cases q : H b with
      | none => rfl
      | some u =>
        have e' : b = a := hA b (by rw [q]; simp)
        subst e'
        rw [hK (by rw [q]; simp)] at e; cases e)
    have hM : Mod K mg (hidT s₁.heap H) := ⟨hKb, nsK hns, ⟨mb, nsK hb, hbb⟩, let ⟨mc, h1, h2⟩ := hlim; ⟨mc, nsK h1, h2⟩⟩
    have e0 : Env0 P w K mg (hidT s₁.heap H) callerA [] s₁ H := ⟨rfl, hM, fun b o e => of_hidT e, Nat.le_of_eq (hidT_size _ _), trivial, fun b hb => absurd (show b ∈ ([] : List Addr) from hb) (by simp), hok, .of_eq hg⟩
    refine codeAny_mono ((F _ hKb (nsK hns)).run callerA [] s₁ H ⟨[.ref a], []⟩ [.ref a] [.ref a] _ _ rfl hr e0 (hbind s₁ (.ref a)) (.cons rfl .nil) (hsp H hO hS)) fun r s' h => ?_
    cases r with
    | error e => exact (hCX H e s' h).elim
    | ok fl =>
      cases fl with
      | next => exact False.elim h
      | brk => exact False.elim h
      | cont => exact False.elim h
      | ret u =>
        obtain ⟨v, H', os, bare, un, hok', r', q⟩ := h
        have q' : v = .bl true := q
        subst q'
        obtain rfl : u = Value.bool true := r'
        refine ⟨rfl, OldK.of_keep fun b o e => ?_, os, bare⟩
        cases q : H b with
        | none => exact un.keep b o e q (by intro z; exact absurd (show b ∈ ([] : List Addr) from z) (by simp)) (by simp)
        | some u =>
          rcases hO b with z | ⟨ob, xs, z⟩
          · rw [q] at z; cases z
          · have z2 := un.frzs b ob _ z
            obtain ⟨e1, _⟩ := hok b _ z
            obtain ⟨e2, _⟩ := hok' b _ z2
            rw [e] at e1; cases e1
            exact e2
  cases hk : K.lookup a with
  | some o =>
    -- the script is one of the module's own objects
    have e := KX a o hk
    rw [ha] at e
    cases e
    refine core (fun _ => none) (fun _ => .inl rfl) (.inr ⟨_, vs.toArray, _, hk, rfl, rfl, rfl, by rw [List.size_toArray, lenV]; exact hl, by simpa using rv⟩) (fun b u z => by have z' : (none : Option HO) = some u := z; cases z') (fun b z => absurd rfl z) fun z => absurd rfl z
  | none =>
    refine core (fun b => if b = a then some (.frz { cls := .type "list", data := .seq vs.toArray } (.lst (ns.map V.int))) else none) (fun b => ?_) (.inl (.inr ⟨{ cls := .type "list", data := .seq vs.toArray }, if_pos rfl⟩)) (fun b u z => ?_) (fun b z => ?_) fun _ => hk
    · by_cases hb : b = a
      · exact .inr ⟨_, _, if_pos hb⟩
      · exact .inl (if_neg hb)
    · by_cases hb : b = a
      · have z' := (if_pos hb).symm.trans z
        cases z'
        subst hb
        exact ⟨ha, by rw [List.length_map]; exact hl, vs, _, rv, ha⟩
      · have z' := (if_neg hb).symm.trans z
        cases z'
    · by_cases hb : b = a
      · exact hb
      · exact absurd (if_neg hb) z
theorem walk_ofEG {l : PySem.W.OpenLaw} {n k : Nat} {q : Program} {loose : List Str} {XP : (Str → Option Value) → Heap → Prop} {YP : World → Heap → Prop} {d : DefRec} {CX : CXT} {x : Str}
    (hn : l.most = some n) (hn2 : n ≤ sizeLine) (hdf : d.params.defaults = []) (hr : Room k callerA)
    (F : ∀ (w : World) (mg : Str → Option Value) (fa : Addr) (h : Heap), YP w h → h.Ns mainGlobals mg → mg d.name = some (.ref fa) →
      ∃ (K : PySem.W.Frag) (fd : FuncData) (sp : Sp), K.In h ∧ (∀ (s : Shared) (u : Value), BindsTo s fd ⟨[u], []⟩ [(x, u)]) ∧
        (∀ (H : Hp) (a : Addr) (ns : List Int), ns.length ≤ n → Only H → SqL K H a (ns.map V.int) → sp [.ref a] H (fun v _ => v = .bl true) fun _ _ _ => False) ∧
        ∀ base : Heap, K.In base → base.Ns mainGlobals mg → FnG l.prog w K mg base CX k fa fd [x] sp)
    (hCX : ∀ (H : Hp) (s : Shared) (e : Value) (s' : Shared), CX [] H s (fun _ _ _ => False) e s' → False) :
    PySem.W.WalkO q loose XP YP l.row.toRowW d [] (fun f vs => PySem.call f vs) := by
  refine Att.attach_call hn hdf fun w s₀ s₁ mg mb fa o pm cd doc a vs ns G Y ho hd hcd hmg hobj hints hlen hg => ?_
  obtain ⟨K, fd, sp, KX, hb, hsp, hF⟩ := F w mg fa _ Y G.T.g hmg
  exact law_callG KX G.T.g G.T.b G.T.builtins G.T.nolimit hg hobj hints (Nat.le_trans hlen hn2) hr hF hb (fun H hO hS => hsp H a ns hlen hO hS) fun H e s' => hCX H s₁ e s'
end Lm
end
section
set_option Elab.async false
set_option linter.all false
set_option maxRecDepth 100000
set_option maxHeartbeats 2000000
namespace Lm
open PySem PySem.Spec PyProof.Rows L2
/-- a written dict's d.get(k, x), the key there -/
def tKGet (K : PySem.W.Frag) (w : World) (td ty tx : TE) : TE := fun σ H Q => td σ H fun x H1 => ∃ (d : Addr) (es : Array DictEntry) (n : Nat), x = .ref d ∧ KDict K w d es n ∧ ty σ H1 fun y H2 => tx σ H2 fun _ H3 => ∃ (z : Str) (u : Value) (v : V), y = .str z ∧ PySem.W.nsIn K d z = some (some u) ∧ RelV v u ∧ Q v H3
theorem pe_kget {X : Cx} {o e f : Expr} {apos cpos : Pos} {td ty tx : TE} (ho : PE X o td) (he : PE X e ty) (hf : PE X f tx) (m : M2 X o "get" apos e f cpos) : PE X (.Call (.Attribute o "get" apos) [e, f] [] cpos) (tKGet X.K X.w td ty tx) := by
  refine ⟨fun pins s σ H Q I h => ?_⟩
  refine wpAny_Call_method m.base m.few m.line PySem.F.plainAttrs_dict PySem.F.slot_dict_get PySem.F.type_dict_get (thn (ho.run pins s σ H _ I h) fun u s1 ⟨x, H1, I1, rx, d, es, n, ex, D, q1⟩ => ?_)
  subst ex
  obtain rfl : u = Value.ref d := rx
  have hmap := PySem.W.mapOf_K (prog := X.prog) (w := X.w) I1.kIn D.at_ D.lit
  refine ⟨hmap.typeIs, fun b q => ?_, ?_⟩
  · cases q
    exact ⟨_, I1.kIn _ _ D.at_, rfl⟩
  rw [m.trees]
  refine Calls.callWith_builtin rfl (Calls.evalArgs_plain (Calls.spliced_cons (thn (he.run pins s1 σ H1 _ I1 q1) fun iv s2 ⟨y, H2, I2, ry, q2⟩ =>
    Calls.spliced_cons (thn (hf.run pins s2 σ H2 _ I2 q2) fun fv s3 ⟨zz, H3, I3, rz, z, u, v, ey, hz, rv, q3⟩ => Calls.spliced_nil ?_))))
  subst ey
  obtain ⟨t, rfl⟩ := ry
  have hmap3 := PySem.W.mapOf_K (prog := X.prog) (w := X.w) I3.kIn D.at_ D.lit
  refine call_meetsIn PySem.F.slot_dict_get hmap3.typeIs PySem.F.entry_dict_get (PySem.F.args_dict_get_3 _ _ _) (meets_dict_get_default (strKind X.prog X.w) d (PySem.strKind_is X.prog X.w z t) D.low fv) ⟨_, hmap3, ?_⟩
  rw [PySem.W.find_K D.at_ hz]
  exact ⟨v, H3, I3.tok _, rv, q3⟩
end Lm
end
section
set_option Elab.async false
set_option linter.all false
set_option maxRecDepth 100000
set_option maxHeartbeats 2000000
namespace Lm
open PySem PySem.Spec L2 Evl

/-! ### what a promise keeps: G the known part of the heap, H the heap -/
def Stp (G H G' H' : Hp) : Prop := Ex G G' ∧ Ex H H' ∧ Ex G' H' ∧ ∀ b o, H b = some o → G b = none → G' b = none
theorem Stp.refl {G H : Hp} (e : Ex G H) : Stp G H G H := ⟨Ex.refl _, Ex.refl _, e, fun _ _ _ h => h⟩
theorem Stp.ex {G H H' : Hp} (e : Ex G H) (e2 : Ex H H') : Stp G H G H' := ⟨Ex.refl _, e2, e.trans e2, fun _ _ _ h => h⟩
theorem Stp.trans {G H G1 H1 G2 H2 : Hp} (a : Stp G H G1 H1) (b : Stp G1 H1 G2 H2) : Stp G H G2 H2 :=
  ⟨a.1.trans b.1, a.2.1.trans b.2.1, b.2.2.1, fun c o h1 h2 => b.2.2.2 c o (a.2.1 c o h1) (a.2.2.2 c o h1 h2)⟩
theorem Stp.new {G H : Hp} {p : Addr} {o : HO} (e : Ex G H) (hp : H p = none) : Stp G H (upd G p o) (upd H p o) := by
  have hg : G p = none := fresh_back e hp
  refine ⟨Ex.new hg, Ex.new hp, fun b u h => ?_, fun b u h1 h2 => ?_⟩
  · by_cases hb : b = p
    · subst hb
      rw [upd_same] at h ⊢
      exact h
    · rw [upd_ne hb] at h ⊢
      exact e b u h
  · rw [upd_ne (ne_of_none h1 hp)]
    exact h2
/-- a new object that stands already in the heap is taken into the known part -/
theorem Stp.take {G H H' : Hp} {p : Addr} {o : HO} (e : Ex G H) (hp : H p = none) (e2 : Ex H H') (h : H' p = some o) : Stp G H (upd G p o) H' := by
  have hg : G p = none := fresh_back e hp
  refine ⟨Ex.new hg, e2, fun b u hb => ?_, fun b u h1 h2 => ?_⟩
  · by_cases q : b = p
    · subst q
      rw [upd_same] at hb
      cases hb
      exact h
    · rw [upd_ne q] at hb
      exact e2 b u (e b u hb)
  · rw [upd_ne (ne_of_none h1 hp)]
    exact h2
def Cl (I : Hp → Hp → Prop) : Prop := ∀ G H G' H', Stp G H G' H' → I G H → I G' H'
theorem cl_stp {G0 H0 : Hp} : Cl (Stp G0 H0) := fun _ _ _ _ s i => i.trans s
theorem cl_ex {H0 : Hp} : Cl (fun _ H => Ex H0 H) := fun _ _ _ _ s i => i.trans s.2.1
def Go (I : Hp → Hp → Prop) (t : TS) (D : Ends) (σ : St) (G : Hp) : Prop := ∀ H, Ex G H → I G H → t D σ H
def GoN (I : Hp → Hp → Prop) (N : St → Hp → Prop) (σ : St) (G : Hp) : Prop := ∀ H, Ex G H → I G H → N σ H
def GoV (I : Hp → Hp → Prop) (Q : VK) (v : V) (G : Hp) : Prop := ∀ H, Ex G H → I G H → Q v H
/-- te gives a v and a known part that R tells -/
def EvX (te : TE) (σ : St) (G : Hp) (R : V → Hp → Prop) : Prop := ∀ H1, Ex G H1 → ∀ Q : VK, (∀ v G' H2, Stp G H1 G' H2 → R v G' → Q v H2) → te σ H1 Q

section
variable {K : PySem.W.Frag} {I : Hp → Hp → Prop} {σ : St} {G : Hp} {ta tb tc te tv : TE} {c t u : TT} {x y z v : V} {D : Ends} {tu tw tz : TS} {i j : Int}
/-! ### values -/
theorem ev_I0 {g : Int → Int → V} (ha : Ev ta σ G (.int i)) (hb : Ev tb σ G (.int j)) : Ev (tOp (rI0 g) ta tb) σ G (g i j) := ev_op ha hb rv_I0
theorem ev_I {C : Int → Int → Prop} {g : Int → Int → V} (ha : Ev ta σ G (.int i)) (hb : Ev tb σ G (.int j)) (hc : C i j) : Ev (tOp (rI C g) ta tb) σ G (g i j) := ev_op ha hb (rv_I hc)
theorem ev_eq (ha : Ev ta σ G x) (hb : Ev tb σ G y) (h : scal x y = true) : Ev (tOp rEq ta tb) σ G (.bl (decide (x = y))) := ev_op ha hb (rv_eq h)
theorem ev_ne (ha : Ev ta σ G x) (hb : Ev tb σ G y) (h : scal x y = true) : Ev (tOp rNe ta tb) σ G (.bl (!decide (x = y))) := ev_op ha hb (rv_ne h)
theorem ev_neg (ha : Ev ta σ G (.int i)) : Ev (tUn (rU fun i => .int (-i)) ta) σ G (.int (-i)) := ev_un ha ru_neg
theorem ev_fld {a C dx : Addr} {fs : List (Str × V)} {f : Str} (ha : Ev ta σ G (.ref a)) (h : G a = some (.ins C dx fs)) (hc : Cls K C) (hn : NoAttr K C f) (hl : fs.lookup f = some v) : Ev (tFld K ta f) σ G v := fun H1 e Q q =>
  ha H1 e _ fun H2 e2 => ⟨a, C, dx, fs, v, rfl, e2 _ _ (e _ _ h), hc, hn, hl, q H2 e2⟩
theorem ev_ixT {p : Addr} {xs : List V} (ha : Ev ta σ G (.ref p)) (hb : Ev tb σ G (.int i)) (h : SqT K G p xs) (hx : atI xs i = some v) : Ev (tOp (rIxT K) ta tb) σ G v := ev_op ha hb (rv_ixT h hx)
theorem ev_ixL {p : Addr} {xs : List V} (ha : Ev ta σ G (.ref p)) (hb : Ev tb σ G (.int i)) (h : SqL K G p xs) (hx : atI xs i = some v) : Ev (tOp (rIxL K) ta tb) σ G v := ev_op ha hb (rv_ixL h hx)
theorem ev_lenL {p : Addr} {xs : List V} (ha : Ev ta σ G (.ref p)) (h : SqL K G p xs) : Ev (tCB (fun xs H Q => ∃ p ys, xs = [.ref p] ∧ (SqL K H p ys ∨ SqT K H p ys) ∧ Q (.int ys.length) H) (tCons ta tNil)) σ G (.int (xs.length : Int)) := fun H1 e Q q =>
  ha H1 e _ fun H2 e2 => ⟨p, xs, rfl, Or.inl (ex_l (e.trans e2) h), q H2 e2⟩
theorem ev_lenT {p : Addr} {xs : List V} (ha : Ev ta σ G (.ref p)) (h : SqT K G p xs) : Ev (tCB (fun xs H Q => ∃ p ys, xs = [.ref p] ∧ (SqL K H p ys ∨ SqT K H p ys) ∧ Q (.int ys.length) H) (tCons ta tNil)) σ G (.int (xs.length : Int)) := fun H1 e Q q =>
  ha H1 e _ fun H2 e2 => ⟨p, xs, rfl, Or.inr (ex_t (e.trans e2) h), q H2 e2⟩
theorem ev_int1 (ha : Ev ta σ G (.int i)) : Ev (tCB (fun xs H Q => (∃ i, xs = [.int i] ∧ Q (.int i) H) ∨ ∃ k, xs = [.bl k] ∧ Q (.int (if k then 1 else 0)) H) (tCons ta tNil)) σ G (.int i) := fun H1 e Q q =>
  ha H1 e _ fun H2 e2 => Or.inl ⟨i, rfl, q H2 e2⟩
theorem ev_isi {xc : V} {tt uu : Value} {b : Bool} (ha : Ev ta σ G x) (hb : Ev tb σ G xc) (hc : ClsV xc uu) (ht : ∀ H, Ex G H → TyX K H x tt) (hk : PySem.W.kitOne K tt uu = some b) : Ev (tCB (rIsi K) (tCons ta (tCons tb tNil))) σ G (.bl b) := fun H1 e Q q =>
  ha H1 e _ fun H2 e2 => hb H2 (e.trans e2) _ fun H3 e3 => ⟨x, xc, tt, uu, b, rfl, hc, ht H3 ((e.trans e2).trans e3), hk, q H3 (e2.trans e3)⟩
theorem ev_chain {r r' : R2} {k k' : Bool} (ha : Ev ta σ G x) (hb : Ev tb σ G y) (hr : RV r x y G (.bl k)) (h2 : k = true → Ev tc σ G z ∧ RV r' y z G (.bl k')) : Ev (tChain r r' ta tb tc) σ G (.bl (k && k')) := fun H1 e Q q =>
  ha H1 e _ fun H2 e2 => hb H2 (e.trans e2) _ fun H3 e3 => hr H3 ((e.trans e2).trans e3) _ fun H4 e4 => ⟨k, rfl, by
    have e5 := ((e.trans e2).trans e3).trans e4
    have f5 := (e2.trans e3).trans e4
    cases k with
    | true =>
      obtain ⟨hc, hr2⟩ := h2 rfl
      exact hc H4 e5 _ fun H5 e6 => hr2 H5 (e5.trans e6) Q fun H6 e7 => q H6 (f5.trans (e6.trans e7))
    | false =>
      show Q (.bl false) H4
      exact q H4 f5⟩
theorem ev_meth {sp : Sp} {vs dvs : List V} {E : XK} {m : Str} {a C dx : Addr} {fs : List (Str × V)} {ts : TA} (ha : Ev ta σ G (.ref a)) (h : G a = some (.ins C dx fs)) (hm : fs.lookup m = none) (hs : EvA ts σ G vs) (hp : Evl.SpV sp (.ref a :: (vs ++ dvs)) G z) :
    Ev (tMeth C m sp dvs E ta ts) σ G z := fun H1 e Q q =>
  ha H1 e _ fun H2 e2 => ⟨a, dx, fs, rfl, e2 _ _ (e _ _ h), hm, hs H2 (e.trans e2) _ fun H3 e3 => hp H3 ((e.trans e2).trans e3) Q (fun H4 e4 => q H4 ((e2.trans e3).trans e4)) E⟩
theorem ev_dget {a : Addr} {kvs : List (Key × V)} {k : Key} (ha : Ev ta σ G (.ref a)) (hk : Ev tb σ G (kV k)) (h : G a = some (.dK kvs)) (hv : valV kvs k = some v) : Ev (tDGet ta tb) σ G v := fun H1 e Q q =>
  ha H1 e _ fun H2 e2 => hk H2 (e.trans e2) _ fun H3 e3 => ⟨a, v, rfl, by rw [← hv]; exact DGet.k (((e.trans e2).trans e3) _ _ h), q H3 (e2.trans e3)⟩
theorem ev_isN (ha : Ev ta σ G x) : Ev (tOp (fun x y H Q => y = .non ∧ Q (.bl (decide (x = .non))) H) ta (tC .non)) σ G (.bl (decide (x = .non))) := fun H1 e Q q =>
  ha H1 e _ fun H2 e2 => ⟨rfl, q H2 e2⟩
theorem ev_notN (ha : Ev ta σ G x) : Ev (tOp (fun x y H Q => y = .non ∧ Q (.bl (!decide (x = .non))) H) ta (tC .non)) σ G (.bl (!decide (x = .non))) := fun H1 e Q q =>
  ha H1 e _ fun H2 e2 => ⟨rfl, q H2 e2⟩
/-- a new tuple: divmod -/
theorem eu_divmod {ts : TA} (h : EvA ts σ G [.int i, .int j]) (hc : CDiv i j) : EvU (tCB (fun xs H Q => ∃ i j, xs = [.int i, .int j] ∧ CDiv i j ∧ ∀ p, H p = none → Q (.ref p) (upd H p (.tup [.int (i / j), .int (i % j)]))) ts) σ G [.int (i / j), .int (i % j)] := fun H1 e Q q =>
  h H1 e _ fun H2 e2 => ⟨i, j, rfl, hc, fun p hp => q p _ (fresh_back e2 hp) (e2.trans (Ex.new hp)) upd_same⟩
theorem eu_divmodW {ts : TA} (h : EvA ts σ G [.int i, .int j]) (hc : CDivP i j) : EvU (tCB (fun xs H Q => ∃ i j, xs = [.int i, .int j] ∧ CDivP i j ∧ ∀ p, H p = none → Q (.ref p) (upd H p (.tup [.int (i / j), .int (i % j)]))) ts) σ G [.int (i / j), .int (i % j)] := fun H1 e Q q =>
  h H1 e _ fun H2 e2 => ⟨i, j, rfl, hc, fun p hp => q p _ (fresh_back e2 hp) (e2.trans (Ex.new hp)) upd_same⟩
theorem eu_call {sp : Sp} {dvs vs xs : List V} {E : XK} {ts : TA} (h : EvA ts σ G vs) (hs : ∀ H1, Ex G H1 → ∀ Q : VK, (∀ p H2, H1 p = none → Ex H1 H2 → H2 p = some (.tup xs) → Q (.ref p) H2) → ∀ E : XK, sp (vs ++ dvs) H1 Q E) : EvU (tCall sp dvs E ts) σ G xs := fun H1 e Q q =>
  h H1 e _ fun H2 e2 => hs H2 (e.trans e2) Q (fun p H3 hp e3 h3 => q p H3 (fresh_back e2 hp) (e2.trans e3) h3) E
/-! ### kinds of results that are told -/
theorem EvX.of (h : Ev te σ G v) : EvX te σ G (fun w G' => w = v ∧ G' = G) := fun H1 e Q q => h H1 e Q fun H2 e2 => q v G H2 (Stp.ex e e2) ⟨rfl, rfl⟩
theorem EvX.ofL {xs : List V} (h : EvL te σ G xs) : EvX te σ G (fun w G' => ∃ p, w = .ref p ∧ G p = none ∧ G' = upd G p (.lst xs)) := fun H1 e Q q =>
  h H1 e Q fun p H2 hp e2 h2 => q (.ref p) _ H2 (Stp.take e hp e2 h2) ⟨p, rfl, fresh_back e hp, rfl⟩
theorem EvX.ofU {xs : List V} (h : EvU te σ G xs) : EvX te σ G (fun w G' => ∃ p, w = .ref p ∧ G p = none ∧ G' = upd G p (.tup xs)) := fun H1 e Q q =>
  h H1 e Q fun p H2 hp e2 h2 => q (.ref p) _ H2 (Stp.take e hp e2 h2) ⟨p, rfl, fresh_back e hp, rfl⟩
theorem EvX.call {sp : Sp} {dvs vs : List V} {E : XK} {ts : TA} {R : V → Hp → Prop} (h : EvA ts σ G vs) (hs : ∀ H1, Ex G H1 → ∀ Q : VK, (∀ v G' H2, Stp G H1 G' H2 → R v G' → Q v H2) → ∀ E : XK, sp (vs ++ dvs) H1 Q E) : EvX (tCall sp dvs E ts) σ G R := fun H1 e Q q =>
  h H1 e _ fun H2 e2 => hs H2 (e.trans e2) Q (fun v G' H3 s r => q v G' H3 ((Stp.ex e e2).trans s) r) E
/-! ### statements -/
theorem go_asg {n : Nat} (hI : Cl I) (h : Ev te σ G v) (k : Go I tz D (σ.set n (some v)) G) : Go I (tSeq (tAsg te (gName n)) tz) D σ G := fun H e i => h H e _ fun H1 e1 => k H1 (e.trans e1) (hI _ _ _ _ (Stp.ex e e1) i)
theorem go_asgX {n : Nat} {R : V → Hp → Prop} (hI : Cl I) (h : EvX te σ G R) (k : ∀ v G', Ex G G' → R v G' → Go I tz D (σ.set n (some v)) G') : Go I (tSeq (tAsg te (gName n)) tz) D σ G :=
  fun H e i => h H e _ fun v G' H1 s r => k v G' s.1 r H1 s.2.2.1 (hI _ _ _ _ s i)
theorem go_asgL {n : Nat} {xs : List V} (hI : Cl I) (h : EvL te σ G xs) (k : ∀ p, G p = none → Go I tz D (σ.set n (some (.ref p))) (upd G p (.lst xs))) : Go I (tSeq (tAsg te (gName n)) tz) D σ G :=
  go_asgX hI (EvX.ofL h) fun v G' _ ⟨p, e1, hp, e2⟩ => by subst e1 e2; exact k p hp
theorem go_asgU {n : Nat} {xs : List V} (hI : Cl I) (h : EvU te σ G xs) (k : ∀ p, G p = none → Go I tz D (σ.set n (some (.ref p))) (upd G p (.tup xs))) : Go I (tSeq (tAsg te (gName n)) tz) D σ G :=
  go_asgX hI (EvX.ofU h) fun v G' _ ⟨p, e1, hp, e2⟩ => by subst e1 e2; exact k p hp
theorem go_drop (hI : Cl I) (h : Ev te σ G v) (k : Go I tz D σ G) : Go I (tSeq (tDrop te) tz) D σ G := fun H e i => h H e _ fun H1 e1 => k H1 (e.trans e1) (hI _ _ _ _ (Stp.ex e e1) i)
theorem go_par {n m : Nat} {ts : TA} (hI : Cl I) (h : EvA ts σ G [x, y]) (k : Go I tz D ((σ.set n (some x)).set m (some y)) G) : Go I (tSeq (tPar n m ts) tz) D σ G :=
  fun H e i => h H e _ fun H1 e1 => ⟨x, y, rfl, k H1 (e.trans e1) (hI _ _ _ _ (Stp.ex e e1) i)⟩
theorem go_par1 {n m : Nat} {ts : TA} (hI : Cl I) (h : EvA ts σ G [x, y]) (k : GoN I D.nx ((σ.set n (some x)).set m (some y)) G) : Go I (tPar n m ts) D σ G :=
  fun H e i => h H e _ fun H1 e1 => ⟨x, y, rfl, k H1 (e.trans e1) (hI _ _ _ _ (Stp.ex e e1) i)⟩
theorem go_par3 {n m l : Nat} {ts : TA} (hI : Cl I) (h : EvA ts σ G [x, y, z]) (k : Go I tz D (((σ.set n (some x)).set m (some y)).set l (some z)) G) : Go I (tSeq (tPar3 n m l ts) tz) D σ G :=
  fun H e i => h H e _ fun H1 e1 => ⟨x, y, z, rfl, k H1 (e.trans e1) (hI _ _ _ _ (Stp.ex e e1) i)⟩
theorem go_un2 {n m : Nat} (hI : Cl I) (h : EvU te σ G [x, y]) (k : Go I tz D ((σ.set n (some x)).set m (some y)) G) : Go I (tSeq (tAsg te (gTup K 2 (gCons (gName n) (gCons (gName m) gNil)))) tz) D σ G :=
  fun H e i => h H e _ fun p H1 hp e1 h1 => ⟨p, [x, y], rfl, st_of h1, rfl, x, [y], rfl, y, [], rfl, rfl, k H1 (e.trans e1) (hI _ _ _ _ (Stp.ex e e1) i)⟩
theorem go_un3 {n m l : Nat} (hI : Cl I) (h : EvU te σ G [x, y, z]) (k : Go I tz D (((σ.set n (some x)).set m (some y)).set l (some z)) G) : Go I (tSeq (tAsg te (gTup K 3 (gCons (gName n) (gCons (gName m) (gCons (gName l) gNil))))) tz) D σ G :=
  fun H e i => h H e _ fun p H1 hp e1 h1 => ⟨p, [x, y, z], rfl, st_of h1, rfl, x, [y, z], rfl, y, [z], rfl, z, [], rfl, rfl, k H1 (e.trans e1) (hI _ _ _ _ (Stp.ex e e1) i)⟩
/-- a, b, c = t, t a tuple that stands -/
theorem go_unT3 {n m l : Nat} {p : Addr} (hI : Cl I) (h : Ev te σ G (.ref p)) (hp : SqT K G p [x, y, z]) (k : Go I tz D (((σ.set n (some x)).set m (some y)).set l (some z)) G) : Go I (tSeq (tAsg te (gTup K 3 (gCons (gName n) (gCons (gName m) (gCons (gName l) gNil))))) tz) D σ G :=
  fun H e i => h H e _ fun H1 e1 => ⟨p, [x, y, z], rfl, ex_t (e.trans e1) hp, rfl, x, [y, z], rfl, y, [z], rfl, z, [], rfl, rfl, k H1 (e.trans e1) (hI _ _ _ _ (Stp.ex e e1) i)⟩
theorem go_ret (hI : Cl I) (h : Ev te σ G v) (k : GoV I D.rt v G) : Go I (tRet te) D σ G := fun H e i => h H e _ fun H1 e1 => k H1 (e.trans e1) (hI _ _ _ _ (Stp.ex e e1) i)
theorem go_retX {R : V → Hp → Prop} (hI : Cl I) (h : EvX te σ G R) (k : ∀ v G', Ex G G' → R v G' → GoV I D.rt v G') : Go I (tRet te) D σ G := fun H e i => h H e _ fun v G' H1 s r => k v G' s.1 r H1 s.2.2.1 (hI _ _ _ _ s i)
theorem go_if {b : Bool} (hI : Cl I) (h : EvT c σ G b) (k1 : b = true → Go I tu D σ G) (k2 : b = false → Go I tw D σ G) : Go I (tIfS c tu tw) D σ G := fun H e i => h H e _ fun H1 e1 => by
  cases b with
  | true => exact k1 rfl H1 (e.trans e1) (hI _ _ _ _ (Stp.ex e e1) i)
  | false => exact k2 rfl H1 (e.trans e1) (hI _ _ _ _ (Stp.ex e e1) i)
theorem go_seq (k : Go I tu { D with nx := tz D } σ G) : Go I (tSeq tu tz) D σ G := k
/-- if c: A; the rest -/
theorem go_when {b : Bool} (hI : Cl I) (h : EvT c σ G b) (k1 : b = true → Go I tu { D with nx := tz D } σ G) (k2 : b = false → Go I tz D σ G) : Go I (tSeq (tIfS c tu tNext) tz) D σ G := go_if (D := { D with nx := tz D }) hI h k1 fun hb => k2 hb
/-- a test that does not hold, by what is known -/
theorem go_skip (hI : Cl I) (h : EvT c σ G false) (k : Go I tz D σ G) : Go I (tSeq (tIfS c tu tNext) tz) D σ G := go_when hI h (fun q => by cases q) fun _ => k
theorem go_next (k : GoN I D.nx σ G) : Go I tNext D σ G := k
theorem go_nx (k : Go I tz D σ G) : GoN I (tz D) σ G := k
theorem go_brk (k : GoN I D.bk σ G) : Go I tBreak D σ G := k
theorem go_aug {n : Nat} {r : V → V → Hp → VK → Prop} (hI : Cl I) (hx : σ[n]? = some (some x)) (h : Ev te σ G y) (hr : RV r x y G z) (k : Go I tz D (σ.set n (some z)) G) : Go I (tSeq (tAug n te r) tz) D σ G := fun H e i =>
  ⟨x, hx, h H e _ fun H1 e1 => hr H1 (e.trans e1) _ fun H2 e2 => k H2 ((e.trans e1).trans e2) (hI _ _ _ _ (Stp.ex e (e1.trans e2)) i)⟩
theorem go_aug1 {n : Nat} {r : V → V → Hp → VK → Prop} (hI : Cl I) (hx : σ[n]? = some (some x)) (h : Ev te σ G y) (hr : RV r x y G z) (k : GoN I D.nx (σ.set n (some z)) G) : Go I (tAug n te r) D σ G := fun H e i =>
  ⟨x, hx, h H e _ fun H1 e1 => hr H1 (e.trans e1) _ fun H2 e2 => k H2 ((e.trans e1).trans e2) (hI _ _ _ _ (Stp.ex e (e1.trans e2)) i)⟩
theorem go_asg1 {n : Nat} (hI : Cl I) (h : Ev te σ G v) (k : GoN I D.nx (σ.set n (some v)) G) : Go I (tAsg te (gName n)) D σ G := fun H e i => h H e _ fun H1 e1 => k H1 (e.trans e1) (hI _ _ _ _ (Stp.ex e e1) i)
/-- xs.append(e), the list a known one -/
theorem go_app {l : Addr} {xs : List V} (hI : Cl I) (hW : ∀ H, I G H → I (upd G l (.lst (xs ++ [v]))) (upd H l (.lst (xs ++ [v])))) (hl : G l = some (.lst xs)) (ha : Ev ta σ G (.ref l)) (h : Ev te σ G v) (hz : xs.length < 100000)
    (k : GoN I D.nx σ (upd G l (.lst (xs ++ [v])))) : Go I (tDrop (tBM K "list" rAppend ta (tCons te tNil))) D σ G := fun H e i => ha H e _ fun H1 e1 =>
  ⟨Or.inl ⟨rfl, xs, sq_of ((e.trans e1) l _ hl)⟩, h H1 (e.trans e1) _ fun H2 e2 => by
    have e3 : Ex G H2 := (e.trans e1).trans e2
    refine ⟨l, xs, v, rfl, rfl, e3 l _ hl, sz_lt hz, k _ (fun b o hb => ?_) (hW _ (hI _ _ _ _ (Stp.ex e (e1.trans e2)) i))⟩
    by_cases q : b = l
    · subst q
      rw [upd_same] at hb ⊢
      exact hb
    · rw [upd_ne q] at hb ⊢
      exact e3 b o hb⟩
/-! ### loops -/
/-- what holds between two turns: the slots S i a, the known part P i a -/
def LN (I : Hp → Hp → Prop) {α : Type} (S : Nat → α → St) (P : Nat → α → Hp) (W : Nat → α → Prop) (i : Nat) : St → Hp → Prop := fun σ H => ∃ a, σ = S i a ∧ W i a ∧ Ex (P i a) H ∧ I (P i a) H
theorem LN.mk {α : Type} {S : Nat → α → St} {P : Nat → α → Hp} {W : Nat → α → Prop} {n : Nat} (a : α) (e : σ = S n a) (eG : G = P n a) (w : W n a) : GoN I (LN I S P W n) σ G := fun H e1 i => ⟨a, e, w, by rw [← eG]; exact e1, by rw [← eG]; exact i⟩
theorem go_for {α : Type} {J : It} {wi : TI} {g : TG} {n : Nat} {Gd : Hp → Prop} {Y : Nat → Hp → V → Hp → Prop} (w : Walk J n Gd Y) (S : Nat → α → St) (P : Nat → α → Hp) (W : Nat → α → Prop) (a0 : α) (hσ : σ = S 0 a0) (hG : G = P 0 a0) (w0 : W 0 a0) (hI : Cl I)
    (hwi : ∀ H, Ex G H → ∀ R : It → Hp → Prop, (∀ H1, Ex H H1 → R J H1) → wi σ H R) (hGd : ∀ i a H, i ≤ n → W i a → Ex (P i a) H → Gd H)
    (hs : ∀ i a x H H', i < n → W i a → Ex (P i a) H → I (P i a) H → Y i H x H' → g x (S i a) H' fun σ2 H2 => tu { D with nx := LN I S P W (i + 1), ct := LN I S P W (i + 1), bk := tz D } σ2 H2)
    (hd : ∀ a, W n a → Go I tz D (S n a) (P n a)) : Go I (tSeq (tFor wi g tu) tz) D σ G := fun H e i =>
  hwi H e _ fun H1 e1 => for_it w (D := { D with nx := tz D }) (LN I S P W) ⟨a0, hσ, w0, by rw [← hG]; exact e.trans e1, by rw [← hG]; exact hI _ _ _ _ (Stp.ex e e1) i⟩
    (fun k σ' H' hk ⟨a, _, wa, ea, _⟩ => hGd k a H' hk wa ea) (fun k x σ' H' H2 hk ⟨a, es, wa, ea, ia⟩ y => by subst es; exact hs k a x H' H2 hk wa ea ia y) (fun σ' H' ⟨a, es, wa, ea, ia⟩ => by subst es; exact hd a wa H' ea ia)
theorem go_for1 {α : Type} {J : It} {wi : TI} {g : TG} {n : Nat} {Gd : Hp → Prop} {Y : Nat → Hp → V → Hp → Prop} (w : Walk J n Gd Y) (S : Nat → α → St) (P : Nat → α → Hp) (W : Nat → α → Prop) (a0 : α) (hσ : σ = S 0 a0) (hG : G = P 0 a0) (w0 : W 0 a0) (hI : Cl I)
    (hwi : ∀ H, Ex G H → ∀ R : It → Hp → Prop, (∀ H1, Ex H H1 → R J H1) → wi σ H R) (hGd : ∀ i a H, i ≤ n → W i a → Ex (P i a) H → Gd H)
    (hs : ∀ i a x H H', i < n → W i a → Ex (P i a) H → I (P i a) H → Y i H x H' → g x (S i a) H' fun σ2 H2 => tu { D with nx := LN I S P W (i + 1), ct := LN I S P W (i + 1), bk := D.nx } σ2 H2)
    (hd : ∀ a, W n a → GoN I D.nx (S n a) (P n a)) : Go I (tFor wi g tu) D σ G := fun H e i =>
  hwi H e _ fun H1 e1 => for_it w (LN I S P W) ⟨a0, hσ, w0, by rw [← hG]; exact e.trans e1, by rw [← hG]; exact hI _ _ _ _ (Stp.ex e e1) i⟩
    (fun k σ' H' hk ⟨a, _, wa, ea, _⟩ => hGd k a H' hk wa ea) (fun k x σ' H' H2 hk ⟨a, es, wa, ea, ia⟩ y => by subst es; exact hs k a x H' H2 hk wa ea ia y) (fun σ' H' ⟨a, es, wa, ea, ia⟩ => by subst es; exact hd a wa H' ea ia)
/-- for x in t, t a tuple -/
theorem go_forT {α : Type} {tl : TE} {m : Nat} {p : Addr} {xs : List V} (S : Nat → α → St) (P : Nat → α → Hp) (W : Nat → α → Prop) (a0 : α) (hσ : σ = S 0 a0) (hG : G = P 0 a0) (w0 : W 0 a0) (hI : Cl I) (h : Ev tl σ G (.ref p)) (hx : ∀ i a, W i a → SqT K (P i a) p xs)
    (hs : ∀ i a x, xs[i]? = some x → W i a → Go I tu { D with nx := LN I S P W (i + 1), ct := LN I S P W (i + 1), bk := tz D } ((S i a).set m (some x)) (P i a))
    (hd : ∀ a, W xs.length a → Go I tz D (S xs.length a) (P xs.length a)) : Go I (tSeq (tFor (iTup K tl) (gName m) tu) tz) D σ G :=
  go_for walk_tup S P W a0 hσ hG w0 hI (fun H e R q => h H e _ fun H1 e1 => ⟨p, rfl, ⟨xs, ex_t (e.trans e1) (by rw [hG]; exact hx 0 a0 w0)⟩, q H1 e1⟩) (fun i a H _ wa ea => ex_t ea (hx i a wa))
    (fun i a x H H' hi wa ea ia y => by obtain ⟨e1, y⟩ := y; subst e1; exact hs i a x y wa H' ea ia) hd
theorem go_forL {α : Type} {tl : TE} {m : Nat} {p : Addr} {xs : List V} (S : Nat → α → St) (P : Nat → α → Hp) (W : Nat → α → Prop) (a0 : α) (hσ : σ = S 0 a0) (hG : G = P 0 a0) (w0 : W 0 a0) (hI : Cl I) (h : Ev tl σ G (.ref p)) (hx : ∀ i a, W i a → SqL K (P i a) p xs)
    (hs : ∀ i a x, xs[i]? = some x → W i a → Go I tu { D with nx := LN I S P W (i + 1), ct := LN I S P W (i + 1), bk := tz D } ((S i a).set m (some x)) (P i a))
    (hd : ∀ a, W xs.length a → Go I tz D (S xs.length a) (P xs.length a)) : Go I (tSeq (tFor (iList K tl) (gName m) tu) tz) D σ G :=
  go_for walk_list S P W a0 hσ hG w0 hI (fun H e R q => h H e _ fun H1 e1 => ⟨p, rfl, ⟨xs, ex_l (e.trans e1) (by rw [hG]; exact hx 0 a0 w0)⟩, q H1 e1⟩) (fun i a H _ wa ea => ex_l ea (hx i a wa))
    (fun i a x H H' hi wa ea ia y => by obtain ⟨e1, y⟩ := y; subst e1; exact hs i a x y wa H' ea ia) hd
/-- over a new list | a new tuple, of the for's own making -/
theorem go_forNL {α : Type} {tl : TE} {m : Nat} {xs : List V} (S : Nat → α → St) (W : Nat → α → Prop) (a0 : α) (hσ : σ = S 0 a0) (w0 : W 0 a0) (hI : Cl I) (h : EvL tl σ G xs)
    (hs : ∀ p i a x, G p = none → xs[i]? = some x → W i a → Go I tu { D with nx := LN I S (fun _ _ => upd G p (.lst xs)) W (i + 1), ct := LN I S (fun _ _ => upd G p (.lst xs)) W (i + 1), bk := tz D } ((S i a).set m (some x)) (upd G p (.lst xs)))
    (hd : ∀ p a, G p = none → W xs.length a → Go I tz D (S xs.length a) (upd G p (.lst xs))) : Go I (tSeq (tFor (iList K tl) (gName m) tu) tz) D σ G := fun H e i =>
  h H e _ fun p H1 hp e1 h1 => ⟨p, rfl, ⟨xs, sq_of h1⟩, by
    have hg := fresh_back e hp
    have s := Stp.take e hp e1 h1
    exact for_it walk_list (D := { D with nx := tz D }) (LN I S (fun _ _ => upd G p (.lst xs)) W) ⟨a0, hσ, w0, s.2.2.1, hI _ _ _ _ s i⟩ (fun k σ' H' hk ⟨a, _, wa, ea, _⟩ => sq_of (ea p _ upd_same))
      (fun k x σ' H' H2 hk ⟨a, es, wa, ea, ia⟩ y => by subst es; obtain ⟨e1, y⟩ := y; subst e1; exact hs p k a x hg y wa H2 ea ia) (fun σ' H' ⟨a, es, wa, ea, ia⟩ => by subst es; exact hd p a hg wa H' ea ia)⟩
theorem go_forNT {α : Type} {tl : TE} {m : Nat} {xs : List V} (S : Nat → α → St) (W : Nat → α → Prop) (a0 : α) (hσ : σ = S 0 a0) (w0 : W 0 a0) (hI : Cl I) (h : EvU tl σ G xs)
    (hs : ∀ p i a x, G p = none → xs[i]? = some x → W i a → Go I tu { D with nx := LN I S (fun _ _ => upd G p (.tup xs)) W (i + 1), ct := LN I S (fun _ _ => upd G p (.tup xs)) W (i + 1), bk := tz D } ((S i a).set m (some x)) (upd G p (.tup xs)))
    (hd : ∀ p a, G p = none → W xs.length a → Go I tz D (S xs.length a) (upd G p (.tup xs))) : Go I (tSeq (tFor (iTup K tl) (gName m) tu) tz) D σ G := fun H e i =>
  h H e _ fun p H1 hp e1 h1 => ⟨p, rfl, ⟨xs, st_of h1⟩, by
    have hg := fresh_back e hp
    have s := Stp.take e hp e1 h1
    exact for_it walk_tup (D := { D with nx := tz D }) (LN I S (fun _ _ => upd G p (.tup xs)) W) ⟨a0, hσ, w0, s.2.2.1, hI _ _ _ _ s i⟩ (fun k σ' H' hk ⟨a, _, wa, ea, _⟩ => st_of (ea p _ upd_same))
      (fun k x σ' H' H2 hk ⟨a, es, wa, ea, ia⟩ y => by subst es; obtain ⟨e1, y⟩ := y; subst e1; exact hs p k a x hg y wa H2 ea ia) (fun σ' H' ⟨a, es, wa, ea, ia⟩ => by subst es; exact hd p a hg wa H' ea ia)⟩
theorem go_forR {α : Type} {ts : TA} {m : Nat} {n : Nat} (S : Nat → α → St) (P : Nat → α → Hp) (W : Nat → α → Prop) (a0 : α) (hσ : σ = S 0 a0) (hG : G = P 0 a0) (w0 : W 0 a0) (hI : Cl I) (h : EvA ts σ G [.int (n : Int)]) (hn : n ≤ 100000)
    (hs : ∀ i a, i < n → W i a → Go I tu { D with nx := LN I S P W (i + 1), ct := LN I S P W (i + 1), bk := tz D } ((S i a).set m (some (.int (i : Int)))) (P i a))
    (hd : ∀ a, W n a → Go I tz D (S n a) (P n a)) : Go I (tSeq (tFor (iRng1 ts) (gName m) tu) tz) D σ G :=
  go_for (J := Itr 0 (n : Int).toNat) (n := n) (Gd := fun _ => True) (Y := YFn fun i => .int (0 + (i : Int))) (by rw [Int.toNat_natCast]; exact walk_range) S P W a0 hσ hG w0 hI (fun H e R q => h H e _ fun H1 e1 => ⟨(n : Int), rfl, by omega, by omega, q H1 e1⟩) (fun _ _ _ _ _ _ => trivial)
    (fun i a x H H' hi wa ea ia y => by
      obtain ⟨e1, y⟩ := y
      subst e1 y
      have e0 : (0 : Int) + (i : Int) = (i : Int) := Int.zero_add _
      show tu _ ((S i a).set m (some (.int ((0 : Int) + (i : Int))))) H'
      rw [e0]
      exact hs i a hi wa H' ea ia) hd
theorem walk_enumT {a : Addr} {xs : List V} : Walk (IteT K a) xs.length (fun H => SqT K H a xs) (YPair (fun i => some (.int (i : Nat))) (fun i => xs[i]?)) := by
  refine ⟨fun i _ hi q => ⟨xs, xs[i], q, by simp [hi]⟩, fun _ q => ⟨xs, q, Nat.le_refl _⟩, fun i H v H' _ q y => ?_⟩
  obtain ⟨T, x, h1, h2, h3, h4⟩ := y
  exact ⟨T, .int (i : Nat), x, h1, h2, h3, rfl, h4 xs q⟩
/-- for i, x in enumerate(t), t a tuple -/
theorem go_forE {α : Type} {ta : TE} {m l : Nat} {p : Addr} {xs : List V} (S : Nat → α → St) (W : Nat → α → Prop) (a0 : α) (hσ : σ = S 0 a0) (w0 : W 0 a0) (hI : Cl I) (h : Ev ta σ G (.ref p)) (hx : SqT K G p xs)
    (hs : ∀ i a x, xs[i]? = some x → W i a → Go I tu { D with nx := LN I S (fun _ _ => G) W (i + 1), ct := LN I S (fun _ _ => G) W (i + 1), bk := tz D } (((S i a).set m (some (.int (i : Int)))).set l (some x)) G)
    (hd : ∀ a, W xs.length a → Go I tz D (S xs.length a) G) : Go I (tSeq (tFor (iEnumT K (tCons ta tNil)) (gTup K 2 (gCons (gName m) (gCons (gName l) gNil))) tu) tz) D σ G :=
  go_for walk_enumT S (fun _ _ => G) W a0 hσ rfl w0 hI (fun H e R q => h H e _ fun H1 e1 => ⟨p, xs, rfl, ex_t (e.trans e1) hx, q H1 e1⟩) (fun i a H _ wa ea => ex_t ea hx)
    (fun i a x H H' hi wa ea ia y => by
      obtain ⟨T, x1, x2, e1, hT, e2, y1, y2⟩ := y
      subst e1 e2
      have q1 : V.int (i : Int) = x1 := Option.some.inj y1
      subst q1
      exact ⟨T, _, rfl, st_of upd_same, rfl, _, _, rfl, _, _, rfl, rfl, hs i a x2 y2 wa _ (ea.trans (Ex.new hT)) (hI _ _ _ _ (Stp.ex ea (Ex.new hT)) ia)⟩) hd
theorem go_forE1 {α : Type} {ta : TE} {m l : Nat} {p : Addr} {xs : List V} (S : Nat → α → St) (W : Nat → α → Prop) (a0 : α) (hσ : σ = S 0 a0) (w0 : W 0 a0) (hI : Cl I) (h : Ev ta σ G (.ref p)) (hx : SqT K G p xs)
    (hs : ∀ i a x, xs[i]? = some x → W i a → Go I tu { D with nx := LN I S (fun _ _ => G) W (i + 1), ct := LN I S (fun _ _ => G) W (i + 1), bk := D.nx } (((S i a).set m (some (.int (i : Int)))).set l (some x)) G)
    (hd : ∀ a, W xs.length a → GoN I D.nx (S xs.length a) G) : Go I (tFor (iEnumT K (tCons ta tNil)) (gTup K 2 (gCons (gName m) (gCons (gName l) gNil))) tu) D σ G :=
  go_for1 walk_enumT S (fun _ _ => G) W a0 hσ rfl w0 hI (fun H e R q => h H e _ fun H1 e1 => ⟨p, xs, rfl, ex_t (e.trans e1) hx, q H1 e1⟩) (fun i a H _ wa ea => ex_t ea hx)
    (fun i a x H H' hi wa ea ia y => by
      obtain ⟨T, x1, x2, e1, hT, e2, y1, y2⟩ := y
      subst e1 e2
      have q1 : V.int (i : Int) = x1 := Option.some.inj y1
      subst q1
      exact ⟨T, _, rfl, st_of upd_same, rfl, _, _, rfl, _, _, rfl, rfl, hs i a x2 y2 wa _ (ea.trans (Ex.new hT)) (hI _ _ _ _ (Stp.ex ea (Ex.new hT)) ia)⟩) hd
/-- while -/
def WN (I : Hp → Hp → Prop) {α : Type} (S : α → St) (P : α → Hp) (W : α → Prop) (μ : α → Nat) (a : α) : St → Hp → Prop := fun σ H => ∃ b, σ = S b ∧ W b ∧ μ b < μ a ∧ Ex (P b) H ∧ I (P b) H
theorem WN.mk {α : Type} {S : α → St} {P : α → Hp} {W : α → Prop} {μ : α → Nat} {a : α} (b : α) (e : σ = S b) (eG : G = P b) (w : W b) (m : μ b < μ a) : GoN I (WN I S P W μ a) σ G := fun H e1 i => ⟨b, e, w, m, by rw [← eG]; exact e1, by rw [← eG]; exact i⟩
theorem go_while {α : Type} (S : α → St) (P : α → Hp) (W : α → Prop) (μ : α → Nat) (a0 : α) (hσ : σ = S a0) (hG : G = P a0) (w0 : W a0) (hI : Cl I) (f : α → Bool)
    (hs : ∀ a, W a → EvT c (S a) (P a) (f a) ∧ (f a = true → Go I tu { D with nx := WN I S P W μ a, ct := WN I S P W μ a, bk := tz D } (S a) (P a)) ∧ (f a = false → Go I tz D (S a) (P a))) :
    Go I (tSeq (tWhile c tu) tz) D σ G := fun H e i => by
  refine ⟨fun m σ' H' => ∃ a, m = μ a ∧ σ' = S a ∧ W a ∧ Ex (P a) H' ∧ I (P a) H', ⟨μ a0, a0, rfl, hσ, w0, by rw [← hG]; exact e, by rw [← hG]; exact i⟩, fun m σ' H' ⟨a, em, es, wa, ea, ia⟩ => ?_⟩
  subst em es
  obtain ⟨h1, h2, h3⟩ := hs a wa
  refine h1 H' ea _ fun H1 e1 => ?_
  have i1 := hI _ _ _ _ (Stp.ex ea e1) ia
  cases hf : f a with
  | true => exact ⟨WN I S P W μ a, fun σ2 H2 ⟨b, es, wb, mb, eb, ib⟩ => ⟨μ b, mb, b, rfl, es, wb, eb, ib⟩, h2 hf H1 (ea.trans e1) i1⟩
  | false => exact h3 hf H1 (ea.trans e1) i1
end
end Lm
end
section
set_option Elab.async false
set_option linter.all false
set_option maxRecDepth 100000
set_option maxHeartbeats 2000000
namespace Lm
open PySem PySem.Spec L2 Evl
/-! ### the text by places -/
def top (i : Nat) : Stmt := PySem.Challenge.pw_labelmoves_k36_whole_lengths_of_thirty_f.main.body.getD i (.Pass ⟨0, 0, 0, 0⟩)
abbrev s_is_integer : Stmt := top 22
abbrev s_is_number : Stmt := top 23
abbrev s_is_between : Stmt := top 24
abbrev s_check_number : Stmt := top 25
abbrev s_is_way : Stmt := top 26
abbrev s_common_divisor : Stmt := top 27
abbrev s_common_multiple : Stmt := top 28
abbrev s_divisors_of : Stmt := top 30
abbrev s_check_bases : Stmt := top 33
abbrev s_is_row : Stmt := top 34
abbrev s_check_rows : Stmt := top 35
abbrev s_numbers_of : Stmt := top 36
abbrev s_skipped_in : Stmt := top 37
abbrev s_is_again : Stmt := top 38
abbrev s_is_amount : Stmt := top 46
abbrev s_is_step : Stmt := top 47
abbrev s_house_behind : Stmt := top 48
abbrev s_wrong_step : Stmt := top 49
abbrev s_value_of : Stmt := top 50
abbrev s_round_of : Stmt := top 51
abbrev s_least_through : Stmt := top 52
abbrev s_check_houses : Stmt := top 56
abbrev s_check_steps : Stmt := top 57
abbrev s_led_to : Stmt := top 58
abbrev s_first_kept : Stmt := top 59
abbrev s_is_round : Stmt := top 60
abbrev s_check_move : Stmt := top 64
abbrev s_stretches : Stmt := top 66
abbrev s_stretch : Stmt := top 67
abbrev s__law_vase : Stmt := top 69
abbrev s__law_pour : Stmt := top 70
abbrev s__law_pluck : Stmt := top 71
abbrev s__law_divisor : Stmt := top 72
abbrev s__law_multiple : Stmt := top 73
abbrev s__law_ground : Stmt := top 74
abbrev s__law_lanes : Stmt := top 75
abbrev s__law_gap : Stmt := top 76
abbrev s__law_place_house : Stmt := top 77
abbrev s__law_house : Stmt := top 78
abbrev s__law_spot : Stmt := top 79
abbrev s__law_near : Stmt := top 80
abbrev s__law_built : Stmt := top 81
abbrev s__law_size : Stmt := top 82
abbrev s__law_parts : Stmt := top 83
abbrev s__law_through : Stmt := top 84
abbrev s__law_stride : Stmt := top 85
abbrev s__law_homes : Stmt := top 86
abbrev s__law_strides : Stmt := top 87
abbrev s__law_value : Stmt := top 88
abbrev s__law_move : Stmt := top 89
abbrev s__law_again : Stmt := top 90
abbrev s__law_start : Stmt := top 91
abbrev s__law_same : Stmt := top 92
abbrev s__law_right : Stmt := top 93
abbrev s_law : Stmt := top 94
abbrev s_House___init__ : Stmt := inClass (top 39) 0
abbrev s_House_unit : Stmt := inClass (top 39) 5
abbrev s_House_group_of : Stmt := inClass (top 39) 6
abbrev s_House_place_of : Stmt := inClass (top 39) 7
abbrev s_House_near : Stmt := inClass (top 39) 9
abbrev s_Move___init__ : Stmt := inClass (top 61) 0
abbrev s_Move_value : Stmt := inClass (top 61) 7
def d_is_integer : He.DefD := ⟨("is_integer", none), "is_integer", "is_integer", defArgs s_is_integer, defBody s_is_integer, defScope s_is_integer, [], []⟩
def d_is_number : He.DefD := ⟨("is_number", none), "is_number", "is_number", defArgs s_is_number, defBody s_is_number, defScope s_is_number, [], []⟩
def d_is_between : He.DefD := ⟨("is_between", none), "is_between", "is_between", defArgs s_is_between, defBody s_is_between, defScope s_is_between, [], []⟩
def d_check_number : He.DefD := ⟨("check_number", none), "check_number", "check_number", defArgs s_check_number, defBody s_check_number, defScope s_check_number, [], []⟩
def d_is_way : He.DefD := ⟨("is_way", none), "is_way", "is_way", defArgs s_is_way, defBody s_is_way, defScope s_is_way, [], []⟩
def d_common_divisor : He.DefD := ⟨("common_divisor", none), "common_divisor", "common_divisor", defArgs s_common_divisor, defBody s_common_divisor, defScope s_common_divisor, [], []⟩
def d_common_multiple : He.DefD := ⟨("common_multiple", none), "common_multiple", "common_multiple", defArgs s_common_multiple, defBody s_common_multiple, defScope s_common_multiple, [], []⟩
def d_divisors_of : He.DefD := ⟨("divisors_of", none), "divisors_of", "divisors_of", defArgs s_divisors_of, defBody s_divisors_of, defScope s_divisors_of, [], []⟩
def d_check_bases : He.DefD := ⟨("check_bases", none), "check_bases", "check_bases", defArgs s_check_bases, defBody s_check_bases, defScope s_check_bases, [], []⟩
def d_is_row : He.DefD := ⟨("is_row", none), "is_row", "is_row", defArgs s_is_row, defBody s_is_row, defScope s_is_row, [], []⟩
def d_check_rows : He.DefD := ⟨("check_rows", none), "check_rows", "check_rows", defArgs s_check_rows, defBody s_check_rows, defScope s_check_rows, [], []⟩
def d_numbers_of : He.DefD := ⟨("numbers_of", none), "numbers_of", "numbers_of", defArgs s_numbers_of, defBody s_numbers_of, defScope s_numbers_of, [], []⟩
def d_skipped_in : He.DefD := ⟨("skipped_in", none), "skipped_in", "skipped_in", defArgs s_skipped_in, defBody s_skipped_in, defScope s_skipped_in, [], []⟩
def d_is_again : He.DefD := ⟨("is_again", none), "is_again", "is_again", defArgs s_is_again, defBody s_is_again, defScope s_is_again, [], []⟩
def d_is_amount : He.DefD := ⟨("is_amount", none), "is_amount", "is_amount", defArgs s_is_amount, defBody s_is_amount, defScope s_is_amount, [], []⟩
def d_is_step : He.DefD := ⟨("is_step", none), "is_step", "is_step", defArgs s_is_step, defBody s_is_step, defScope s_is_step, [], []⟩
def d_house_behind : He.DefD := ⟨("house_behind", none), "house_behind", "house_behind", defArgs s_house_behind, defBody s_house_behind, defScope s_house_behind, [], []⟩
def d_wrong_step : He.DefD := ⟨("wrong_step", none), "wrong_step", "wrong_step", defArgs s_wrong_step, defBody s_wrong_step, defScope s_wrong_step, [], []⟩
def d_value_of : He.DefD := ⟨("value_of", none), "value_of", "value_of", defArgs s_value_of, defBody s_value_of, defScope s_value_of, [], []⟩
def d_round_of : He.DefD := ⟨("round_of", none), "round_of", "round_of", defArgs s_round_of, defBody s_round_of, defScope s_round_of, [], []⟩
def d_least_through : He.DefD := ⟨("least_through", none), "least_through", "least_through", defArgs s_least_through, defBody s_least_through, defScope s_least_through, [], []⟩
def d_check_houses : He.DefD := ⟨("check_houses", none), "check_houses", "check_houses", defArgs s_check_houses, defBody s_check_houses, defScope s_check_houses, [], []⟩
def d_check_steps : He.DefD := ⟨("check_steps", none), "check_steps", "check_steps", defArgs s_check_steps, defBody s_check_steps, defScope s_check_steps, [], []⟩
def d_led_to : He.DefD := ⟨("led_to", none), "led_to", "led_to", defArgs s_led_to, defBody s_led_to, defScope s_led_to, [], []⟩
def d_first_kept : He.DefD := ⟨("first_kept", none), "first_kept", "first_kept", defArgs s_first_kept, defBody s_first_kept, defScope s_first_kept, [], []⟩
def d_is_round : He.DefD := ⟨("is_round", none), "is_round", "is_round", defArgs s_is_round, defBody s_is_round, defScope s_is_round, [], []⟩
def d_check_move : He.DefD := ⟨("check_move", none), "check_move", "check_move", defArgs s_check_move, defBody s_check_move, defScope s_check_move, [], []⟩
def d_stretches : He.DefD := ⟨("stretches", none), "stretches", "stretches", defArgs s_stretches, defBody s_stretches, defScope s_stretches, [], []⟩
def d_stretch : He.DefD := ⟨("stretch", none), "stretch", "stretch", defArgs s_stretch, defBody s_stretch, defScope s_stretch, [], []⟩
def d__law_vase : He.DefD := ⟨("_law_vase", none), "_law_vase", "_law_vase", defArgs s__law_vase, defBody s__law_vase, defScope s__law_vase, [], []⟩
def d__law_pour : He.DefD := ⟨("_law_pour", none), "_law_pour", "_law_pour", defArgs s__law_pour, defBody s__law_pour, defScope s__law_pour, [], []⟩
def d__law_pluck : He.DefD := ⟨("_law_pluck", none), "_law_pluck", "_law_pluck", defArgs s__law_pluck, defBody s__law_pluck, defScope s__law_pluck, [], []⟩
def d__law_divisor : He.DefD := ⟨("_law_divisor", none), "_law_divisor", "_law_divisor", defArgs s__law_divisor, defBody s__law_divisor, defScope s__law_divisor, [], []⟩
def d__law_multiple : He.DefD := ⟨("_law_multiple", none), "_law_multiple", "_law_multiple", defArgs s__law_multiple, defBody s__law_multiple, defScope s__law_multiple, [], []⟩
def d__law_ground : He.DefD := ⟨("_law_ground", none), "_law_ground", "_law_ground", defArgs s__law_ground, defBody s__law_ground, defScope s__law_ground, [], []⟩
def d__law_lanes : He.DefD := ⟨("_law_lanes", none), "_law_lanes", "_law_lanes", defArgs s__law_lanes, defBody s__law_lanes, defScope s__law_lanes, [], []⟩
def d__law_gap : He.DefD := ⟨("_law_gap", none), "_law_gap", "_law_gap", defArgs s__law_gap, defBody s__law_gap, defScope s__law_gap, [], []⟩
def d__law_place_house : He.DefD := ⟨("_law_place_house", none), "_law_place_house", "_law_place_house", defArgs s__law_place_house, defBody s__law_place_house, defScope s__law_place_house, [], []⟩
def d__law_house : He.DefD := ⟨("_law_house", none), "_law_house", "_law_house", defArgs s__law_house, defBody s__law_house, defScope s__law_house, [], []⟩
def d__law_spot : He.DefD := ⟨("_law_spot", none), "_law_spot", "_law_spot", defArgs s__law_spot, defBody s__law_spot, defScope s__law_spot, [], []⟩
def d__law_near : He.DefD := ⟨("_law_near", none), "_law_near", "_law_near", defArgs s__law_near, defBody s__law_near, defScope s__law_near, [], []⟩
def d__law_built : He.DefD := ⟨("_law_built", none), "_law_built", "_law_built", defArgs s__law_built, defBody s__law_built, defScope s__law_built, [], []⟩
def d__law_size : He.DefD := ⟨("_law_size", none), "_law_size", "_law_size", defArgs s__law_size, defBody s__law_size, defScope s__law_size, [], []⟩
def d__law_parts : He.DefD := ⟨("_law_parts", none), "_law_parts", "_law_parts", defArgs s__law_parts, defBody s__law_parts, defScope s__law_parts, [], []⟩
def d__law_through : He.DefD := ⟨("_law_through", none), "_law_through", "_law_through", defArgs s__law_through, defBody s__law_through, defScope s__law_through, [], []⟩
def d__law_stride : He.DefD := ⟨("_law_stride", none), "_law_stride", "_law_stride", defArgs s__law_stride, defBody s__law_stride, defScope s__law_stride, [], []⟩
def d__law_homes : He.DefD := ⟨("_law_homes", none), "_law_homes", "_law_homes", defArgs s__law_homes, defBody s__law_homes, defScope s__law_homes, [], []⟩
def d__law_strides : He.DefD := ⟨("_law_strides", none), "_law_strides", "_law_strides", defArgs s__law_strides, defBody s__law_strides, defScope s__law_strides, [], []⟩
def d__law_value : He.DefD := ⟨("_law_value", none), "_law_value", "_law_value", defArgs s__law_value, defBody s__law_value, defScope s__law_value, [], []⟩
def d__law_move : He.DefD := ⟨("_law_move", none), "_law_move", "_law_move", defArgs s__law_move, defBody s__law_move, defScope s__law_move, [], []⟩
def d__law_again : He.DefD := ⟨("_law_again", none), "_law_again", "_law_again", defArgs s__law_again, defBody s__law_again, defScope s__law_again, [], []⟩
def d__law_start : He.DefD := ⟨("_law_start", none), "_law_start", "_law_start", defArgs s__law_start, defBody s__law_start, defScope s__law_start, [], []⟩
def d__law_same : He.DefD := ⟨("_law_same", none), "_law_same", "_law_same", defArgs s__law_same, defBody s__law_same, defScope s__law_same, [], []⟩
def d__law_right : He.DefD := ⟨("_law_right", none), "_law_right", "_law_right", defArgs s__law_right, defBody s__law_right, defScope s__law_right, [], []⟩
def d_law : He.DefD := ⟨("law", none), "law", "law", defArgs s_law, defBody s_law, defScope s_law, [], []⟩
def d_House___init__ : He.DefD := ⟨("House", some "__init__"), "__init__", "House.__init__", defArgs s_House___init__, defBody s_House___init__, defScope s_House___init__, [.adr (He.dflAt ("House", some "__init__") 0)], []⟩
def d_House_unit : He.DefD := ⟨("House", some "unit"), "unit", "House.unit", defArgs s_House_unit, defBody s_House_unit, defScope s_House_unit, [], []⟩
def d_House_group_of : He.DefD := ⟨("House", some "group_of"), "group_of", "House.group_of", defArgs s_House_group_of, defBody s_House_group_of, defScope s_House_group_of, [], []⟩
def d_House_place_of : He.DefD := ⟨("House", some "place_of"), "place_of", "House.place_of", defArgs s_House_place_of, defBody s_House_place_of, defScope s_House_place_of, [], []⟩
def d_House_near : He.DefD := ⟨("House", some "near"), "near", "House.near", defArgs s_House_near, defBody s_House_near, defScope s_House_near, [], []⟩
def d_Move___init__ : He.DefD := ⟨("Move", some "__init__"), "__init__", "Move.__init__", defArgs s_Move___init__, defBody s_Move___init__, defScope s_Move___init__, [.adr (He.dflAt ("Move", some "__init__") 0)], []⟩
def d_Move_value : He.DefD := ⟨("Move", some "value"), "value", "Move.value", defArgs s_Move_value, defBody s_Move_value, defScope s_Move_value, [], []⟩
/-! ### what the walk asks of the module -/
structure Tx (K : PySem.W.Frag) (w : World) (mg : Str → Option Value) : Prop where
  f_isinstance : mg "isinstance" = none
  f_len : mg "len" = none
  f_divmod : mg "divmod" = none
  f_any : mg "any" = none
  f_all : mg "all" = none
  f_abs : mg "abs" = none
  f_max : mg "max" = none
  f_min : mg "min" = none
  f_sorted : mg "sorted" = none
  f_repr : mg "repr" = none
  f_enumerate : mg "enumerate" = none
  f_zip : mg "zip" = none
  f_range : mg "range" = none
  f_int : mg "int" = none
  f_bool : mg "bool" = none
  f_tuple : mg "tuple" = none
  f_str : mg "str" = none
  m_MOST_BASES : ∃ t, mg "MOST_BASES" = some (.int 3 t)
  m_MOST_ROWS : ∃ t, mg "MOST_ROWS" = some (.int 6 t)
  m_MOST_GROUPS : ∃ t, mg "MOST_GROUPS" = some (.int 7200 t)
  m_MOST_HOUSES : ∃ t, mg "MOST_HOUSES" = some (.int 3 t)
  m_MOST_STEPS : ∃ t, mg "MOST_STEPS" = some (.int 8 t)
  m_MOST_ROUND : ∃ t, mg "MOST_ROUND" = some (.int 20000 t)
  m_MOST_BASE : ∃ t, mg "MOST_BASE" = some (.int 60 t)
  m_MOST_AMOUNT : ∃ t, mg "MOST_AMOUNT" = some (.int 10000000000000000000000000000000000000000 t)
  m_MOST_RATE : ∃ t, mg "MOST_RATE" = some (.int 100 t)
  m_WAYS : mg "WAYS" = some (.ref (He.ga K "WAYS"))
  ways : ∀ H : Hp, SqT K H (He.ga K "WAYS") [.str "next", .str "last"]
  m_FORMS : mg "FORMS" = some (.ref (He.ga K "FORMS"))
  forms : ∃ es n, KDict K w (He.ga K "FORMS") es n
  fo_on : ∃ u, PySem.W.nsIn K (He.ga K "FORMS") "on" = some (some u) ∧ RelV (.int 2) u
  fo_back : ∃ u, PySem.W.nsIn K (He.ga K "FORMS") "back" = some (some u) ∧ RelV (.int 2) u
  fo_label : ∃ u, PySem.W.nsIn K (He.ga K "FORMS") "label" = some (some u) ∧ RelV (.int 3) u
  fo_unlabel : ∃ u, PySem.W.nsIn K (He.ga K "FORMS") "unlabel" = some (some u) ∧ RelV (.int 3) u
  fo_to : ∃ u, PySem.W.nsIn K (He.ga K "FORMS") "to" = some (some u) ∧ RelV (.int 2) u
  fo_after : ∃ u, PySem.W.nsIn K (He.ga K "FORMS") "after" = some (some u) ∧ RelV (.int 2) u
  fo_read : ∃ u, PySem.W.nsIn K (He.ga K "FORMS") "read" = some (some u) ∧ RelV (.int 3) u
  fo_call : ∃ u, PySem.W.nsIn K (He.ga K "FORMS") "call" = some (some u) ∧ RelV (.int 2) u
  fo_rate : ∃ u, PySem.W.nsIn K (He.ga K "FORMS") "rate" = some (some u) ∧ RelV (.int 3) u
  m_House : mg "House" = some (.ref (He.ga K "House"))
  c_House : Cls K (He.ga K "House")
  mk_House : Mk K (He.ga K "House") (He.ma K (He.ga K "House") "__init__")
  ty_House : PySem.W.findIn K (.ref (He.ga K "House")) "__class__" = some (some (.builtin "object.__class__")) ∧ PySem.W.mroIn K (He.ga K "House") (.type "object") = some true
  n_House_parts : NoAttr K (He.ga K "House") "parts"
  n_House_lots : NoAttr K (He.ga K "House") "lots"
  n_House_last : NoAttr K (He.ga K "House") "last"
  n_House_groups : NoAttr K (He.ga K "House") "groups"
  n_House_skips : NoAttr K (He.ga K "House") "skips"
  n_House_opens : NoAttr K (He.ga K "House") "opens"
  n_House_frames : NoAttr K (He.ga K "House") "frames"
  n_House_places : NoAttr K (He.ga K "House") "places"
  m_Move : mg "Move" = some (.ref (He.ga K "Move"))
  c_Move : Cls K (He.ga K "Move")
  mk_Move : Mk K (He.ga K "Move") (He.ma K (He.ga K "Move") "__init__")
  ty_Move : PySem.W.findIn K (.ref (He.ga K "Move")) "__class__" = some (some (.builtin "object.__class__")) ∧ PySem.W.mroIn K (He.ga K "Move") (.type "object") = some true
  n_Move_through : NoAttr K (He.ga K "Move") "through"
  n_Move_becomes : NoAttr K (He.ga K "Move") "becomes"
  n_Move_homes : NoAttr K (He.ga K "Move") "homes"
  n_Move_path : NoAttr K (He.ga K "Move") "path"
  n_Move_start : NoAttr K (He.ga K "Move") "start"
  n_Move_table : NoAttr K (He.ga K "Move") "table"
  n_Move_turn : NoAttr K (He.ga K "Move") "turn"
  n_Move_goal : NoAttr K (He.ga K "Move") "goal"
  tyo : PySem.W.specialIn K (.builtin "object.__class__") "__get__" = some (some (.builtin "getset_descriptor.__get__")) ∧ PySem.W.takesIn K (.builtin "object.__class__") = some true
  me_House_unit : Meth K (He.ga K "House") "unit" (He.ma K (He.ga K "House") "unit")
  me_House_group_of : Meth K (He.ga K "House") "group_of" (He.ma K (He.ga K "House") "group_of")
  me_House_place_of : Meth K (He.ga K "House") "place_of" (He.ma K (He.ga K "House") "place_of")
  me_House_near : Meth K (He.ga K "House") "near" (He.ma K (He.ga K "House") "near")
  me_Move_value : Meth K (He.ga K "Move") "value" (He.ma K (He.ga K "Move") "value")
  g_is_integer : mg "is_integer" = some (.ref (He.ga K "is_integer"))
  g_is_number : mg "is_number" = some (.ref (He.ga K "is_number"))
  g_is_between : mg "is_between" = some (.ref (He.ga K "is_between"))
  g_check_number : mg "check_number" = some (.ref (He.ga K "check_number"))
  g_is_way : mg "is_way" = some (.ref (He.ga K "is_way"))
  g_common_divisor : mg "common_divisor" = some (.ref (He.ga K "common_divisor"))
  g_common_multiple : mg "common_multiple" = some (.ref (He.ga K "common_multiple"))
  g_divisors_of : mg "divisors_of" = some (.ref (He.ga K "divisors_of"))
  g_check_bases : mg "check_bases" = some (.ref (He.ga K "check_bases"))
  g_is_row : mg "is_row" = some (.ref (He.ga K "is_row"))
  g_check_rows : mg "check_rows" = some (.ref (He.ga K "check_rows"))
  g_numbers_of : mg "numbers_of" = some (.ref (He.ga K "numbers_of"))
  g_skipped_in : mg "skipped_in" = some (.ref (He.ga K "skipped_in"))
  g_is_again : mg "is_again" = some (.ref (He.ga K "is_again"))
  g_is_amount : mg "is_amount" = some (.ref (He.ga K "is_amount"))
  g_is_step : mg "is_step" = some (.ref (He.ga K "is_step"))
  g_house_behind : mg "house_behind" = some (.ref (He.ga K "house_behind"))
  g_wrong_step : mg "wrong_step" = some (.ref (He.ga K "wrong_step"))
  g_value_of : mg "value_of" = some (.ref (He.ga K "value_of"))
  g_round_of : mg "round_of" = some (.ref (He.ga K "round_of"))
  g_least_through : mg "least_through" = some (.ref (He.ga K "least_through"))
  g_check_houses : mg "check_houses" = some (.ref (He.ga K "check_houses"))
  g_check_steps : mg "check_steps" = some (.ref (He.ga K "check_steps"))
  g_led_to : mg "led_to" = some (.ref (He.ga K "led_to"))
  g_first_kept : mg "first_kept" = some (.ref (He.ga K "first_kept"))
  g_is_round : mg "is_round" = some (.ref (He.ga K "is_round"))
  g_check_move : mg "check_move" = some (.ref (He.ga K "check_move"))
  g_stretches : mg "stretches" = some (.ref (He.ga K "stretches"))
  g_stretch : mg "stretch" = some (.ref (He.ga K "stretch"))
  g__law_vase : mg "_law_vase" = some (.ref (He.ga K "_law_vase"))
  g__law_pour : mg "_law_pour" = some (.ref (He.ga K "_law_pour"))
  g__law_pluck : mg "_law_pluck" = some (.ref (He.ga K "_law_pluck"))
  g__law_divisor : mg "_law_divisor" = some (.ref (He.ga K "_law_divisor"))
  g__law_multiple : mg "_law_multiple" = some (.ref (He.ga K "_law_multiple"))
  g__law_ground : mg "_law_ground" = some (.ref (He.ga K "_law_ground"))
  g__law_lanes : mg "_law_lanes" = some (.ref (He.ga K "_law_lanes"))
  g__law_gap : mg "_law_gap" = some (.ref (He.ga K "_law_gap"))
  g__law_place_house : mg "_law_place_house" = some (.ref (He.ga K "_law_place_house"))
  g__law_house : mg "_law_house" = some (.ref (He.ga K "_law_house"))
  g__law_spot : mg "_law_spot" = some (.ref (He.ga K "_law_spot"))
  g__law_near : mg "_law_near" = some (.ref (He.ga K "_law_near"))
  g__law_built : mg "_law_built" = some (.ref (He.ga K "_law_built"))
  g__law_size : mg "_law_size" = some (.ref (He.ga K "_law_size"))
  g__law_parts : mg "_law_parts" = some (.ref (He.ga K "_law_parts"))
  g__law_through : mg "_law_through" = some (.ref (He.ga K "_law_through"))
  g__law_stride : mg "_law_stride" = some (.ref (He.ga K "_law_stride"))
  g__law_homes : mg "_law_homes" = some (.ref (He.ga K "_law_homes"))
  g__law_strides : mg "_law_strides" = some (.ref (He.ga K "_law_strides"))
  g__law_value : mg "_law_value" = some (.ref (He.ga K "_law_value"))
  g__law_move : mg "_law_move" = some (.ref (He.ga K "_law_move"))
  g__law_again : mg "_law_again" = some (.ref (He.ga K "_law_again"))
  g__law_start : mg "_law_start" = some (.ref (He.ga K "_law_start"))
  g__law_same : mg "_law_same" = some (.ref (He.ga K "_law_same"))
  g__law_right : mg "_law_right" = some (.ref (He.ga K "_law_right"))
  g_law : mg "law" = some (.ref (He.ga K "law"))
  d_is_integer : ∃ fd, FunD K d_is_integer.name d_is_integer.qual d_is_integer.params d_is_integer.body d_is_integer.scope (d_is_integer.dvs K) (d_is_integer.kws K) (He.fAd K d_is_integer.at_) fd
  d_is_number : ∃ fd, FunD K d_is_number.name d_is_number.qual d_is_number.params d_is_number.body d_is_number.scope (d_is_number.dvs K) (d_is_number.kws K) (He.fAd K d_is_number.at_) fd
  d_is_between : ∃ fd, FunD K d_is_between.name d_is_between.qual d_is_between.params d_is_between.body d_is_between.scope (d_is_between.dvs K) (d_is_between.kws K) (He.fAd K d_is_between.at_) fd
  d_check_number : ∃ fd, FunD K d_check_number.name d_check_number.qual d_check_number.params d_check_number.body d_check_number.scope (d_check_number.dvs K) (d_check_number.kws K) (He.fAd K d_check_number.at_) fd
  d_is_way : ∃ fd, FunD K d_is_way.name d_is_way.qual d_is_way.params d_is_way.body d_is_way.scope (d_is_way.dvs K) (d_is_way.kws K) (He.fAd K d_is_way.at_) fd
  d_common_divisor : ∃ fd, FunD K d_common_divisor.name d_common_divisor.qual d_common_divisor.params d_common_divisor.body d_common_divisor.scope (d_common_divisor.dvs K) (d_common_divisor.kws K) (He.fAd K d_common_divisor.at_) fd
  d_common_multiple : ∃ fd, FunD K d_common_multiple.name d_common_multiple.qual d_common_multiple.params d_common_multiple.body d_common_multiple.scope (d_common_multiple.dvs K) (d_common_multiple.kws K) (He.fAd K d_common_multiple.at_) fd
  d_divisors_of : ∃ fd, FunD K d_divisors_of.name d_divisors_of.qual d_divisors_of.params d_divisors_of.body d_divisors_of.scope (d_divisors_of.dvs K) (d_divisors_of.kws K) (He.fAd K d_divisors_of.at_) fd
  d_check_bases : ∃ fd, FunD K d_check_bases.name d_check_bases.qual d_check_bases.params d_check_bases.body d_check_bases.scope (d_check_bases.dvs K) (d_check_bases.kws K) (He.fAd K d_check_bases.at_) fd
  d_is_row : ∃ fd, FunD K d_is_row.name d_is_row.qual d_is_row.params d_is_row.body d_is_row.scope (d_is_row.dvs K) (d_is_row.kws K) (He.fAd K d_is_row.at_) fd
  d_check_rows : ∃ fd, FunD K d_check_rows.name d_check_rows.qual d_check_rows.params d_check_rows.body d_check_rows.scope (d_check_rows.dvs K) (d_check_rows.kws K) (He.fAd K d_check_rows.at_) fd
  d_numbers_of : ∃ fd, FunD K d_numbers_of.name d_numbers_of.qual d_numbers_of.params d_numbers_of.body d_numbers_of.scope (d_numbers_of.dvs K) (d_numbers_of.kws K) (He.fAd K d_numbers_of.at_) fd
  d_skipped_in : ∃ fd, FunD K d_skipped_in.name d_skipped_in.qual d_skipped_in.params d_skipped_in.body d_skipped_in.scope (d_skipped_in.dvs K) (d_skipped_in.kws K) (He.fAd K d_skipped_in.at_) fd
  d_is_again : ∃ fd, FunD K d_is_again.name d_is_again.qual d_is_again.params d_is_again.body d_is_again.scope (d_is_again.dvs K) (d_is_again.kws K) (He.fAd K d_is_again.at_) fd
  d_is_amount : ∃ fd, FunD K d_is_amount.name d_is_amount.qual d_is_amount.params d_is_amount.body d_is_amount.scope (d_is_amount.dvs K) (d_is_amount.kws K) (He.fAd K d_is_amount.at_) fd
  d_is_step : ∃ fd, FunD K d_is_step.name d_is_step.qual d_is_step.params d_is_step.body d_is_step.scope (d_is_step.dvs K) (d_is_step.kws K) (He.fAd K d_is_step.at_) fd
  d_house_behind : ∃ fd, FunD K d_house_behind.name d_house_behind.qual d_house_behind.params d_house_behind.body d_house_behind.scope (d_house_behind.dvs K) (d_house_behind.kws K) (He.fAd K d_house_behind.at_) fd
  d_wrong_step : ∃ fd, FunD K d_wrong_step.name d_wrong_step.qual d_wrong_step.params d_wrong_step.body d_wrong_step.scope (d_wrong_step.dvs K) (d_wrong_step.kws K) (He.fAd K d_wrong_step.at_) fd
  d_value_of : ∃ fd, FunD K d_value_of.name d_value_of.qual d_value_of.params d_value_of.body d_value_of.scope (d_value_of.dvs K) (d_value_of.kws K) (He.fAd K d_value_of.at_) fd
  d_round_of : ∃ fd, FunD K d_round_of.name d_round_of.qual d_round_of.params d_round_of.body d_round_of.scope (d_round_of.dvs K) (d_round_of.kws K) (He.fAd K d_round_of.at_) fd
  d_least_through : ∃ fd, FunD K d_least_through.name d_least_through.qual d_least_through.params d_least_through.body d_least_through.scope (d_least_through.dvs K) (d_least_through.kws K) (He.fAd K d_least_through.at_) fd
  d_check_houses : ∃ fd, FunD K d_check_houses.name d_check_houses.qual d_check_houses.params d_check_houses.body d_check_houses.scope (d_check_houses.dvs K) (d_check_houses.kws K) (He.fAd K d_check_houses.at_) fd
  d_check_steps : ∃ fd, FunD K d_check_steps.name d_check_steps.qual d_check_steps.params d_check_steps.body d_check_steps.scope (d_check_steps.dvs K) (d_check_steps.kws K) (He.fAd K d_check_steps.at_) fd
  d_led_to : ∃ fd, FunD K d_led_to.name d_led_to.qual d_led_to.params d_led_to.body d_led_to.scope (d_led_to.dvs K) (d_led_to.kws K) (He.fAd K d_led_to.at_) fd
  d_first_kept : ∃ fd, FunD K d_first_kept.name d_first_kept.qual d_first_kept.params d_first_kept.body d_first_kept.scope (d_first_kept.dvs K) (d_first_kept.kws K) (He.fAd K d_first_kept.at_) fd
  d_is_round : ∃ fd, FunD K d_is_round.name d_is_round.qual d_is_round.params d_is_round.body d_is_round.scope (d_is_round.dvs K) (d_is_round.kws K) (He.fAd K d_is_round.at_) fd
  d_check_move : ∃ fd, FunD K d_check_move.name d_check_move.qual d_check_move.params d_check_move.body d_check_move.scope (d_check_move.dvs K) (d_check_move.kws K) (He.fAd K d_check_move.at_) fd
  d_stretches : ∃ fd, FunD K d_stretches.name d_stretches.qual d_stretches.params d_stretches.body d_stretches.scope (d_stretches.dvs K) (d_stretches.kws K) (He.fAd K d_stretches.at_) fd
  d_stretch : ∃ fd, FunD K d_stretch.name d_stretch.qual d_stretch.params d_stretch.body d_stretch.scope (d_stretch.dvs K) (d_stretch.kws K) (He.fAd K d_stretch.at_) fd
  d__law_vase : ∃ fd, FunD K d__law_vase.name d__law_vase.qual d__law_vase.params d__law_vase.body d__law_vase.scope (d__law_vase.dvs K) (d__law_vase.kws K) (He.fAd K d__law_vase.at_) fd
  d__law_pour : ∃ fd, FunD K d__law_pour.name d__law_pour.qual d__law_pour.params d__law_pour.body d__law_pour.scope (d__law_pour.dvs K) (d__law_pour.kws K) (He.fAd K d__law_pour.at_) fd
  d__law_pluck : ∃ fd, FunD K d__law_pluck.name d__law_pluck.qual d__law_pluck.params d__law_pluck.body d__law_pluck.scope (d__law_pluck.dvs K) (d__law_pluck.kws K) (He.fAd K d__law_pluck.at_) fd
  d__law_divisor : ∃ fd, FunD K d__law_divisor.name d__law_divisor.qual d__law_divisor.params d__law_divisor.body d__law_divisor.scope (d__law_divisor.dvs K) (d__law_divisor.kws K) (He.fAd K d__law_divisor.at_) fd
  d__law_multiple : ∃ fd, FunD K d__law_multiple.name d__law_multiple.qual d__law_multiple.params d__law_multiple.body d__law_multiple.scope (d__law_multiple.dvs K) (d__law_multiple.kws K) (He.fAd K d__law_multiple.at_) fd
  d__law_ground : ∃ fd, FunD K d__law_ground.name d__law_ground.qual d__law_ground.params d__law_ground.body d__law_ground.scope (d__law_ground.dvs K) (d__law_ground.kws K) (He.fAd K d__law_ground.at_) fd
  d__law_lanes : ∃ fd, FunD K d__law_lanes.name d__law_lanes.qual d__law_lanes.params d__law_lanes.body d__law_lanes.scope (d__law_lanes.dvs K) (d__law_lanes.kws K) (He.fAd K d__law_lanes.at_) fd
  d__law_gap : ∃ fd, FunD K d__law_gap.name d__law_gap.qual d__law_gap.params d__law_gap.body d__law_gap.scope (d__law_gap.dvs K) (d__law_gap.kws K) (He.fAd K d__law_gap.at_) fd
  d__law_place_house : ∃ fd, FunD K d__law_place_house.name d__law_place_house.qual d__law_place_house.params d__law_place_house.body d__law_place_house.scope (d__law_place_house.dvs K) (d__law_place_house.kws K) (He.fAd K d__law_place_house.at_) fd
  d__law_house : ∃ fd, FunD K d__law_house.name d__law_house.qual d__law_house.params d__law_house.body d__law_house.scope (d__law_house.dvs K) (d__law_house.kws K) (He.fAd K d__law_house.at_) fd
  d__law_spot : ∃ fd, FunD K d__law_spot.name d__law_spot.qual d__law_spot.params d__law_spot.body d__law_spot.scope (d__law_spot.dvs K) (d__law_spot.kws K) (He.fAd K d__law_spot.at_) fd
  d__law_near : ∃ fd, FunD K d__law_near.name d__law_near.qual d__law_near.params d__law_near.body d__law_near.scope (d__law_near.dvs K) (d__law_near.kws K) (He.fAd K d__law_near.at_) fd
  d__law_built : ∃ fd, FunD K d__law_built.name d__law_built.qual d__law_built.params d__law_built.body d__law_built.scope (d__law_built.dvs K) (d__law_built.kws K) (He.fAd K d__law_built.at_) fd
  d__law_size : ∃ fd, FunD K d__law_size.name d__law_size.qual d__law_size.params d__law_size.body d__law_size.scope (d__law_size.dvs K) (d__law_size.kws K) (He.fAd K d__law_size.at_) fd
  d__law_parts : ∃ fd, FunD K d__law_parts.name d__law_parts.qual d__law_parts.params d__law_parts.body d__law_parts.scope (d__law_parts.dvs K) (d__law_parts.kws K) (He.fAd K d__law_parts.at_) fd
  d__law_through : ∃ fd, FunD K d__law_through.name d__law_through.qual d__law_through.params d__law_through.body d__law_through.scope (d__law_through.dvs K) (d__law_through.kws K) (He.fAd K d__law_through.at_) fd
  d__law_stride : ∃ fd, FunD K d__law_stride.name d__law_stride.qual d__law_stride.params d__law_stride.body d__law_stride.scope (d__law_stride.dvs K) (d__law_stride.kws K) (He.fAd K d__law_stride.at_) fd
  d__law_homes : ∃ fd, FunD K d__law_homes.name d__law_homes.qual d__law_homes.params d__law_homes.body d__law_homes.scope (d__law_homes.dvs K) (d__law_homes.kws K) (He.fAd K d__law_homes.at_) fd
  d__law_strides : ∃ fd, FunD K d__law_strides.name d__law_strides.qual d__law_strides.params d__law_strides.body d__law_strides.scope (d__law_strides.dvs K) (d__law_strides.kws K) (He.fAd K d__law_strides.at_) fd
  d__law_value : ∃ fd, FunD K d__law_value.name d__law_value.qual d__law_value.params d__law_value.body d__law_value.scope (d__law_value.dvs K) (d__law_value.kws K) (He.fAd K d__law_value.at_) fd
  d__law_move : ∃ fd, FunD K d__law_move.name d__law_move.qual d__law_move.params d__law_move.body d__law_move.scope (d__law_move.dvs K) (d__law_move.kws K) (He.fAd K d__law_move.at_) fd
  d__law_again : ∃ fd, FunD K d__law_again.name d__law_again.qual d__law_again.params d__law_again.body d__law_again.scope (d__law_again.dvs K) (d__law_again.kws K) (He.fAd K d__law_again.at_) fd
  d__law_start : ∃ fd, FunD K d__law_start.name d__law_start.qual d__law_start.params d__law_start.body d__law_start.scope (d__law_start.dvs K) (d__law_start.kws K) (He.fAd K d__law_start.at_) fd
  d__law_same : ∃ fd, FunD K d__law_same.name d__law_same.qual d__law_same.params d__law_same.body d__law_same.scope (d__law_same.dvs K) (d__law_same.kws K) (He.fAd K d__law_same.at_) fd
  d__law_right : ∃ fd, FunD K d__law_right.name d__law_right.qual d__law_right.params d__law_right.body d__law_right.scope (d__law_right.dvs K) (d__law_right.kws K) (He.fAd K d__law_right.at_) fd
  d_law : ∃ fd, FunD K d_law.name d_law.qual d_law.params d_law.body d_law.scope (d_law.dvs K) (d_law.kws K) (He.fAd K d_law.at_) fd
  d_House___init__ : ∃ fd, FunD K d_House___init__.name d_House___init__.qual d_House___init__.params d_House___init__.body d_House___init__.scope (d_House___init__.dvs K) (d_House___init__.kws K) (He.fAd K d_House___init__.at_) fd
  d_House_unit : ∃ fd, FunD K d_House_unit.name d_House_unit.qual d_House_unit.params d_House_unit.body d_House_unit.scope (d_House_unit.dvs K) (d_House_unit.kws K) (He.fAd K d_House_unit.at_) fd
  d_House_group_of : ∃ fd, FunD K d_House_group_of.name d_House_group_of.qual d_House_group_of.params d_House_group_of.body d_House_group_of.scope (d_House_group_of.dvs K) (d_House_group_of.kws K) (He.fAd K d_House_group_of.at_) fd
  d_House_place_of : ∃ fd, FunD K d_House_place_of.name d_House_place_of.qual d_House_place_of.params d_House_place_of.body d_House_place_of.scope (d_House_place_of.dvs K) (d_House_place_of.kws K) (He.fAd K d_House_place_of.at_) fd
  d_House_near : ∃ fd, FunD K d_House_near.name d_House_near.qual d_House_near.params d_House_near.body d_House_near.scope (d_House_near.dvs K) (d_House_near.kws K) (He.fAd K d_House_near.at_) fd
  d_Move___init__ : ∃ fd, FunD K d_Move___init__.name d_Move___init__.qual d_Move___init__.params d_Move___init__.body d_Move___init__.scope (d_Move___init__.dvs K) (d_Move___init__.kws K) (He.fAd K d_Move___init__.at_) fd
  d_Move_value : ∃ fd, FunD K d_Move_value.name d_Move_value.qual d_Move_value.params d_Move_value.body d_Move_value.scope (d_Move_value.dvs K) (d_Move_value.kws K) (He.fAd K d_Move_value.at_) fd
/-! ### promises with what a call asks -/
structure Kp (P : Program) (w : World) (K : PySem.W.Frag) (mg : Str → Option Value) (base : Heap) (k : Nat) (x : Str) (ps : List Str) (sp : Sp) : Prop where
  ex : ∃ (f : Addr) (fd : FuncData), mg x = some (.ref f) ∧ PySem.W.keepIn K (.ref f) = true ∧ Binds K fd ps [] ∧ FnOk P w K mg base CX0 k f fd ps sp
structure KpG (P : Program) (w : World) (K : PySem.W.Frag) (mg : Str → Option Value) (base : Heap) (k : Nat) (x : Str) (ps : List Str) (sp : Sp) : Prop where
  ex : ∃ (f : Addr) (fd : FuncData), mg x = some (.ref f) ∧ PySem.W.keepIn K (.ref f) = true ∧ Binds K fd ps [] ∧ FnG P w K mg base CX0 k f fd ps sp
structure Mp (P : Program) (w : World) (K : PySem.W.Frag) (mg : Str → Option Value) (base : Heap) (k : Nat) (C : Addr) (m : Str) (ps : List Str) (sp : Sp) : Prop where
  cl : Cls K C
  ex : ∃ (f : Addr) (fd : FuncData), Meth K C m f ∧ Binds K fd ps [] ∧ FnOk P w K mg base CX0 k f fd ps sp
structure Np (P : Program) (w : World) (K : PySem.W.Frag) (mg : Str → Option Value) (base : Heap) (k : Nat) (C : Addr) (x : Str) (ps : List Str) (sp : Sp) : Prop where
  ex : ∃ (f : Addr) (fd : FuncData), Mk K C f ∧ mg x = some (.ref C) ∧ Binds K fd ps [] ∧ FnOk P w K mg base CX0 k f fd ps sp
section
variable {X : Cx} {k : Nat} {ps : List Str} {sp : Sp} {x m : Str} {p pos apos : Pos} {e o : Expr} {es : List Expr} {ta : TE} {t : TA} {C : Addr}
theorem pe_kall (F : Kp X.prog X.w X.K X.mg X.base k x ps sp) (hr : Room k X.A) (hg : Gl X x) (ha : PA X (e :: es) t) (hdb : (x == ("__debug__" : Str)) = false := by decide) (he : starEach (e :: es) X.env = (false, eval e X.env) :: starEach es X.env := by rfl) (hpl : (backTo pos (starEach es X.env)).any (·.1) = false := by rfl) :
    PE X (.Call (.Name x p) (e :: es) [] pos) (tCall sp [] E0 t) := by
  obtain ⟨f, fd, h1, h2, h3, h4⟩ := F.ex
  exact pe_call h4 hr hg h1 h2 h3 .nil pass0 ha hdb he hpl
theorem pe_kallG (F : KpG X.prog X.w X.K X.mg X.base k x ps sp) (hgd : X.A.guards = some []) (hr : Room k X.A) (hg : Gl X x) (ha : PA X (e :: es) t) (hdb : (x == ("__debug__" : Str)) = false := by decide) (he : starEach (e :: es) X.env = (false, eval e X.env) :: starEach es X.env := by rfl) (hpl : (backTo pos (starEach es X.env)).any (·.1) = false := by rfl) :
    PE X (.Call (.Name x p) (e :: es) [] pos) (tCall sp [] E0 t) := by
  obtain ⟨f, fd, h1, h2, h3, h4⟩ := F.ex
  exact pe_callG h4 hgd hr hg h1 h2 h3 .nil pass0 ha hdb he hpl
theorem pe_km {pl : Sem Bool} (F : Mp X.prog X.w X.K X.mg X.base k C m ps sp) (hr : Room k X.A) (he : PE X o ta) (ha : PA X (e :: es) t)
    (hst : starEach (e :: es) X.env = (false, eval e X.env) :: starEach es X.env := by rfl) (hpl : (backTo pos (starEach es X.env)).any (·.1) = false := by rfl)
    (ht : eval (.Call (.Attribute o m apos) (e :: es) [] pos) X.env = (do
      let ov ← eval o X.env
      standAt apos.atName
      let (f, first) ← holding [ov] (getMethod ov m pl)
      callWith pos f first (backTo pos (starEach (e :: es) X.env)) (backToKw pos (keywordEach [] X.env))) := by rfl) :
    PE X (.Call (.Attribute o m apos) (e :: es) [] pos) (tMeth C m sp [] E0 ta t) := by
  obtain ⟨f, fd, h2, h3, h4⟩ := F.ex
  exact pe_meth (pl := pl) he F.cl h2 h4 hr h3 .nil pass0 ha hst hpl ht
theorem pe_km0 {pl : Sem Bool} (F : Mp X.prog X.w X.K X.mg X.base k C m ps sp) (hr : Room k X.A) (he : PE X o ta)
    (ht : eval (.Call (.Attribute o m apos) [] [] pos) X.env = (do
      let ov ← eval o X.env
      standAt apos.atName
      let (f, first) ← holding [ov] (getMethod ov m pl)
      callWith pos f first (backTo pos (starEach [] X.env)) (backToKw pos (keywordEach [] X.env))) := by rfl) :
    PE X (.Call (.Attribute o m apos) [] [] pos) (tMeth C m sp [] E0 ta tNil) := by
  obtain ⟨f, fd, h2, h3, h4⟩ := F.ex
  exact pe_meth0 (pl := pl) he F.cl h2 h4 hr h3 .nil pass0 ht
theorem pe_kmake (F : Np X.prog X.w X.K X.mg X.base k C x ps sp) (hr : Room (k + 1) X.A) (hg : Gl X x) (ha : PA X (e :: es) t) (hdb : (x == ("__debug__" : Str)) = false := by decide) (he : starEach (e :: es) X.env = (false, eval e X.env) :: starEach es X.env := by rfl) (hpl : (backTo pos (starEach es X.env)).any (·.1) = false := by rfl) :
    PE X (.Call (.Name x p) (e :: es) [] pos) (tMake C sp [] E0 t) := by
  obtain ⟨f, fd, h1, h2, h3, h4⟩ := F.ex
  exact pe_make h1 h4 hr hg h2 h3 .nil pass0 ha hdb he hpl
theorem pe_globI {i : Int} (h : ∃ t, X.mg x = some (.int i t)) (hg : Gl X x := by rfl) (hd : (x == ("__debug__" : Str)) = false := by decide) : PE X (.Name x pos) (tC (.int i)) := by
  obtain ⟨t, h⟩ := h
  exact pe_glob hg h ⟨t, rfl⟩ hd
end
end Lm
end
section
set_option Elab.async false
set_option linter.all false
set_option maxRecDepth 100000
set_option maxHeartbeats 0
namespace Lm
open PySem PySem.Spec L2 Evl
/-! ### what is looked at -/
def wanted : List Str := (["is_integer", "is_number", "is_between", "check_number", "is_way", "common_divisor", "common_multiple", "divisors_of", "check_bases", "is_row"] : List Str) ++ (["check_rows", "numbers_of", "skipped_in", "is_again", "is_amount", "is_step", "house_behind", "wrong_step", "value_of", "round_of"] : List Str) ++ (["least_through", "check_houses", "check_steps", "led_to", "first_kept", "is_round", "check_move", "stretches", "stretch", "_law_vase"] : List Str) ++ (["_law_pour", "_law_pluck", "_law_divisor", "_law_multiple", "_law_ground", "_law_lanes", "_law_gap", "_law_place_house", "_law_house", "_law_spot"] : List Str) ++ (["_law_near", "_law_built", "_law_size", "_law_parts", "_law_through", "_law_stride", "_law_homes", "_law_strides", "_law_value", "_law_move"] : List Str) ++ (["_law_again", "_law_start", "_law_same", "_law_right", "law", "House", "Move", "WAYS", "FORMS"] : List Str)
def methN : List (Str × Str) := [("House", "__init__"), ("House", "unit"), ("House", "group_of"), ("House", "place_of"), ("House", "near"), ("Move", "__init__"), ("Move", "value")]
def namedBy (g : Addr → Option Obj) (as : List Addr) : List Addr := as.flatMap fun a => match g a with
  | some o => He.refsD o
  | none => []
def seenAt (g : Addr → Option Obj) : List Addr :=
  let K0 := He.frG g [mainGlobals]
  let l1 := wanted.map (He.ga K0)
  let l2 := namedBy g l1
  let K1 := He.frG g (mainGlobals :: (l1 ++ l2))
  let l3 := methN.map fun p => He.ma K1 (He.ga K1 p.1) p.2
  (mainGlobals :: (l1 ++ (l3 ++ (l2 ++ namedBy g l3)))).eraseDups
def SEEN : Unit := ()
def fa : List He.Fa := ([.free "isinstance", .free "len", .free "divmod", .free "any", .free "all", .free "abs", .free "max", .free "min", .free "sorted", .free "repr"] : List He.Fa) ++ ([.free "enumerate", .free "zip", .free "range", .free "int", .free "bool", .free "tuple", .free "str", .int "MOST_BASES" 3, .int "MOST_ROWS" 6, .int "MOST_GROUPS" 7200] : List He.Fa) ++ ([.int "MOST_HOUSES" 3, .int "MOST_STEPS" 8, .int "MOST_ROUND" 20000, .int "MOST_BASE" 60, .int "MOST_AMOUNT" 10000000000000000000000000000000000000000, .int "MOST_RATE" 100, .glo "is_integer", .glo "is_number", .glo "is_between", .glo "check_number"] : List He.Fa) ++ ([.glo "is_way", .glo "common_divisor", .glo "common_multiple", .glo "divisors_of", .glo "check_bases", .glo "is_row", .glo "check_rows", .glo "numbers_of", .glo "skipped_in", .glo "is_again"] : List He.Fa) ++ ([.glo "is_amount", .glo "is_step", .glo "house_behind", .glo "wrong_step", .glo "value_of", .glo "round_of", .glo "least_through", .glo "check_houses", .glo "check_steps", .glo "led_to"] : List He.Fa) ++ ([.glo "first_kept", .glo "is_round", .glo "check_move", .glo "stretches", .glo "stretch", .glo "_law_vase", .glo "_law_pour", .glo "_law_pluck", .glo "_law_divisor", .glo "_law_multiple"] : List He.Fa) ++ ([.glo "_law_ground", .glo "_law_lanes", .glo "_law_gap", .glo "_law_place_house", .glo "_law_house", .glo "_law_spot", .glo "_law_near", .glo "_law_built", .glo "_law_size", .glo "_law_parts"] : List He.Fa) ++ ([.glo "_law_through", .glo "_law_stride", .glo "_law_homes", .glo "_law_strides", .glo "_law_value", .glo "_law_move", .glo "_law_again", .glo "_law_start", .glo "_law_same", .glo "_law_right"] : List He.Fa) ++ ([.glo "law", .glo "House", .glo "Move", .glo "WAYS", .glo "FORMS", .cls "House", .mkr "House", .noat "House" "parts", .noat "House" "lots", .noat "House" "last"] : List He.Fa) ++ ([.noat "House" "groups", .noat "House" "skips", .noat "House" "opens", .noat "House" "frames", .noat "House" "places", .cls "Move", .mkr "Move", .noat "Move" "through", .noat "Move" "becomes", .noat "Move" "homes"] : List He.Fa) ++ ([.noat "Move" "path", .noat "Move" "start", .noat "Move" "table", .noat "Move" "turn", .noat "Move" "goal", .meth "House" "unit", .meth "House" "group_of", .meth "House" "place_of", .meth "House" "near", .meth "Move" "value"] : List He.Fa)
def fn : List He.DefD := ([d_is_integer, d_is_number, d_is_between, d_check_number, d_is_way, d_common_divisor, d_common_multiple, d_divisors_of, d_check_bases, d_is_row] : List He.DefD) ++ ([d_check_rows, d_numbers_of, d_skipped_in, d_is_again, d_is_amount, d_is_step, d_house_behind, d_wrong_step, d_value_of, d_round_of] : List He.DefD) ++ ([d_least_through, d_check_houses, d_check_steps, d_led_to, d_first_kept, d_is_round, d_check_move, d_stretches, d_stretch, d__law_vase] : List He.DefD) ++ ([d__law_pour, d__law_pluck, d__law_divisor, d__law_multiple, d__law_ground, d__law_lanes, d__law_gap, d__law_place_house, d__law_house, d__law_spot] : List He.DefD) ++ ([d__law_near, d__law_built, d__law_size, d__law_parts, d__law_through, d__law_stride, d__law_homes, d__law_strides, d__law_value, d__law_move] : List He.DefD) ++ ([d__law_again, d__law_start, d__law_same, d__law_right, d_law, d_House___init__, d_House_unit, d_House_group_of, d_House_place_of, d_House_near] : List He.DefD) ++ ([d_Move___init__, d_Move_value] : List He.DefD)
def ts : List He.Tab := [(fun K => He.ga K "FORMS", ["on", "back", "label", "unlabel", "to", "after", "read", "call", "rate"])]
def intAt (K : PySem.W.Frag) (a : Addr) (x : Str) (i : Int) : Bool := match PySem.W.nsIn K a x with
  | some (some (.int j _)) => decide (j = i)
  | _ => false
theorem intAt_ok {K : PySem.W.Frag} {a : Addr} {x : Str} {i : Int} (h : intAt K a x i = true) : ∃ u, PySem.W.nsIn K a x = some (some u) ∧ RelV (.int i) u := by
  unfold intAt at h
  cases e : PySem.W.nsIn K a x with
  | none => rw [e] at h; cases h
  | some o =>
    rw [e] at h
    cases o with
    | none => cases h
    | some v =>
      cases v with
      | int j t =>
        have ej : j = i := of_decide_eq_true h
        exact ⟨_, rfl, t, by rw [ej]⟩
      | _ => cases h
def clsB (K : PySem.W.Frag) (x : Str) : Bool := He.eqO (PySem.W.findIn K (.ref (He.ga K x)) "__class__") (some (some (.builtin "object.__class__"))) && decide (PySem.W.mroIn K (He.ga K x) (.type "object") = some true)
def getB (K : PySem.W.Frag) : Bool := He.eqO (PySem.W.specialIn K (.builtin "object.__class__") "__get__") (some (some (.builtin "getset_descriptor.__get__"))) && decide (PySem.W.takesIn K (.builtin "object.__class__") = some true)
def formB : List (Str × Int) := [("on", 2), ("back", 2), ("label", 3), ("unlabel", 3), ("to", 2), ("after", 2), ("read", 3), ("call", 2), ("rate", 3)]
def ex (K : PySem.W.Frag) : Bool := He.tupB K "WAYS" [.str "next", .str "last"] && (formB.all (fun p => intAt K (He.ga K "FORMS") p.1 p.2) && (clsB K "House" && (clsB K "Move" && getB K)))
abbrev AlK : Type := He.AlT × Bool
def obsK (g : Addr → Option Obj) : AlK := (He.obsT fa fn ts (He.frG g (seenAt g)), ex (He.frG g (seenAt g)))
def SaysK (w : World) (K : PySem.W.Frag) : Prop := He.SaysT fa fn ts w K ∧ ex K = true
def hk : PySem.W.Hook where
  α := AlK
  obs := fun s => obsK s.heap.get?
  val := fun w => (He.valT fn ts w, true)
  says := fun w h => ∃ K : PySem.W.Frag, K.In h ∧ SaysK w K
  of := fun _ _ e => ⟨_, He.frG_in, congrArg (fun z : AlK => z.1) e, congrArg (fun z : AlK => z.2) e⟩
  keeps := fun _ _ _ ⟨K, hK, c⟩ k => ⟨K, PySem.W.Frag.In.keeps hK k, c⟩
abbrev RR : PySem.W.OpenRow := PySem.W.OpenLaw.row PySem.Challenge.rw_labelmoves_k36_whole_lengths_of_thirty_f
def ob (s : PySem.W.SharedT) : AlK := obsK (HandSHeadRun.getT s)
theorem ob_eq (s : PySem.W.SharedT) : ob s = hk.obs s.abs := by
  have e : HandSHeadRun.getT s = s.abs.heap.get? := funext (HandSHeadRun.getT_eq s)
  unfold ob
  rw [e] <;> rfl
def loose : List Str := (["_wall", "WrongValue", "NotAMove", "InvalidLabel", "InvalidText", "InvalidNumber", "InvalidBases", "InvalidRows", "InvalidHouses", "InvalidSteps", "NoAnswer", "TooLong"] : List Str) ++ (["MOST_BASES", "MOST_ROWS", "MOST_GROUPS", "MOST_HOUSES", "MOST_STEPS", "MOST_ROUND", "WAYS", "FIGURES", "is_integer", "is_number", "is_between", "check_number"] : List Str) ++ (["is_way", "common_divisor", "common_multiple", "number_in", "divisors_of", "MOST_BASE", "check_bases", "is_row", "check_rows", "numbers_of", "skipped_in", "is_again"] : List Str) ++ (["House", "house_of", "house_in", "MOST_AMOUNT", "MOST_RATE", "FORMS", "is_amount", "is_step", "house_behind", "wrong_step", "value_of", "round_of"] : List Str) ++ (["least_through", "step_in", "line_of", "check_houses", "check_steps", "led_to", "first_kept", "is_round", "Move", "houses_in", "move_in", "check_move"] : List Str) ++ (["stretches", "stretch", "_law_vase", "_law_pour", "_law_pluck", "_law_divisor", "_law_multiple", "_law_ground", "_law_lanes", "_law_gap", "_law_place_house", "_law_house"] : List Str) ++ (["_law_spot", "_law_near", "_law_built", "_law_size", "_law_parts", "_law_through", "_law_stride", "_law_homes", "_law_strides", "_law_value", "_law_move", "_law_again"] : List Str) ++ (["_law_start", "_law_same", "_law_right"] : List Str)
theorem runT (w : World) : HandSHeadRun.RunEq RR (PySem.W.view RR.prog [94]) hk ob 8000 loose (w.withFollow "special-get-raises" true) := by
  intro os
  kernel_rfl
theorem runF (w : World) : HandSHeadRun.RunEq RR (PySem.W.view RR.prog [94]) hk ob 8000 loose (w.withFollow "special-get-raises" false) := by
  intro os
  kernel_rfl
theorem run (w : World) : HandSHeadRun.RunEq RR (PySem.W.view RR.prog [94]) hk ob 8000 loose w := by
  have h : HandSHeadRun.RunEq RR (PySem.W.view RR.prog [94]) hk ob 8000 loose (w.withFollow "special-get-raises" (w.params.followText "special-get-raises")) := by
    cases w.params.followText "special-get-raises"
    · exact runF w
    · exact runT w
  rwa [World.withFollow_self] at h
end Lm
end
section
set_option Elab.async false
set_option linter.all false
set_option maxRecDepth 100000
set_option maxHeartbeats 2000000
namespace Lm
open PySem PySem.Spec L2 Evl
theorem tx_of {w : World} {K : PySem.W.Frag} {h : Heap} {mg : Str → Option Value} (X : K.In h) (G : h.Ns mainGlobals mg) (c : SaysK w K) : Tx K w mg := by
  obtain ⟨ct, ce⟩ := c
  have cd := ct.d
  obtain ⟨c1, c2⟩ := He.ba ce
  obtain ⟨c2, c3⟩ := He.ba c2
  obtain ⟨c3, c4⟩ := He.ba c3
  obtain ⟨c4, c5⟩ := He.ba c4
  obtain ⟨h1, h2⟩ := He.ba c3
  obtain ⟨m1, m2⟩ := He.ba c4
  obtain ⟨g1, g2⟩ := He.ba c5
  have F : ∀ (i : Nat) {f : He.Fa}, fa[i]? = some f → f.ok K = true := fun i {f} e => cd.fact i e
  have form : ∀ p, p ∈ formB → ∃ u, PySem.W.nsIn K (He.ga K "FORMS") p.1 = some (some u) ∧ RelV (.int p.2) u := fun p hp => intAt_ok (List.all_eq_true.mp c2 p hp)
  constructor
  · exact He.free_ok X G (F 0 (f := .free "isinstance") rfl)
  · exact He.free_ok X G (F 1 (f := .free "len") rfl)
  · exact He.free_ok X G (F 2 (f := .free "divmod") rfl)
  · exact He.free_ok X G (F 3 (f := .free "any") rfl)
  · exact He.free_ok X G (F 4 (f := .free "all") rfl)
  · exact He.free_ok X G (F 5 (f := .free "abs") rfl)
  · exact He.free_ok X G (F 6 (f := .free "max") rfl)
  · exact He.free_ok X G (F 7 (f := .free "min") rfl)
  · exact He.free_ok X G (F 8 (f := .free "sorted") rfl)
  · exact He.free_ok X G (F 9 (f := .free "repr") rfl)
  · exact He.free_ok X G (F 10 (f := .free "enumerate") rfl)
  · exact He.free_ok X G (F 11 (f := .free "zip") rfl)
  · exact He.free_ok X G (F 12 (f := .free "range") rfl)
  · exact He.free_ok X G (F 13 (f := .free "int") rfl)
  · exact He.free_ok X G (F 14 (f := .free "bool") rfl)
  · exact He.free_ok X G (F 15 (f := .free "tuple") rfl)
  · exact He.free_ok X G (F 16 (f := .free "str") rfl)
  · exact He.int_ok X G (F 17 (f := .int "MOST_BASES" 3) rfl)
  · exact He.int_ok X G (F 18 (f := .int "MOST_ROWS" 6) rfl)
  · exact He.int_ok X G (F 19 (f := .int "MOST_GROUPS" 7200) rfl)
  · exact He.int_ok X G (F 20 (f := .int "MOST_HOUSES" 3) rfl)
  · exact He.int_ok X G (F 21 (f := .int "MOST_STEPS" 8) rfl)
  · exact He.int_ok X G (F 22 (f := .int "MOST_ROUND" 20000) rfl)
  · exact He.int_ok X G (F 23 (f := .int "MOST_BASE" 60) rfl)
  · exact He.int_ok X G (F 24 (f := .int "MOST_AMOUNT" 10000000000000000000000000000000000000000) rfl)
  · exact He.int_ok X G (F 25 (f := .int "MOST_RATE" 100) rfl)
  · exact He.glo_ok X G (F 83 (f := .glo "WAYS") rfl)
  · exact fun H => He.tupB_ok c1 H
  · exact He.glo_ok X G (F 84 (f := .glo "FORMS") rfl)
  · exact ct.tab 0 rfl
  · exact form ("on", 2) (List.mem_of_getElem? (i := 0) rfl)
  · exact form ("back", 2) (List.mem_of_getElem? (i := 1) rfl)
  · exact form ("label", 3) (List.mem_of_getElem? (i := 2) rfl)
  · exact form ("unlabel", 3) (List.mem_of_getElem? (i := 3) rfl)
  · exact form ("to", 2) (List.mem_of_getElem? (i := 4) rfl)
  · exact form ("after", 2) (List.mem_of_getElem? (i := 5) rfl)
  · exact form ("read", 3) (List.mem_of_getElem? (i := 6) rfl)
  · exact form ("call", 2) (List.mem_of_getElem? (i := 7) rfl)
  · exact form ("rate", 3) (List.mem_of_getElem? (i := 8) rfl)
  · exact He.glo_ok X G (F 81 (f := .glo "House") rfl)
  · exact He.cls_ok (F 85 (f := .cls "House") rfl)
  · exact He.mkr_ok (F 86 (f := .mkr "House") rfl)
  · exact ⟨He.eqO_ok h1, of_decide_eq_true h2⟩
  · exact He.noat_ok (F 87 (f := .noat "House" "parts") rfl)
  · exact He.noat_ok (F 88 (f := .noat "House" "lots") rfl)
  · exact He.noat_ok (F 89 (f := .noat "House" "last") rfl)
  · exact He.noat_ok (F 90 (f := .noat "House" "groups") rfl)
  · exact He.noat_ok (F 91 (f := .noat "House" "skips") rfl)
  · exact He.noat_ok (F 92 (f := .noat "House" "opens") rfl)
  · exact He.noat_ok (F 93 (f := .noat "House" "frames") rfl)
  · exact He.noat_ok (F 94 (f := .noat "House" "places") rfl)
  · exact He.glo_ok X G (F 82 (f := .glo "Move") rfl)
  · exact He.cls_ok (F 95 (f := .cls "Move") rfl)
  · exact He.mkr_ok (F 96 (f := .mkr "Move") rfl)
  · exact ⟨He.eqO_ok m1, of_decide_eq_true m2⟩
  · exact He.noat_ok (F 97 (f := .noat "Move" "through") rfl)
  · exact He.noat_ok (F 98 (f := .noat "Move" "becomes") rfl)
  · exact He.noat_ok (F 99 (f := .noat "Move" "homes") rfl)
  · exact He.noat_ok (F 100 (f := .noat "Move" "path") rfl)
  · exact He.noat_ok (F 101 (f := .noat "Move" "start") rfl)
  · exact He.noat_ok (F 102 (f := .noat "Move" "table") rfl)
  · exact He.noat_ok (F 103 (f := .noat "Move" "turn") rfl)
  · exact He.noat_ok (F 104 (f := .noat "Move" "goal") rfl)
  · exact ⟨He.eqO_ok g1, of_decide_eq_true g2⟩
  · exact He.meth_ok (F 105 (f := .meth "House" "unit") rfl)
  · exact He.meth_ok (F 106 (f := .meth "House" "group_of") rfl)
  · exact He.meth_ok (F 107 (f := .meth "House" "place_of") rfl)
  · exact He.meth_ok (F 108 (f := .meth "House" "near") rfl)
  · exact He.meth_ok (F 109 (f := .meth "Move" "value") rfl)
  · exact He.glo_ok X G (F 26 (f := .glo "is_integer") rfl)
  · exact He.glo_ok X G (F 27 (f := .glo "is_number") rfl)
  · exact He.glo_ok X G (F 28 (f := .glo "is_between") rfl)
  · exact He.glo_ok X G (F 29 (f := .glo "check_number") rfl)
  · exact He.glo_ok X G (F 30 (f := .glo "is_way") rfl)
  · exact He.glo_ok X G (F 31 (f := .glo "common_divisor") rfl)
  · exact He.glo_ok X G (F 32 (f := .glo "common_multiple") rfl)
  · exact He.glo_ok X G (F 33 (f := .glo "divisors_of") rfl)
  · exact He.glo_ok X G (F 34 (f := .glo "check_bases") rfl)
  · exact He.glo_ok X G (F 35 (f := .glo "is_row") rfl)
  · exact He.glo_ok X G (F 36 (f := .glo "check_rows") rfl)
  · exact He.glo_ok X G (F 37 (f := .glo "numbers_of") rfl)
  · exact He.glo_ok X G (F 38 (f := .glo "skipped_in") rfl)
  · exact He.glo_ok X G (F 39 (f := .glo "is_again") rfl)
  · exact He.glo_ok X G (F 40 (f := .glo "is_amount") rfl)
  · exact He.glo_ok X G (F 41 (f := .glo "is_step") rfl)
  · exact He.glo_ok X G (F 42 (f := .glo "house_behind") rfl)
  · exact He.glo_ok X G (F 43 (f := .glo "wrong_step") rfl)
  · exact He.glo_ok X G (F 44 (f := .glo "value_of") rfl)
  · exact He.glo_ok X G (F 45 (f := .glo "round_of") rfl)
  · exact He.glo_ok X G (F 46 (f := .glo "least_through") rfl)
  · exact He.glo_ok X G (F 47 (f := .glo "check_houses") rfl)
  · exact He.glo_ok X G (F 48 (f := .glo "check_steps") rfl)
  · exact He.glo_ok X G (F 49 (f := .glo "led_to") rfl)
  · exact He.glo_ok X G (F 50 (f := .glo "first_kept") rfl)
  · exact He.glo_ok X G (F 51 (f := .glo "is_round") rfl)
  · exact He.glo_ok X G (F 52 (f := .glo "check_move") rfl)
  · exact He.glo_ok X G (F 53 (f := .glo "stretches") rfl)
  · exact He.glo_ok X G (F 54 (f := .glo "stretch") rfl)
  · exact He.glo_ok X G (F 55 (f := .glo "_law_vase") rfl)
  · exact He.glo_ok X G (F 56 (f := .glo "_law_pour") rfl)
  · exact He.glo_ok X G (F 57 (f := .glo "_law_pluck") rfl)
  · exact He.glo_ok X G (F 58 (f := .glo "_law_divisor") rfl)
  · exact He.glo_ok X G (F 59 (f := .glo "_law_multiple") rfl)
  · exact He.glo_ok X G (F 60 (f := .glo "_law_ground") rfl)
  · exact He.glo_ok X G (F 61 (f := .glo "_law_lanes") rfl)
  · exact He.glo_ok X G (F 62 (f := .glo "_law_gap") rfl)
  · exact He.glo_ok X G (F 63 (f := .glo "_law_place_house") rfl)
  · exact He.glo_ok X G (F 64 (f := .glo "_law_house") rfl)
  · exact He.glo_ok X G (F 65 (f := .glo "_law_spot") rfl)
  · exact He.glo_ok X G (F 66 (f := .glo "_law_near") rfl)
  · exact He.glo_ok X G (F 67 (f := .glo "_law_built") rfl)
  · exact He.glo_ok X G (F 68 (f := .glo "_law_size") rfl)
  · exact He.glo_ok X G (F 69 (f := .glo "_law_parts") rfl)
  · exact He.glo_ok X G (F 70 (f := .glo "_law_through") rfl)
  · exact He.glo_ok X G (F 71 (f := .glo "_law_stride") rfl)
  · exact He.glo_ok X G (F 72 (f := .glo "_law_homes") rfl)
  · exact He.glo_ok X G (F 73 (f := .glo "_law_strides") rfl)
  · exact He.glo_ok X G (F 74 (f := .glo "_law_value") rfl)
  · exact He.glo_ok X G (F 75 (f := .glo "_law_move") rfl)
  · exact He.glo_ok X G (F 76 (f := .glo "_law_again") rfl)
  · exact He.glo_ok X G (F 77 (f := .glo "_law_start") rfl)
  · exact He.glo_ok X G (F 78 (f := .glo "_law_same") rfl)
  · exact He.glo_ok X G (F 79 (f := .glo "_law_right") rfl)
  · exact He.glo_ok X G (F 80 (f := .glo "law") rfl)
  · exact cd.def_ 0 (d := d_is_integer) rfl
  · exact cd.def_ 1 (d := d_is_number) rfl
  · exact cd.def_ 2 (d := d_is_between) rfl
  · exact cd.def_ 3 (d := d_check_number) rfl
  · exact cd.def_ 4 (d := d_is_way) rfl
  · exact cd.def_ 5 (d := d_common_divisor) rfl
  · exact cd.def_ 6 (d := d_common_multiple) rfl
  · exact cd.def_ 7 (d := d_divisors_of) rfl
  · exact cd.def_ 8 (d := d_check_bases) rfl
  · exact cd.def_ 9 (d := d_is_row) rfl
  · exact cd.def_ 10 (d := d_check_rows) rfl
  · exact cd.def_ 11 (d := d_numbers_of) rfl
  · exact cd.def_ 12 (d := d_skipped_in) rfl
  · exact cd.def_ 13 (d := d_is_again) rfl
  · exact cd.def_ 14 (d := d_is_amount) rfl
  · exact cd.def_ 15 (d := d_is_step) rfl
  · exact cd.def_ 16 (d := d_house_behind) rfl
  · exact cd.def_ 17 (d := d_wrong_step) rfl
  · exact cd.def_ 18 (d := d_value_of) rfl
  · exact cd.def_ 19 (d := d_round_of) rfl
  · exact cd.def_ 20 (d := d_least_through) rfl
  · exact cd.def_ 21 (d := d_check_houses) rfl
  · exact cd.def_ 22 (d := d_check_steps) rfl
  · exact cd.def_ 23 (d := d_led_to) rfl
  · exact cd.def_ 24 (d := d_first_kept) rfl
  · exact cd.def_ 25 (d := d_is_round) rfl
  · exact cd.def_ 26 (d := d_check_move) rfl
  · exact cd.def_ 27 (d := d_stretches) rfl
  · exact cd.def_ 28 (d := d_stretch) rfl
  · exact cd.def_ 29 (d := d__law_vase) rfl
  · exact cd.def_ 30 (d := d__law_pour) rfl
  · exact cd.def_ 31 (d := d__law_pluck) rfl
  · exact cd.def_ 32 (d := d__law_divisor) rfl
  · exact cd.def_ 33 (d := d__law_multiple) rfl
  · exact cd.def_ 34 (d := d__law_ground) rfl
  · exact cd.def_ 35 (d := d__law_lanes) rfl
  · exact cd.def_ 36 (d := d__law_gap) rfl
  · exact cd.def_ 37 (d := d__law_place_house) rfl
  · exact cd.def_ 38 (d := d__law_house) rfl
  · exact cd.def_ 39 (d := d__law_spot) rfl
  · exact cd.def_ 40 (d := d__law_near) rfl
  · exact cd.def_ 41 (d := d__law_built) rfl
  · exact cd.def_ 42 (d := d__law_size) rfl
  · exact cd.def_ 43 (d := d__law_parts) rfl
  · exact cd.def_ 44 (d := d__law_through) rfl
  · exact cd.def_ 45 (d := d__law_stride) rfl
  · exact cd.def_ 46 (d := d__law_homes) rfl
  · exact cd.def_ 47 (d := d__law_strides) rfl
  · exact cd.def_ 48 (d := d__law_value) rfl
  · exact cd.def_ 49 (d := d__law_move) rfl
  · exact cd.def_ 50 (d := d__law_again) rfl
  · exact cd.def_ 51 (d := d__law_start) rfl
  · exact cd.def_ 52 (d := d__law_same) rfl
  · exact cd.def_ 53 (d := d__law_right) rfl
  · exact cd.def_ 54 (d := d_law) rfl
  · exact cd.def_ 55 (d := d_House___init__) rfl
  · exact cd.def_ 56 (d := d_House_unit) rfl
  · exact cd.def_ 57 (d := d_House_group_of) rfl
  · exact cd.def_ 58 (d := d_House_place_of) rfl
  · exact cd.def_ 59 (d := d_House_near) rfl
  · exact cd.def_ 60 (d := d_Move___init__) rfl
  · exact cd.def_ 61 (d := d_Move_value) rfl
end Lm
end
section
set_option Elab.async false
set_option linter.all false
set_option maxRecDepth 100000
set_option maxHeartbeats 2000000
namespace Lm
open PySem PySem.Spec L2 Evl
/-! ### promises, told by a word I on the known part and the heap -/
/-- one value -/
def PV (n : Nat) (pre : List V → Hp → V → Prop) : Sp := fun vs H Q _ => vs.length = n ∧ ∃ G v, Ex G H ∧ pre vs G v ∧ ∀ H', Ex H H' → Q v H'
/-- what is told of the result and the new known part -/
def PI (n : Nat) (pre : (Hp → Hp → Prop) → List V → Hp → (V → Hp → Prop) → Prop) : Sp := fun vs H Q _ => vs.length = n ∧ ∃ I G R, Cl I ∧ Ex G H ∧ I G H ∧ pre I vs G R ∧ ∀ v G' H', Ex G G' → Ex G' H' → I G' H' → R v G' → Q v H'
def NewL (xs : List V) (v : V) (G : Hp) : Prop := ∃ p, v = .ref p ∧ G p = some (.lst xs)
def NewT (xs : List V) (v : V) (G : Hp) : Prop := ∃ p, v = .ref p ∧ G p = some (.tup xs)
/-- te gives a v and a known part that R tells, keeping I -/
def EvI (I : Hp → Hp → Prop) (te : TE) (σ : St) (G : Hp) (R : V → Hp → Prop) : Prop := ∀ H, Ex G H → I G H → ∀ Q : VK, (∀ v G' H', Ex G G' → Ex G' H' → I G' H' → R v G' → Q v H') → te σ H Q
def EvAI (I : Hp → Hp → Prop) (ts : TA) (σ : St) (G : Hp) (R : List V → Hp → Prop) : Prop := ∀ H, Ex G H → I G H → ∀ Q : List V → Hp → Prop, (∀ v G' H', Ex G G' → Ex G' H' → I G' H' → R v G' → Q v H') → ts σ H Q
def SpI (I : Hp → Hp → Prop) (sp : Sp) (vs : List V) (G : Hp) (R : V → Hp → Prop) : Prop := ∀ H, Ex G H → I G H → ∀ Q : VK, (∀ v G' H', Ex G G' → Ex G' H' → I G' H' → R v G' → Q v H') → ∀ E, sp vs H Q E
def EvTI (I : Hp → Hp → Prop) (te : TT) (σ : St) (G : Hp) (R : Bool → Hp → Prop) : Prop := ∀ H, Ex G H → I G H → ∀ Q : Bool → Hp → Prop, (∀ v G' H', Ex G G' → Ex G' H' → I G' H' → R v G' → Q v H') → te σ H Q
section
variable {K : PySem.W.Frag} {I : Hp → Hp → Prop} {σ : St} {G : Hp} {ta tb tc te tv : TE} {tr : TA} {tt : TT} {x y z v : V} {D : Ends} {tu tw tz : TS} {R : V → Hp → Prop} {pre : List V → Hp → V → Prop}
  {prI : (Hp → Hp → Prop) → List V → Hp → (V → Hp → Prop) → Prop} {vs : List V} {sp : Sp}
theorem start_PV {t : TS} {H : Hp} {Q : VK} {E : XK} {n : Nat} (h : PV n pre vs H Q E)
    (k : ∀ G v I Q, Cl I → pre vs G v → (∀ G', Ex G G' → GoV I Q v G') → Go I t { nx := fun _ H' => Q .non H', rt := Q } σ G) : t { nx := fun _ H' => Q .non H', rt := Q } σ H := by
  obtain ⟨_, G, v, e, p, q⟩ := h
  exact k G v (fun _ H1 => Ex H H1) Q cl_ex p (fun G' _ H' _ i => q H' i) H e (Ex.refl H)
theorem start_PI {t : TS} {H : Hp} {Q : VK} {E : XK} {n : Nat} (h : PI n prI vs H Q E)
    (k : ∀ G R I Q, Cl I → prI I vs G R → (∀ v G', Ex G G' → R v G' → GoV I Q v G') → Go I t { nx := fun _ H' => Q .non H', rt := Q } σ G) : t { nx := fun _ H' => Q .non H', rt := Q } σ H := by
  obtain ⟨_, I, G, R, c, e, i, p, q⟩ := h
  exact k G R I Q c p (fun v G' e1 r H' e2 i2 => q v G' H' e1 e2 i2 r) H e i
theorem sp_PV {n : Nat} (h : pre vs G v) (hn : vs.length = n := by rfl) : SpV (PV n pre) vs G v := fun H e Q q _ => ⟨hn, G, v, e, h, q⟩
theorem sp_PI {n : Nat} (hI : Cl I) (h : prI I vs G R) (hn : vs.length = n := by rfl) : SpI I (PI n prI) vs G R := fun H e i Q q _ => ⟨hn, I, G, R, hI, e, i, h, q⟩
theorem len_PV {n : Nat} : ∀ vs H Q E, PV n pre vs H Q E → vs.length = n := fun _ _ _ _ h => h.1
theorem len_PI {n : Nat} : ∀ vs H Q E, PI n prI vs H Q E → vs.length = n := fun _ _ _ _ h => h.1
theorem SpI.mono {R' : V → Hp → Prop} (h : SpI I sp vs G R) (k : ∀ v G', Ex G G' → R v G' → R' v G') : SpI I sp vs G R' := fun H e i Q q E => h H e i Q (fun v G' H' a b c d => q v G' H' a b c (k v G' a d)) E
theorem EvI.imp {R' : V → Hp → Prop} (h : EvI I te σ G R) (k : ∀ v G', Ex G G' → R v G' → R' v G') : EvI I te σ G R' := fun H e i Q q => h H e i Q fun v G' H' a b c d => q v G' H' a b c (k v G' a d)
theorem ei_of (hI : Cl I) (h : Ev te σ G v) : EvI I te σ G (fun w G' => w = v ∧ G' = G) := fun H e i Q q => h H e Q fun H2 e2 => q v G H2 (Ex.refl G) (e.trans e2) (hI _ _ _ _ (Stp.ex e e2) i) ⟨rfl, rfl⟩
theorem ei_ofL {xs : List V} (hI : Cl I) (h : EvL te σ G xs) : EvI I te σ G (fun w G' => ∃ p, w = .ref p ∧ G p = none ∧ G' = upd G p (.lst xs)) := fun H e i Q q => h H e Q fun p H2 hp e2 h2 => by
  have s := Stp.take e hp e2 h2
  exact q _ _ H2 s.1 s.2.2.1 (hI _ _ _ _ s i) ⟨p, rfl, fresh_back e hp, rfl⟩
theorem ei_ofU {xs : List V} (hI : Cl I) (h : EvU te σ G xs) : EvI I te σ G (fun w G' => ∃ p, w = .ref p ∧ G p = none ∧ G' = upd G p (.tup xs)) := fun H e i Q q => h H e Q fun p H2 hp e2 h2 => by
  have s := Stp.take e hp e2 h2
  exact q _ _ H2 s.1 s.2.2.1 (hI _ _ _ _ s i) ⟨p, rfl, fresh_back e hp, rfl⟩
theorem ea_of {ts : TA} (hI : Cl I) (h : EvA ts σ G vs) : EvAI I ts σ G (fun w G' => w = vs ∧ G' = G) := fun H e i Q q => h H e Q fun H2 e2 => q vs G H2 (Ex.refl G) (e.trans e2) (hI _ _ _ _ (Stp.ex e e2) i) ⟨rfl, rfl⟩
theorem eai_nil : EvAI I tNil σ G (fun w G' => w = [] ∧ G' = G) := fun H e i Q q => q [] G H (Ex.refl G) e i ⟨rfl, rfl⟩
theorem eai_cons {R1 : V → Hp → Prop} {R2 : List V → Hp → Prop} (h : EvI I ta σ G R1) (k : ∀ v G', Ex G G' → R1 v G' → EvAI I tr σ G' fun vs G2 => R2 (v :: vs) G2) : EvAI I (tCons ta tr) σ G R2 := fun H e i Q q =>
  h H e i _ fun v G1 H1 e1 f1 i1 r1 => k v G1 e1 r1 H1 f1 i1 _ fun vs G2 H2 e2 f2 i2 r2 => q (v :: vs) G2 H2 (e1.trans e2) f2 i2 r2
theorem ei_call {dvs : List V} {E : XK} {RA : List V → Hp → Prop} (h : EvAI I tr σ G RA) (k : ∀ vs G', Ex G G' → RA vs G' → SpI I sp (vs ++ dvs) G' R) : EvI I (tCall sp dvs E tr) σ G R := fun H e i Q q =>
  h H e i _ fun vs G1 H1 e1 f1 i1 r1 => k vs G1 e1 r1 H1 f1 i1 Q (fun v G2 H2 e2 f2 i2 r2 => q v G2 H2 (e1.trans e2) f2 i2 r2) E
theorem ei_callA {dvs : List V} {E : XK} (hI : Cl I) (h : EvA tr σ G vs) (k : SpI I sp (vs ++ dvs) G R) : EvI I (tCall sp dvs E tr) σ G R := ei_call (ea_of hI h) fun _ _ _ ⟨e1, e2⟩ => by subst e1 e2; exact k
/-- a method -/
theorem ei_meth {dvs : List V} {E : XK} {m : Str} {a C dx : Addr} {fs : List (Str × V)} (hI : Cl I) (ha : Ev ta σ G (.ref a)) (h : G a = some (.ins C dx fs)) (hm : fs.lookup m = none) (hs : EvA tr σ G vs) (k : SpI I sp (.ref a :: (vs ++ dvs)) G R) :
    EvI I (tMeth C m sp dvs E ta tr) σ G R := fun H e i Q q => ha H e _ fun H1 e1 => ⟨a, dx, fs, rfl, e1 _ _ (e _ _ h), hm, hs H1 (e.trans e1) _ fun H2 e2 =>
  k H2 ((e.trans e1).trans e2) (hI _ _ _ _ (Stp.ex e (e1.trans e2)) i) Q q E⟩
/-- an operator on two values, the second one by a call that I minds -/
theorem ei_op {r : R2} {R1 : V → Hp → Prop} (hI : Cl I) (ha : Ev ta σ G x) (hb : EvI I tb σ G R1) (k : ∀ y G', Ex G G' → R1 y G' → ∃ z, RV r x y G' z ∧ R z G') : EvI I (tOp r ta tb) σ G R := fun H e i Q q =>
  ha H e _ fun H1 e1 => hb H1 (e.trans e1) (hI _ _ _ _ (Stp.ex e e1) i) _ fun y G2 H2 e2 f2 i2 r2 => by
    obtain ⟨z, hz, rz⟩ := k y G2 e2 r2
    exact hz H2 f2 Q fun H3 e3 => q z G2 H3 e2 (f2.trans e3) (hI _ _ _ _ (Stp.ex f2 e3) i2) rz
theorem ei_opR {r : R2} {R1 : V → Hp → Prop} (hI : Cl I) (ha : EvI I ta σ G R1) (k : ∀ x G', Ex G G' → R1 x G' → ∃ y z, Ev tb σ G' y ∧ RV r x y G' z ∧ R z G') : EvI I (tOp r ta tb) σ G R := fun H e i Q q =>
  ha H e i _ fun x G1 H1 e1 f1 i1 r1 => by
    obtain ⟨y, z, hb, hz, rz⟩ := k x G1 e1 r1
    exact hb H1 f1 _ fun H2 e2 => hz H2 (f1.trans e2) Q fun H3 e3 => q z G1 H3 e1 ((f1.trans e2).trans e3) (hI _ _ _ _ (Stp.ex f1 (e2.trans e3)) i1) rz
theorem ei_opI {r : R2} {R1 : V → Hp → Prop} (hI : Cl I) (ha : EvI I ta σ G R1) (k : ∀ x G', Ex G G' → R1 x G' → EvI I tb σ G' fun y G2 => ∃ z, RV r x y G2 z ∧ R z G2) : EvI I (tOp r ta tb) σ G R := fun H e i Q q =>
  ha H e i _ fun x G1 H1 e1 f1 i1 r1 => k x G1 e1 r1 H1 f1 i1 _ fun y G2 H2 e2 f2 i2 r2 => by
    obtain ⟨z, hz, rz⟩ := r2
    exact hz H2 f2 Q fun H3 e3 => q z G2 H3 (e1.trans e2) (f2.trans e3) (hI _ _ _ _ (Stp.ex f2 e3) i2) rz
theorem ei_tup {RA : List V → Hp → Prop} (h : EvAI I tr σ G RA) (hI : Cl I) (k : ∀ vs G', Ex G G' → RA vs G' → vs.length ≤ 100000 ∧ ∀ p, G' p = none → R (.ref p) (upd G' p (.tup vs))) : EvI I (tTup tr) σ G R := fun H e i Q q =>
  h H e i _ fun vs G1 H1 e1 f1 i1 r1 => ⟨sz_of (k vs G1 e1 r1).1, fun p hp => by
    have s := Stp.new (o := .tup vs) f1 hp
    exact q _ _ _ (e1.trans s.1) s.2.2.1 (hI _ _ _ _ s i1) ((k vs G1 e1 r1).2 p (fresh_back f1 hp))⟩
theorem ei_lst {RA : List V → Hp → Prop} (h : EvAI I tr σ G RA) (hI : Cl I) (k : ∀ vs G', Ex G G' → RA vs G' → vs.length ≤ 100000 ∧ ∀ p, G' p = none → R (.ref p) (upd G' p (.lst vs))) : EvI I (tLst tr) σ G R := fun H e i Q q =>
  h H e i _ fun vs G1 H1 e1 f1 i1 r1 => ⟨sz_of (k vs G1 e1 r1).1, fun p hp => by
    have s := Stp.new (o := .lst vs) f1 hp
    exact q _ _ _ (e1.trans s.1) s.2.2.1 (hI _ _ _ _ s i1) ((k vs G1 e1 r1).2 p (fresh_back f1 hp))⟩
theorem ei_if {b : Bool} (hI : Cl I) (h : EvT tt σ G b) (h1 : b = true → EvI I ta σ G R) (h2 : b = false → EvI I tb σ G R) : EvI I (tIf tt ta tb) σ G R := fun H e i Q q => h H e _ fun H1 e1 => by
  have i1 := hI _ _ _ _ (Stp.ex e e1) i
  cases b with
  | true => exact h1 rfl H1 (e.trans e1) i1 Q q
  | false => exact h2 rfl H1 (e.trans e1) i1 Q q
theorem ei_ifI {RB : Bool → Hp → Prop} (h : EvTI I tt σ G RB) (k : ∀ b G', Ex G G' → RB b G' → EvI I (if b = true then ta else tb) σ G' R) : EvI I (tIf tt ta tb) σ G R := fun H e i Q q => h H e i _ fun b G1 H1 e1 f1 i1 r1 => by
  have z := k b G1 e1 r1 H1 f1 i1 Q fun v G2 H2 e2 f2 i2 r2 => q v G2 H2 (e1.trans e2) f2 i2 r2
  cases b <;> exact z
/-- a value by a rule of the kit that asks values: tuple(..), list(..) -/
theorem ei_cb {r : List V → Hp → VK → Prop} {RA : List V → Hp → Prop} (h : EvAI I tr σ G RA) (k : ∀ vs G', Ex G G' → RA vs G' → ∀ H, Ex G' H → I G' H → ∀ Q : VK, (∀ v G2 H2, Ex G' G2 → Ex G2 H2 → I G2 H2 → R v G2 → Q v H2) → r vs H Q) : EvI I (tCB r tr) σ G R := fun H e i Q q =>
  h H e i _ fun vs G1 H1 e1 f1 i1 r1 => k vs G1 e1 r1 H1 f1 i1 Q fun v G2 H2 e2 f2 i2 r2 => q v G2 H2 (e1.trans e2) f2 i2 r2
/-- tuple(l) of a new list -/
theorem ei_tuple {R1 : List V → Hp → Prop} (hI : Cl I) (h : EvI I ta σ G fun v G' => ∃ p xs, v = .ref p ∧ SqL K G' p xs ∧ R1 xs G') (k : ∀ xs G' p, Ex G G' → R1 xs G' → G' p = none → R (.ref p) (upd G' p (.tup xs))) :
    EvI I (tCB (fun xs H Q => ∃ p ys, xs = [.ref p] ∧ ((SqL K H p ys ∧ ∀ l, H l = none → Q (.ref l) (upd H l (.tup ys))) ∨ (SqT K H p ys ∧ Q (.ref p) H))) (tCons ta tNil)) σ G R := fun H e i Q q =>
  h H e i _ fun v G1 H1 e1 f1 i1 r1 => by
    obtain ⟨p, xs, ev, hs, r⟩ := r1
    subst ev
    exact ⟨p, xs, rfl, Or.inl ⟨ex_l f1 hs, fun l hl => by
      have s := Stp.new (o := .tup xs) f1 hl
      exact q _ _ _ (e1.trans s.1) s.2.2.1 (hI _ _ _ _ s i1) (k xs G1 l e1 r (fresh_back f1 hl))⟩⟩
/-! ### statements -/
theorem go_asgI {n : Nat} (h : EvI I te σ G R) (k : ∀ v G', Ex G G' → R v G' → Go I tz D (σ.set n (some v)) G') : Go I (tSeq (tAsg te (gName n)) tz) D σ G :=
  fun H e i => h H e i _ fun v G' H1 e1 f1 i1 r => k v G' e1 r H1 f1 i1
theorem go_asgI1 {n : Nat} (h : EvI I te σ G R) (k : ∀ v G', Ex G G' → R v G' → GoN I D.nx (σ.set n (some v)) G') : Go I (tAsg te (gName n)) D σ G :=
  fun H e i => h H e i _ fun v G' H1 e1 f1 i1 r => k v G' e1 r H1 f1 i1
theorem go_retI (h : EvI I te σ G R) (k : ∀ v G', Ex G G' → R v G' → GoV I D.rt v G') : Go I (tRet te) D σ G := fun H e i => h H e i _ fun v G' H1 e1 f1 i1 r => k v G' e1 r H1 f1 i1
theorem go_dropI (h : EvI I te σ G R) (k : ∀ v G', Ex G G' → R v G' → Go I tz D σ G') : Go I (tSeq (tDrop te) tz) D σ G := fun H e i => h H e i _ fun v G' H1 e1 f1 i1 r => k v G' e1 r H1 f1 i1
theorem go_parI {n m : Nat} {ts : TA} {RA : List V → Hp → Prop} (h : EvAI I ts σ G RA) (k : ∀ vs G', Ex G G' → RA vs G' → ∃ x y, vs = [x, y] ∧ Go I tz D ((σ.set n (some x)).set m (some y)) G') : Go I (tSeq (tPar n m ts) tz) D σ G := fun H e i =>
  h H e i _ fun vs G' H1 e1 f1 i1 r => by
    obtain ⟨x, y, ev, g⟩ := k vs G' e1 r
    subst ev
    exact ⟨x, y, rfl, g H1 f1 i1⟩
theorem go_par3I {n m l : Nat} {ts : TA} {RA : List V → Hp → Prop} (h : EvAI I ts σ G RA) (k : ∀ vs G', Ex G G' → RA vs G' → ∃ x y z, vs = [x, y, z] ∧ Go I tz D (((σ.set n (some x)).set m (some y)).set l (some z)) G') : Go I (tSeq (tPar3 n m l ts) tz) D σ G := fun H e i =>
  h H e i _ fun vs G' H1 e1 f1 i1 r => by
    obtain ⟨x, y, z, ev, g⟩ := k vs G' e1 r
    subst ev
    exact ⟨x, y, z, rfl, g H1 f1 i1⟩
theorem go_un2I {n m : Nat} (h : EvI I te σ G R) (k : ∀ v G', Ex G G' → R v G' → ∃ p x y, v = .ref p ∧ SqT K G' p [x, y] ∧ Go I tz D ((σ.set n (some x)).set m (some y)) G') : Go I (tSeq (tAsg te (gTup K 2 (gCons (gName n) (gCons (gName m) gNil)))) tz) D σ G := fun H e i =>
  h H e i _ fun v G' H1 e1 f1 i1 r => by
    obtain ⟨p, x, y, ev, hp, g⟩ := k v G' e1 r
    subst ev
    exact ⟨p, [x, y], rfl, ex_t f1 hp, rfl, x, [y], rfl, y, [], rfl, rfl, g H1 f1 i1⟩
end
/-! ### the vase -/
structure Va (a : Addr) (I : Hp → Hp → Prop) : Prop where
  has : ∀ G H, I G H → G a = none ∧ ∃ x y z : Int, 0 ≤ x ∧ 0 ≤ y ∧ 0 ≤ z ∧ H a = some (.lst [.int x, .int y, .int z])
  put : ∀ G H (x y z : Int), 0 ≤ x → 0 ≤ y → 0 ≤ z → I G H → I G (upd H a (.lst [.int x, .int y, .int z]))
/-! ### an object of one's own that changes: l, known, and hidden from I -/
def del (G : Hp) (l : Addr) : Hp := fun b => if b = l then none else G b
theorem del_same {G : Hp} {l : Addr} : del G l l = none := by unfold del; exact if_pos rfl
theorem del_ne {G : Hp} {l b : Addr} (h : b ≠ l) : del G l b = G b := by unfold del; exact if_neg h
theorem del_upd {G : Hp} {l : Addr} {o : HO} : del (upd G l o) l = del G l := by
  funext b
  by_cases h : b = l
  · subst h
    rw [del_same, del_same]
  · rw [del_ne h, del_ne h, upd_ne h]
theorem del_updne {G : Hp} {l a : Addr} {o : HO} (h : a ≠ l) : del (upd G a o) l = upd (del G l) a o := by
  funext b
  by_cases e : b = l
  · subst e
    rw [del_same, upd_ne (fun z => h z.symm), del_same]
  · by_cases f : b = a
    · subst f
      rw [del_ne e, upd_same, upd_same]
    · rw [del_ne e, upd_ne f, upd_ne f, del_ne e]
theorem del_none {G : Hp} {l : Addr} (h : G l = none) : del G l = G := by
  funext b
  by_cases e : b = l
  · subst e
    rw [del_same, h]
  · rw [del_ne e]
theorem ex_del {G H : Hp} {l : Addr} (e : Ex G H) : Ex (del G l) (del H l) := fun b o h => by
  by_cases q : b = l
  · subst q
    rw [del_same] at h
    cases h
  · rw [del_ne q] at h ⊢
    exact e b o h
theorem del_ex {G : Hp} {l : Addr} : Ex (del G l) G := fun b o h => by
  by_cases q : b = l
  · subst q
    rw [del_same] at h
    cases h
  · rw [del_ne q] at h
    exact h
theorem Stp.del {G H G' H' : Hp} {l : Addr} (s : Stp G H G' H') : Stp (Lm.del G l) (Lm.del H l) (Lm.del G' l) (Lm.del H' l) := ⟨ex_del s.1, ex_del s.2.1, ex_del s.2.2.1, fun b o h1 h2 => by
  by_cases q : b = l
  · subst q
    exact del_same
  · rw [del_ne q] at h1 h2 ⊢
    exact s.2.2.2 b o h1 h2⟩
/-- I, l hidden; l is known -/
def Wl (l : Addr) (I : Hp → Hp → Prop) : Hp → Hp → Prop := fun G H => I (del G l) (del H l) ∧ G l ≠ none
theorem cl_wl {l : Addr} {I : Hp → Hp → Prop} (c : Cl I) : Cl (Wl l I) := fun G H G' H' s ⟨i, n⟩ => ⟨c _ _ _ _ s.del i, by
  cases h : G l with
  | none => exact absurd h n
  | some o => rw [s.1 l o h]; exact fun z => by cases z⟩
theorem wl_upd {l : Addr} {I : Hp → Hp → Prop} {G H : Hp} {o o' : HO} (i : Wl l I G H) : Wl l I (upd G l o) (upd H l o') := ⟨by rw [del_upd, del_upd]; exact i.1, by rw [upd_same]; exact fun z => by cases z⟩
theorem wl_upd2 {l a : Addr} {I : Hp → Hp → Prop} {G H : Hp} {o : HO} (ha : a ≠ l) (k : ∀ G H, I G H → I (upd G a o) (upd H a o)) (i : Wl l I G H) : Wl l I (upd G a o) (upd H a o) := ⟨by rw [del_updne ha, del_updne ha]; exact k _ _ i.1, by rw [upd_ne (fun z => ha z.symm)]; exact i.2⟩
/-- the end: l is an object like any other -/
theorem wl_out {l : Addr} {I : Hp → Hp → Prop} (c : Cl I) {G H : Hp} (e : Ex G H) (i : Wl l I G H) : I G H := c _ _ _ _ ⟨del_ex, del_ex, e, fun b o h1 h2 => by
  by_cases q : b = l
  · subst q
    rw [del_same] at h1
    cases h1
  · rw [del_ne q] at h1 h2
    exact h2⟩ i.1
theorem wl_in {l : Addr} {I : Hp → Hp → Prop} {G H : Hp} {o : HO} (hg : G l = none) (hh : H l = none) (i : I G H) : Wl l I (upd G l o) (upd H l o) := ⟨by rw [del_upd, del_upd, del_none hg, del_none hh]; exact i, by rw [upd_same]; exact fun z => by cases z⟩
section
variable {K : PySem.W.Frag} {I : Hp → Hp → Prop} {σ : St} {G : Hp} {ta tb tc te tv : TE} {tr : TA} {tt : TT} {x y z v : V} {D : Ends} {tu tw tz : TS} {R : V → Hp → Prop} {vs : List V} {sp : Sp}
theorem gov_out {l : Addr} {Q : VK} (c : Cl I) (h : GoV I Q v G) : GoV (Wl l I) Q v G := fun H e i => h H e (wl_out c e i)
theorem gon_out {l : Addr} {N : St → Hp → Prop} (c : Cl I) (h : GoN I N σ G) : GoN (Wl l I) N σ G := fun H e i => h H e (wl_out c e i)
/-- a list of one's own that will change -/
theorem go_asgO {n : Nat} {xs : List V} (c : Cl I) (h : EvL te σ G xs) (k : ∀ p, G p = none → (∀ a, Va a I → a ≠ p) → Go (Wl p I) tz D (σ.set n (some (.ref p))) (upd G p (.lst xs))) : Go I (tSeq (tAsg te (gName n)) tz) D σ G := fun H e i =>
  h H e _ fun p H1 hp e1 h1 => by
    have s := Stp.take e hp e1 h1
    have hg := fresh_back e hp
    refine k p hg (fun a va => fun z => by
      obtain ⟨_, _, _, _, _, _, _, ha⟩ := va.has _ _ i
      rw [z, hp] at ha
      cases ha) H1 s.2.2.1 ⟨?_, by rw [upd_same]; exact fun z => by cases z⟩
    rw [del_upd]
    have h2 : Stp G H (del G p) (del H1 p) := by
      rw [del_none hg]
      refine ⟨Ex.refl G, fun b o hb => ?_, fun b o hb => ?_, fun b o _ h => h⟩
      · rw [del_ne (ne_of_none hb hp)]
        exact e1 b o hb
      · rw [del_ne (ne_of_none hb hg)]
        exact e1 b o (e b o hb)
    exact c _ _ _ _ h2 i
end
def Iv (a : Addr) (I : Hp → Hp → Prop) : Hp → Hp → Prop := fun G H => G a = none ∧ (∃ x y z : Int, 0 ≤ x ∧ 0 ≤ y ∧ 0 ≤ z ∧ H a = some (.lst [.int x, .int y, .int z])) ∧ I G (del H a)
theorem va_iv {a : Addr} {I : Hp → Hp → Prop} : Va a (Iv a I) := ⟨fun _ _ i => ⟨i.1, i.2.1⟩, fun G H x y z hx hy hz i => ⟨i.1, ⟨x, y, z, hx, hy, hz, upd_same⟩, by rw [del_upd]; exact i.2.2⟩⟩
theorem cl_iv {a : Addr} {I : Hp → Hp → Prop} (c : Cl I) : Cl (Iv a I) := fun G H G' H' s ⟨i1, ⟨x, y, z, hx, hy, hz, e⟩, i3⟩ => ⟨s.2.2.2 a _ e i1, ⟨x, y, z, hx, hy, hz, s.2.1 _ _ e⟩, by
  have h := s.del (l := a)
  have g' := s.2.2.2 a _ e i1
  rw [del_none i1, del_none g'] at h
  exact c _ _ _ _ h i3⟩
theorem iv_out {a : Addr} {I : Hp → Hp → Prop} (c : Cl I) {G H : Hp} (e : Ex G H) (i : Iv a I G H) : I G H := c _ _ _ _ ⟨Ex.refl G, del_ex, e, fun _ _ _ h => h⟩ i.2.2
theorem va_wl {a l : Addr} {I : Hp → Hp → Prop} (h : Va a I) (n : a ≠ l) : Va a (Wl l I) := ⟨fun G H i => by
  obtain ⟨g, x, y, z, hx, hy, hz, e⟩ := h.has _ _ i.1
  rw [del_ne n] at g e
  exact ⟨g, x, y, z, hx, hy, hz, e⟩, fun G H x y z hx hy hz i => ⟨by rw [del_updne n]; exact h.put _ _ _ _ _ hx hy hz i.1, i.2⟩⟩
end Lm
end
section
set_option Elab.async false
set_option linter.all false
set_option maxRecDepth 100000
set_option maxHeartbeats 2000000
namespace Lm
open PySem PySem.Spec L2 Evl
theorem tyx_T {K : PySem.W.Frag} {H : Hp} {p : Addr} {xs : List V} (h : SqT K H p xs) : TyX K H (.ref p) (.type "tuple") := by
  rcases h with (h | ⟨o, h⟩) | ⟨o, _, _, h, c, _⟩
  · exact .base (.tup h)
  · exact .fTuple h
  · exact .kTuple h c
theorem kit_tt {K : PySem.W.Frag} : PySem.W.kitOne K (.type "tuple") (.type "tuple") = some true := if_pos (beq_self_eq_true _)
theorem kit_ii {K : PySem.W.Frag} : PySem.W.kitOne K (.type "int") (.type "int") = some true := if_pos (beq_self_eq_true _)
theorem kit_ss {K : PySem.W.Frag} : PySem.W.kitOne K (.type "str") (.type "str") = some true := if_pos (beq_self_eq_true _)
theorem kit_ib {K : PySem.W.Frag} : PySem.W.kitOne K (.type "int") (.type "bool") = some false := kit_ty (by decide +kernel)
section
variable {K : PySem.W.Frag} {I : Hp → Hp → Prop} {σ : St} {G : Hp} {ta tb tc te tv : TE} {ts : TA} {tt : TT} {x y z v : V} {D : Ends} {tu tw tz : TS} {i j : Int} {vs : List V}
theorem ev_isInt (h : Ev ta σ G (.int i)) : Ev (tCB (rIsi K) (tCons ta (tCons (tC (.ty "int")) tNil))) σ G (.bl true) := ev_isi h ev_c (.ty _) (fun _ _ => .base (.int i)) kit_ii
theorem ev_isBool (h : Ev ta σ G (.int i)) : Ev (tCB (rIsi K) (tCons ta (tCons (tC (.ty "bool")) tNil))) σ G (.bl false) := ev_isi h ev_c (.ty _) (fun _ _ => .base (.int i)) kit_ib
theorem ev_isStr {s : Str} (h : Ev ta σ G (.str s)) : Ev (tCB (rIsi K) (tCons ta (tCons (tC (.ty "str")) tNil))) σ G (.bl true) := ev_isi h ev_c (.ty _) (fun _ _ => .base (.str s)) kit_ss
theorem ev_isTup {p : Addr} {xs : List V} (h : Ev ta σ G (.ref p)) (hp : SqT K G p xs) : Ev (tCB (rIsi K) (tCons ta (tCons (tC (.ty "tuple")) tNil))) σ G (.bl true) := ev_isi h ev_c (.ty _) (fun _ e => tyx_T (ex_t e hp)) kit_tt
theorem ev_eqS {s : Str} {b : Bool} (ha : Ev ta σ G x) (hb : Ev tb σ G y) (h : scal x y = true) (e : decide (x = y) = b) : Ev (tOp rEq ta tb) σ G (.bl b) := by subst e; exact ev_eq ha hb h
theorem ev_inUb {xs : List V} {b : Bool} (ha : Ev ta σ G x) (hb : EvU tb σ G xs) (hx : flatV x = true) (hf : xs.all flatV = true) (e : inV x xs = b) : Ev (tOp (rIn K false) ta tb) σ G (.bl b) := by subst e; exact ev_inU ha hb hx hf
theorem ev_inLb {xs : List V} {b : Bool} (ha : Ev ta σ G x) (hb : EvL tb σ G xs) (hx : flatV x = true) (hf : xs.all flatV = true) (e : inV x xs = b) : Ev (tOp (rIn K false) ta tb) σ G (.bl b) := by
  subst e
  exact ev_opL ha hb fun _ _ h _ => rv_isL (sq_of h) hx hf
theorem ev_callV {sp : Sp} {E : XK} (h : EvA ts σ G vs) (hs : SpV sp (vs ++ []) G z) : Ev (tCall sp [] E ts) σ G z := ev_call h hs
/-- a value whose equation is shown later -/
theorem ev_eqv {w : V} (h : Ev te σ G v) (e : v = w) : Ev te σ G w := by subst e; exact h
theorem et_eqv {a b : Bool} (h : EvT tt σ G a) (e : a = b) : EvT tt σ G b := by subst e; exact h
theorem go_pass (h : Go I tz { D with nx := D.nx } σ G) : Go I tz D σ G := h
/-- if c: never | A; the rest -/
theorem go_asg2 {n : Nat} (hI : Cl I) (h : Ev te σ G v) {w : V} (e : v = w) (k : Go I tz D (σ.set n (some w)) G) : Go I (tSeq (tAsg te (gName n)) tz) D σ G := by subst e; exact go_asg hI h k
theorem go_retV (hI : Cl I) (h : Ev te σ G v) (e : v = x) (k : GoV I D.rt x G) : Go I (tRet te) D σ G := by subst e; exact go_ret hI h k
theorem go_retN (k : GoV I D.rt .non G) : Go I tRetN D σ G := k
end
end Lm
end
section
set_option Elab.async false
set_option linter.all false
set_option maxRecDepth 100000
namespace Lm
/-! ### the plain side: houses, steps, moves -/
def digs : Nat → List Nat → List Nat
  | p, [] => [p]
  | p, b :: bs => p % b :: digs (p / b) bs
abbrev Row := Nat × Nat × Nat
def figs (bs : List Nat) (g : Nat) : List Nat := (digs g bs.dropLast.reverse).reverse
def hit (ns : List Nat) (r : Row) : Bool := (ns.getD r.1 0 % r.2.1 == 0) && (ns.drop (r.1 + 1)).all (· == 0)
def gapOf (bs : List Nat) (rows : List Row) (g : Nat) : Nat := rows.foldl (fun acc r => if hit (figs bs g) r then r.2.2 else acc) 0
def lcmN (a b : Nat) : Nat := a / Nat.gcd a b * b
def prod (bs : List Nat) : Nat := bs.foldl (· * ·) 1
def evs (rows : List Row) : Nat := rows.foldl (fun e r => if r.1 = 0 then lcmN e r.2.1 else e) 1
def again (gs : List Nat) (k : Nat) : Bool := (gs.length % k == 0) && (gs.drop k == gs.take (gs.length - k))
def sizes (gs : List Nat) : List Nat := ((List.range gs.length).map (· + 1)).filter (again gs)
/-- a house: the bases, the rows -/
structure HM where
  bs : List Nat
  rows : List Row
namespace HM
def last (h : HM) : Nat := h.bs.getLastD 0
def gaps (h : HM) : List Nat := (List.range (prod h.bs.dropLast * evs h.rows)).map (gapOf h.bs h.rows)
def size (h : HM) : Nat := (sizes h.gaps).headD 0
def sk (h : HM) : List Nat := h.gaps.take h.size
def P (h : HM) : Nat := h.size * h.last
def bo (h : HM) (p : Nat) : Bool := decide (h.sk.getD (p / h.last) 0 ≤ p % h.last)
def cnt (h : HM) (p : Nat) : Nat := ((List.range p).filter h.bo).length
def spots (h : HM) : List Nat := (List.range h.P).filter h.bo
def below (h : HM) : List Nat := (List.range h.P).map h.cnt
def F (h : HM) : Nat := h.spots.length
def place (h : HM) (n : Nat) : Nat := n / h.F * h.P + h.spots.getD (n % h.F) 0
/-- the frame near a place: the next one (true), the last one -/
def near (h : HM) (p : Nat) (nx : Bool) : Int := ((p / h.P * h.F + h.cnt (p % h.P) : Nat) : Int) - (if nx || h.bo (p % h.P) then 0 else 1)
def unit (h : HM) (k : Nat) : Nat := prod (h.bs.drop k)
/-- the opens -/
def opn (h : HM) (k : Nat) : Nat := ((h.sk.take k).map (h.last - ·)).foldl (· + ·) 0
structure Ok (h : HM) : Prop where
  n1 : 1 ≤ h.bs.length
  n3 : h.bs.length ≤ 3
  b : ∀ b ∈ h.bs, 2 ≤ b ∧ b ≤ 4
  r3 : h.rows.length ≤ 3
  r : ∀ r ∈ h.rows, r.1 < h.bs.length ∧ 1 ≤ r.2.1 ∧ r.2.1 ≤ 4 ∧ r.2.2 < h.last
end HM
inductive Sp1 where
  | on (a : Nat) | back (a : Nat) | lab (a : Nat) (nx : Bool) | unlab (a : Nat) (nx : Bool) | to (k : Nat) | after (k : Nat) | read (i : Nat) (nx : Bool) | call (i : Nat) | rate (a b : Nat)
def hat (hs : List HM) (i : Nat) : HM := hs.getD i ⟨[], []⟩
def stepV (hs : List HM) (h : HM) : Sp1 → Nat → Int
  | .on a, n => ((n + a : Nat) : Int)
  | .back a, n => (n : Int) - a
  | .lab a nx, n => h.near (h.place n + a) nx
  | .unlab a nx, n => if a ≤ h.place n then h.near (h.place n - a) nx else -1
  | .to k, n => h.near (h.place n / h.unit k * h.unit k) true
  | .after k, n => h.near (h.place n / h.unit k * h.unit k + h.unit k) true
  | .read i nx, n => (hat hs i).near (h.place n) nx
  | .call _, n => (n : Int)
  | .rate a b, n => ((n * a / b : Nat) : Int)
def nextH (hs : List HM) (h : HM) : Sp1 → HM
  | .read i _ => hat hs i
  | .call i => hat hs i
  | _ => h
def val (hs : List HM) : List Sp1 → HM → Nat → Option Nat
  | [], _, n => some n
  | s :: ss, h, n => match stepV hs h s n with
    | .ofNat m => val hs ss (nextH hs h s) m
    | .negSucc _ => none
def roundS (hs : List HM) (h : HM) : Sp1 → Nat × Nat
  | .on _ => (1, 1)
  | .back _ => (1, 1)
  | .call _ => (1, 1)
  | .rate a b => (b / Nat.gcd a b, a / Nat.gcd a b)
  | .lab _ _ => (h.F, h.F)
  | .unlab _ _ => (h.F, h.F)
  | .read i _ => (h.F * (lcmN h.P (hat hs i).P / h.P), (hat hs i).F * (lcmN h.P (hat hs i).P / (hat hs i).P))
  | .to k => (h.F * (lcmN h.P (h.unit k) / h.P), h.F * (lcmN h.P (h.unit k) / h.P))
  | .after k => (h.F * (lcmN h.P (h.unit k) / h.P), h.F * (lcmN h.P (h.unit k) / h.P))
def thr (hs : List HM) : List Sp1 → HM → Nat → Nat → Nat × Nat
  | [], _, f, b => (f, b)
  | s :: ss, h, f, b =>
    let r := roundS hs h s
    let t := r.1 / Nat.gcd b r.1
    thr hs ss (nextH hs h s) (f * t) (b * t / r.1 * r.2)
def Sp1.Ok (hs : List HM) (h : HM) : Sp1 → Prop
  | .on a => a ≤ 10 ^ 38 + 3
  | .back a => a < 1000
  | .lab a _ => a ≤ 10 ^ 38 + 3
  | .unlab a _ => a < 1000
  | .to k => k < h.bs.length
  | .after k => k < h.bs.length
  | .read i _ => i < hs.length ∧ (hat hs i).bs = h.bs
  | .call i => i < hs.length
  | .rate a b => 1 ≤ a ∧ a ≤ 4 ∧ 1 ≤ b ∧ b ≤ 4
def OkS (hs : List HM) : List Sp1 → HM → Prop
  | [], _ => True
  | s :: ss, h => s.Ok hs h ∧ OkS hs ss (nextH hs h s)
end Lm
end
section
set_option Elab.async false
set_option linter.all false
set_option maxRecDepth 100000
set_option maxHeartbeats 2000000
namespace Lm
open PySem PySem.Spec L2 Evl
/-! ### promises of new lists, new tuples -/
def PL (n : Nat) (pre : List V → Hp → List V → Prop) : Sp := fun vs H Q _ => vs.length = n ∧ ∃ G xs, Ex G H ∧ pre vs G xs ∧ ∀ p H', H p = none → Ex H H' → H' p = some (.lst xs) → Q (.ref p) H'
def PU (n : Nat) (pre : List V → Hp → List V → Prop) : Sp := fun vs H Q _ => vs.length = n ∧ ∃ G xs, Ex G H ∧ pre vs G xs ∧ ∀ p H', H p = none → Ex H H' → H' p = some (.tup xs) → Q (.ref p) H'
theorem len_PL {n : Nat} {pre : List V → Hp → List V → Prop} : ∀ vs H Q E, PL n pre vs H Q E → vs.length = n := fun _ _ _ _ h => h.1
theorem len_PU {n : Nat} {pre : List V → Hp → List V → Prop} : ∀ vs H Q E, PU n pre vs H Q E → vs.length = n := fun _ _ _ _ h => h.1
section
variable {K : PySem.W.Frag} {σ : St} {G : Hp} {pre : List V → Hp → List V → Prop} {vs xs : List V} {ts : TA}
theorem stp_fresh {G H G' H' : Hp} {p : Addr} {o : HO} (s : Stp G H G' H') (hg : G p = none) (h : G' p = some o) : H p = none := by
  cases e : H p with
  | none => rfl
  | some u =>
    rw [s.2.2.2 p u e hg] at h
    cases h
theorem start_PL {t : TS} {H : Hp} {Q : VK} {E : XK} {n : Nat} (h : PL n pre vs H Q E)
    (k : ∀ G xs I Q, Cl I → pre vs G xs → (∀ p G', Ex G G' → G p = none → G' p = some (.lst xs) → GoV I Q (.ref p) G') → Go I t { nx := fun _ H' => Q .non H', rt := Q } σ G) : t { nx := fun _ H' => Q .non H', rt := Q } σ H := by
  obtain ⟨_, G, xs, e, p, q⟩ := h
  exact k G xs (Stp G H) Q cl_stp p (fun p G' _ hp h' H' e' i => q p H' (stp_fresh i hp h') i.2.1 (e' p _ h')) H e (Stp.refl e)
theorem start_PU {t : TS} {H : Hp} {Q : VK} {E : XK} {n : Nat} (h : PU n pre vs H Q E)
    (k : ∀ G xs I Q, Cl I → pre vs G xs → (∀ p G', Ex G G' → G p = none → G' p = some (.tup xs) → GoV I Q (.ref p) G') → Go I t { nx := fun _ H' => Q .non H', rt := Q } σ G) : t { nx := fun _ H' => Q .non H', rt := Q } σ H := by
  obtain ⟨_, G, xs, e, p, q⟩ := h
  exact k G xs (Stp G H) Q cl_stp p (fun p G' _ hp h' H' e' i => q p H' (stp_fresh i hp h') i.2.1 (e' p _ h')) H e (Stp.refl e)
theorem el_callP {n : Nat} (h : EvA ts σ G vs) (hp : pre (vs ++ []) G xs) (hn : (vs ++ []).length = n := by rfl) : EvL (tCall (PL n pre) [] E0 ts) σ G xs := el_call h fun H1 e Q q _ => ⟨hn, G, xs, e, hp, q⟩
theorem eu_callP {n : Nat} (h : EvA ts σ G vs) (hp : pre (vs ++ []) G xs) (hn : (vs ++ []).length = n := by rfl) : EvU (tCall (PU n pre) [] E0 ts) σ G xs := eu_call h fun H1 e Q q _ => ⟨hn, G, xs, e, hp, q⟩
theorem el_methP {n : Nat} {m : Str} {a C dx : Addr} {fs : List (Str × V)} {ta : TE} (ha : Ev ta σ G (.ref a)) (h : G a = some (.ins C dx fs)) (hm : fs.lookup m = none) (hs : EvA ts σ G vs) (hp : pre (.ref a :: (vs ++ [])) G xs) (hn : (vs ++ []).length + 1 = n := by rfl) :
    EvL (tMeth C m (PL n pre) [] E0 ta ts) σ G xs := fun H1 e Q q => ha H1 e _ fun H2 e2 => ⟨a, dx, fs, rfl, e2 _ _ (e _ _ h), hm, hs H2 (e.trans e2) _ fun H3 e3 =>
      ⟨hn, G, xs, (e.trans e2).trans e3, hp, fun p H4 hp e4 h4 => q p H4 (fresh_back (e2.trans e3) hp) ((e2.trans e3).trans e4) h4⟩⟩
end
/-! ### how the plain things stand in the heap -/
abbrev nV (n : Nat) : V := .int (n : Int)
def nL (ns : List Nat) : List V := ns.map nV
def AllR {α : Type} (R : V → α → Prop) : List V → List α → Prop
  | [], [] => True
  | v :: vs, a :: as => R v a ∧ AllR R vs as
  | _, _ => False
section
variable {α : Type} {R R' : V → α → Prop}
theorem AllR.len : ∀ {vs : List V} {as : List α}, AllR R vs as → vs.length = as.length
  | [], [], _ => rfl
  | [], _ :: _, h => h.elim
  | _ :: _, [], h => h.elim
  | _ :: _, _ :: _, h => congrArg (· + 1) h.2.len
theorem AllR.at : ∀ {vs : List V} {as : List α} {i : Nat} {v : V}, AllR R vs as → vs[i]? = some v → ∃ a, as[i]? = some a ∧ R v a
  | [], [], i, v, _, h => by simp at h
  | [], _ :: _, _, _, h, _ => h.elim
  | _ :: _, [], _, _, h, _ => h.elim
  | x :: vs, a :: as, 0, v, h, e => ⟨a, rfl, by
    have : x = v := by simpa using e
    rw [← this]; exact h.1⟩
  | x :: vs, a :: as, i + 1, v, h, e => by
    obtain ⟨b, h1, h2⟩ := h.2.at (i := i) (v := v) (by simpa using e)
    exact ⟨b, by simpa using h1, h2⟩
theorem AllR.to : ∀ {vs : List V} {as : List α} {i : Nat} {a : α}, AllR R vs as → as[i]? = some a → ∃ v, vs[i]? = some v ∧ R v a
  | [], [], i, v, _, h => by simp at h
  | [], _ :: _, _, _, h, _ => h.elim
  | _ :: _, [], _, _, h, _ => h.elim
  | x :: vs, a :: as, 0, b, h, e => ⟨x, rfl, by
    have : a = b := by simpa using e
    rw [← this]; exact h.1⟩
  | x :: vs, a :: as, i + 1, b, h, e => by
    obtain ⟨v, h1, h2⟩ := h.2.to (i := i) (a := b) (by simpa using e)
    exact ⟨v, by simpa using h1, h2⟩
theorem AllR.imp (k : ∀ v a, R v a → R' v a) : ∀ {vs : List V} {as : List α}, AllR R vs as → AllR R' vs as
  | [], [], _ => trivial
  | [], _ :: _, h => h.elim
  | _ :: _, [], h => h.elim
  | _ :: _, _ :: _, h => ⟨k _ _ h.1, h.2.imp k⟩
theorem AllR.app : ∀ {vs ws : List V} {as bs : List α}, AllR R vs as → AllR R ws bs → AllR R (vs ++ ws) (as ++ bs)
  | [], _, [], _, _, h => h
  | [], _, _ :: _, _, h, _ => h.elim
  | _ :: _, _, [], _, h, _ => h.elim
  | _ :: _, _, _ :: _, _, h, k => ⟨h.1, h.2.app k⟩
end
def nxS (nx : Bool) : V := .str (if nx then "next" else "last")
def Sp1.vals : Sp1 → List V
  | .on a => [.str "on", nV a]
  | .back a => [.str "back", nV a]
  | .lab a nx => [.str "label", nV a, nxS nx]
  | .unlab a nx => [.str "unlabel", nV a, nxS nx]
  | .to k => [.str "to", nV k]
  | .after k => [.str "after", nV k]
  | .read i nx => [.str "read", nV i, nxS nx]
  | .call i => [.str "call", nV i]
  | .rate a b => [.str "rate", nV a, nV b]
def StR (K : PySem.W.Frag) (G : Hp) (v : V) (s : Sp1) : Prop := ∃ p, v = .ref p ∧ SqT K G p s.vals
def rowV (r : Row) : List V := [nV r.1, nV r.2.1, nV r.2.2]
/-- a row as the program keeps it, as the law keeps it -/
def RowT (K : PySem.W.Frag) (G : Hp) (v : V) (r : Row) : Prop := ∃ p, v = .ref p ∧ SqT K G p (rowV r)
def RowL (K : PySem.W.Frag) (G : Hp) (v : V) (r : Row) : Prop := ∃ p, v = .ref p ∧ SqL K G p (rowV r)
def kS (s : Str) : Key := .inr s
/-- the law's house -/
structure HomF (K : PySem.W.Frag) (G : Hp) (a : Addr) (h : HM) (g l sp be : Addr) (ls : List V) : Prop where
  d : G a = some (.dK [(kS "ground", .ref g), (kS "lanes", .ref l), (kS "groups", nV h.size), (kS "spots", .ref sp), (kS "below", .ref be)])
  g : SqL K G g (nL h.bs)
  l : SqL K G l ls
  ls : AllR (RowL K G) ls h.rows
  s : SqL K G sp (nL h.spots)
  b : SqL K G be (nL h.below)
def HomR (K : PySem.W.Frag) (G : Hp) (v : V) (h : HM) : Prop := ∃ a g l sp be ls, v = .ref a ∧ HomF K G a h g l sp be ls ∧ h.Ok
def opL (h : HM) : List Nat := (List.range (h.size + 1)).map h.opn
/-- the program's house -/
structure HouF (K : PySem.W.Frag) (G : Hp) (a dx : Addr) (h : HM) (tp lt sl ol : Addr) (ls : List V) : Prop where
  o : G a = some (.ins (He.ga K "House") dx [("parts", .ref tp), ("lots", .ref lt), ("last", nV h.last), ("groups", nV h.size), ("skips", .ref sl), ("opens", .ref ol), ("frames", nV h.F), ("places", nV h.P)])
  t : SqT K G tp (nL h.bs)
  l : SqT K G lt ls
  s : SqL K G sl (nL h.sk)
  p : SqL K G ol (nL (opL h))
def HouR (K : PySem.W.Frag) (G : Hp) (v : V) (h : HM) : Prop := ∃ a dx tp lt sl ol ls, v = .ref a ∧ HouF K G a dx h tp lt sl ol ls ∧ h.Ok
def oV : Option Nat → V
  | none => .non
  | some n => nV n
section
variable {K : PySem.W.Frag} {G G' : Hp} {v : V}
theorem StR.mono {s : Sp1} (e : Ex G G') : StR K G v s → StR K G' v s := fun ⟨p, h1, h2⟩ => ⟨p, h1, ex_t e h2⟩
theorem RowT.mono {s : Row} (e : Ex G G') : RowT K G v s → RowT K G' v s := fun ⟨p, h1, h2⟩ => ⟨p, h1, ex_t e h2⟩
theorem RowL.mono {s : Row} (e : Ex G G') : RowL K G v s → RowL K G' v s := fun ⟨p, h1, h2⟩ => ⟨p, h1, ex_l e h2⟩
theorem HomR.mono {h : HM} (e : Ex G G') : HomR K G v h → HomR K G' v h := fun ⟨a, g, l, sp, be, ls, h1, h2, h3⟩ => ⟨a, g, l, sp, be, ls, h1, ⟨e _ _ h2.d, ex_l e h2.g, ex_l e h2.l, h2.ls.imp fun _ _ => RowL.mono e, ex_l e h2.s, ex_l e h2.b⟩, h3⟩
theorem HouR.mono {h : HM} (e : Ex G G') : HouR K G v h → HouR K G' v h := fun ⟨a, dx, tp, lt, sl, ol, ls, h1, h2, h3⟩ => ⟨a, dx, tp, lt, sl, ol, ls, h1, ⟨e _ _ h2.o, ex_t e h2.t, ex_t e h2.l, ex_l e h2.s, ex_l e h2.p⟩, h3⟩
theorem AllR.ex {α : Type} {R : PySem.W.Frag → Hp → V → α → Prop} (m : ∀ v a, R K G v a → R K G' v a) {vs : List V} {as : List α} (h : AllR (R K G) vs as) : AllR (R K G') vs as := h.imp m
/-! ### positions -/
theorem atI_nat {α : Type} {xs : List α} {i : Nat} : atI xs (i : Int) = xs[i]? := by
  unfold atI ixN
  rw [if_pos (by omega)]
  by_cases h : (i : Int) < xs.length
  · rw [if_pos h]
    rfl
  · rw [if_neg h]
    show none = _
    symm
    rw [List.getElem?_eq_none_iff]
    omega
theorem atI_last {α : Type} {xs : List α} (h : xs ≠ []) : atI xs (-1) = xs.getLast? := by
  have hl : 0 < xs.length := List.length_pos_iff.mpr h
  unfold atI ixN
  rw [if_neg (by omega), if_pos (by omega)]
  show xs[((-1 : Int) + (xs.length : Int)).toNat]? = _
  rw [List.getLast?_eq_getElem?]
  congr 1
  omega
theorem nL_get {ns : List Nat} {i : Nat} (h : i < ns.length) : (nL ns)[i]? = some (nV (ns.getD i 0)) := by
  unfold nL
  rw [List.getElem?_map, List.getElem?_eq_getElem h]
  simp [List.getD, h]
theorem nL_len {ns : List Nat} : (nL ns).length = ns.length := by unfold nL; exact List.length_map ..
end
end Lm
end
section
set_option Elab.async false
set_option linter.all false
namespace Lm
theorem digs_len : ∀ (bs : List Nat) (p : Nat), (digs p bs).length = bs.length + 1
  | [], _ => rfl
  | _ :: bs, _ => congrArg (· + 1) (digs_len bs _)
theorem any_congr {α : Type} {p q : α → Bool} (h : ∀ x, p x = q x) {l : List α} : l.any p = l.any q := by
  rw [funext h]
theorem not_any (l : List Nat) : (!(l.any fun n => ((n : Int) != 0))) = l.all (· == 0) := by
  rw [Bool.eq_iff_iff]
  simp
theorem again_eq {gs : List Nat} {k : Nat} (hk : k ≤ gs.length) : (((List.range (gs.drop k).length).map fun i => decide ((gs.drop k).getD i 0 = gs.getD i 0)).all id) = (gs.drop k == gs.take (gs.length - k)) := by
  rw [Bool.eq_iff_iff, List.all_eq_true, beq_iff_eq]
  constructor
  · intro h
    apply List.ext_getElem
    · rw [List.length_drop, List.length_take]; omega
    · intro i h1 h2
      have := h (decide ((gs.drop k).getD i 0 = gs.getD i 0)) (by
        rw [List.mem_map]
        exact ⟨i, List.mem_range.mpr h1, rfl⟩)
      have e : (gs.drop k).getD i 0 = gs.getD i 0 := by simpa using this
      rw [List.getElem_take]
      have hi : i < gs.length := by rw [List.length_drop] at h1; omega
      rw [List.getD_eq_getElem?_getD, List.getElem?_eq_getElem h1, List.getD_eq_getElem?_getD, List.getElem?_eq_getElem hi] at e
      exact e
  · intro h b hb
    rw [List.mem_map] at hb
    obtain ⟨i, hi, rfl⟩ := hb
    rw [List.mem_range] at hi
    have hi2 : i < gs.length - k := by rwa [List.length_drop] at hi
    have e : (gs.drop k)[i]? = (gs.take (gs.length - k))[i]? := by rw [h]
    rw [List.getElem?_take_of_lt hi2] at e
    simp [List.getD, e]
end Lm
end
section
set_option Elab.async false
set_option linter.all false
set_option maxRecDepth 100000
set_option maxHeartbeats 2000000
namespace Lm
open PySem PySem.Spec L2 Evl
/-- what is walked over, known G: n turns, Y what each gives -/
def EvW (wi : TI) (σ : St) (G : Hp) (n : Nat) (Y : Nat → Hp → V → Hp → Prop) : Prop :=
  ∀ H1, Ex G H1 → ∀ R : It → Hp → Prop, (∀ J (Gd : Hp → Prop) H2, Ex H1 H2 → Walk J n Gd Y → (∀ H3, Ex H2 H3 → Gd H3) → R J H2) → wi σ H1 R
section
variable {K : PySem.W.Frag} {I : Hp → Hp → Prop} {σ : St} {G : Hp} {ta tb tc te tv tl : TE} {ts : TA} {tt : TT} {x y z v : V} {D : Ends} {tu tw tz : TS} {R : V → Hp → Prop} {vs xs ys : List V} {wi : TI} {g : TG} {n : Nat}
  {Y : Nat → Hp → V → Hp → Prop}
theorem ew_list {p : Addr} (h : Ev tl σ G (.ref p)) (hx : SqL K G p xs) : EvW (iList K tl) σ G xs.length (YAt xs) := fun H1 e R q => h H1 e _ fun H2 e2 => ⟨p, rfl, ⟨xs, ex_l (e.trans e2) hx⟩, q _ _ H2 e2 walk_list fun H3 e3 => ex_l ((e.trans e2).trans e3) hx⟩
theorem ew_listN (h : EvL tl σ G xs) : EvW (iList K tl) σ G xs.length (YAt xs) := fun H1 e R q => h H1 e _ fun p H2 _ e2 h2 => ⟨p, rfl, ⟨xs, sq_of h2⟩, q _ _ H2 e2 walk_list fun H3 e3 => sq_of (e3 p _ h2)⟩
theorem ew_tup {p : Addr} (h : Ev tl σ G (.ref p)) (hx : SqT K G p xs) : EvW (iTup K tl) σ G xs.length (YAt xs) := fun H1 e R q => h H1 e _ fun H2 e2 => ⟨p, rfl, ⟨xs, ex_t (e.trans e2) hx⟩, q _ _ H2 e2 walk_tup fun H3 e3 => ex_t ((e.trans e2).trans e3) hx⟩
theorem ew_tupN (h : EvU tl σ G xs) : EvW (iTup K tl) σ G xs.length (YAt xs) := fun H1 e R q => h H1 e _ fun p H2 _ e2 h2 => ⟨p, rfl, ⟨xs, st_of h2⟩, q _ _ H2 e2 walk_tup fun H3 e3 => st_of (e3 p _ h2)⟩
theorem ew_rng {m : Nat} (h : EvA ts σ G [nV m]) (hm : m ≤ 100000) : EvW (iRng1 ts) σ G m (YFn fun i => nV i) := fun H1 e R q => h H1 e _ fun H2 e2 => ⟨(m : Int), rfl, by omega, by omega, by
  refine q _ (fun _ => True) H2 e2 ?_ fun _ _ => trivial
  rw [Int.toNat_natCast]
  exact walk_range.mono (fun _ h => h) fun i H x H' _ _ y => ⟨y.1, y.2.trans (by show V.int (0 + (i : Int)) = V.int (i : Int); rw [Int.zero_add])⟩⟩
theorem ew_rng2 {lo hi : Nat} (h : EvA ts σ G [nV lo, nV hi]) (hm : hi ≤ 100000) (hlo : lo ≤ 100000) : EvW (iRng2 ts) σ G (hi - lo) (YFn fun i => nV (lo + i)) := fun H1 e R q => h H1 e _ fun H2 e2 => ⟨(lo : Int), (hi : Int), rfl, ⟨by omega, by omega, by omega, by omega⟩, by
  refine q _ (fun _ => True) H2 e2 ?_ fun _ _ => trivial
  rw [show ((hi : Int) - (lo : Int)).toNat = hi - lo by omega]
  exact walk_range.mono (fun _ h => h) fun i H x H' _ _ y => ⟨y.1, y.2.trans (by show V.int ((lo : Int) + (i : Int)) = V.int ((lo + i : Nat) : Int); rw [Int.natCast_add])⟩⟩
theorem ew_enumN (h : EvL tl σ G xs) : EvW (iEnum K (tCons tl tNil)) σ G xs.length (YPair (fun i => some (nV i)) (fun i => xs[i]?)) := fun H1 e R q => h H1 e _ fun p H2 _ e2 h2 => ⟨p, xs, rfl, sq_of h2, q _ _ H2 e2 walk_enum fun H3 e3 => sq_of (e3 p _ h2)⟩
theorem ew_enum {p : Addr} (h : Ev tl σ G (.ref p)) (hx : SqL K G p xs) : EvW (iEnum K (tCons tl tNil)) σ G xs.length (YPair (fun i => some (nV i)) (fun i => xs[i]?)) := fun H1 e R q => h H1 e _ fun H2 e2 => ⟨p, xs, rfl, ex_l (e.trans e2) hx, q _ _ H2 e2 walk_enum fun H3 e3 => ex_l ((e.trans e2).trans e3) hx⟩
theorem ew_enumT {p : Addr} (h : Ev tl σ G (.ref p)) (hx : SqT K G p xs) : EvW (iEnumT K (tCons tl tNil)) σ G xs.length (YPair (fun i => some (nV i)) (fun i => xs[i]?)) := fun H1 e R q => h H1 e _ fun H2 e2 => ⟨p, xs, rfl, ex_t (e.trans e2) hx, q _ _ H2 e2 walk_enumT fun H3 e3 => ex_t ((e.trans e2).trans e3) hx⟩
theorem ew_zip {p q : Addr} {tm : TE} (h : Ev tl σ G (.ref p)) (hx : SqL K G p xs) (h2 : Ev tm σ G (.ref q)) (hy : SqL K G q ys) (hn : n = min xs.length ys.length) : EvW (iZip K (tCons tl (tCons tm tNil))) σ G n (YPair (fun i => xs[i]?) (fun i => ys[i]?)) := fun H1 e R k =>
  h H1 e _ fun H2 e2 => h2 H2 (e.trans e2) _ fun H3 e3 => ⟨p, q, xs, ys, rfl, ex_l ((e.trans e2).trans e3) hx, ex_l ((e.trans e2).trans e3) hy, k _ _ H3 (e2.trans e3) (walk_zip hn) fun H4 e4 => ⟨ex_l (((e.trans e2).trans e3).trans e4) hx, ex_l (((e.trans e2).trans e3).trans e4) hy⟩⟩
/-- a comprehension whose parts leave what is known -/
theorem el_lc (f : Nat → Bool) (vf : Nat → V) {ws : List Nat} (h : EvW wi σ G n Y) (hn : n ≤ 40000)
    (hs : ∀ i x H H', i < n → Ex G H → Y i H x H' → ∃ σ2, (∀ Q : St → Hp → Prop, Q σ2 H' → g x (wipe σ ws) H' Q) ∧ Ex H H' ∧ wipe σ2 ws = wipe σ ws ∧ EvT tt σ2 G (f i) ∧ (f i = true → Ev te σ2 G (vf i))) :
    EvL (tLc wi g tt te ws) σ G (given n f vf) := fun H0 e Q q => h H0 e _ fun J Gd H1 e1 w hg Dl hD => by
  refine lc_it w (Cw H1 f vf Dl) ⟨hD, Ex.new hD, upd_same⟩ (fun i H' _ p => hg _ p.2.1) (fun i x H' H2 hi p y => ?_) (fun H' p => q Dl H' (fresh_back e1 p.1) (e1.trans p.2.1) p.2.2)
  obtain ⟨σ2, hgo, z1, z2, z3, z4⟩ := hs i x H' H2 hi ((e.trans e1).trans p.2.1) y
  exact hgo _ ⟨z2, cw_turn (H := H1) ⟨p.1, p.2.1.trans z1, z1 Dl _ p.2.2⟩ (by omega) (z3.mono (e.trans e1)) fun hf => (z4 hf).mono (e.trans e1)⟩
theorem yat_name {m : Nat} {i : Nat} {H H' : Hp} {σ' : St} (y : YAt xs i H x H') : xs[i]? = some x ∧ Ex H H' ∧ ∀ Q : St → Hp → Prop, Q (σ'.set m (some x)) H' → gName m x σ' H' Q := by
  obtain ⟨e1, y⟩ := y
  subst e1
  exact ⟨y, Ex.refl _, fun Q q => q⟩
theorem ypair_names {m l : Nat} {i : Nat} {H H' : Hp} {σ' : St} {a b : Nat → Option V} (y : YPair a b i H v H') : ∃ x z, a i = some x ∧ b i = some z ∧ Ex H H' ∧ ∀ Q : St → Hp → Prop, Q ((σ'.set m (some x)).set l (some z)) H' → gTup K 2 (gCons (gName m) (gCons (gName l) gNil)) v σ' H' Q := by
  obtain ⟨T, x, z, e1, hT, e2, y1, y2⟩ := y
  subst e1 e2
  exact ⟨x, z, y1, y2, Ex.new hT, fun Q q => ⟨T, _, rfl, st_of upd_same, rfl, _, _, rfl, _, _, rfl, rfl, q⟩⟩
/-- [.. for x in l] -/
theorem el_lcA (f : Nat → Bool) (vf : Nat → V) {ws : List Nat} {m : Nat} (h : EvW wi σ G xs.length (YAt xs)) (hn : xs.length ≤ 40000)
    (hw : ∀ x, wipe ((wipe σ ws).set m (some x)) ws = wipe σ ws) (hs : ∀ i x, xs[i]? = some x → EvT tt ((wipe σ ws).set m (some x)) G (f i) ∧ (f i = true → Ev te ((wipe σ ws).set m (some x)) G (vf i))) :
    EvL (tLc wi (gName m) tt te ws) σ G (given xs.length f vf) := el_lc f vf h hn fun i x H H' hi e y => by
  obtain ⟨y1, y2, y3⟩ := yat_name (m := m) (σ' := wipe σ ws) y
  exact ⟨_, y3, y2, hw x, hs i x y1⟩
/-- [.. for i in range(n)] -/
theorem el_lcF (f : Nat → Bool) (vf F : Nat → V) {ws : List Nat} {m : Nat} (h : EvW wi σ G n (YFn F)) (hn : n ≤ 40000)
    (hw : ∀ x, wipe ((wipe σ ws).set m (some x)) ws = wipe σ ws) (hs : ∀ i, i < n → EvT tt ((wipe σ ws).set m (some (F i))) G (f i) ∧ (f i = true → Ev te ((wipe σ ws).set m (some (F i))) G (vf i))) :
    EvL (tLc wi (gName m) tt te ws) σ G (given n f vf) := el_lc f vf h hn fun i x H H' hi e y => by
  obtain ⟨e1, y⟩ := y
  subst e1 y
  exact ⟨_, fun Q q => q, Ex.refl _, hw _, hs i hi⟩
/-- [.. for a, b in enumerate(l) | zip(l, m)] -/
theorem el_lcP (f : Nat → Bool) (vf : Nat → V) {a b : Nat → Option V} {ws : List Nat} {m l : Nat} (h : EvW wi σ G n (YPair a b)) (hn : n ≤ 40000)
    (hw : ∀ x y, wipe (((wipe σ ws).set m (some x)).set l (some y)) ws = wipe σ ws)
    (hs : ∀ i x y, i < n → a i = some x → b i = some y → EvT tt (((wipe σ ws).set m (some x)).set l (some y)) G (f i) ∧ (f i = true → Ev te (((wipe σ ws).set m (some x)).set l (some y)) G (vf i))) :
    EvL (tLc wi (gTup K 2 (gCons (gName m) (gCons (gName l) gNil))) tt te ws) σ G (given n f vf) := el_lc f vf h hn fun i x H H' hi e y => by
  obtain ⟨x1, x2, y1, y2, y3, y4⟩ := ypair_names (K := K) (m := m) (l := l) (σ' := wipe σ ws) y
  exact ⟨_, y4, y3, hw _ _, hs i x1 x2 hi y1 y2⟩
theorem given_all {f : Nat → V} : given n (fun _ => true) f = (List.range n).map f := by
  unfold given
  rw [List.filter_eq_self.mpr fun _ _ => rfl]
theorem et_yes : EvT tYes σ G true := fun H1 _ Q q => q H1 (Ex.refl H1)
/-! ### lists, tuples, texts -/
theorem el_cat {p : Addr} (ha : Ev ta σ G (.ref p)) (hp : G p = some (.lst xs)) (hb : EvL tb σ G ys) (hz : xs.length + ys.length ≤ 100000) : EvL (tOp rCat ta tb) σ G (xs ++ ys) := fun H1 e Q q =>
  ha H1 e _ fun H2 e2 => hb H2 (e.trans e2) _ fun b H3 _ e3 h3 => ⟨p, b, xs, ys, rfl, rfl, ((e.trans e2).trans e3) p _ hp, h3, sz_of hz, fun r hr => q r _ (fresh_back (e2.trans e3) hr) ((e2.trans e3).trans (Ex.new hr)) upd_same⟩
theorem el_catN {p : Addr} (ha : EvL ta σ G xs) (hb : Ev tb σ G (.ref p)) (hp : G p = some (.lst ys)) (hz : xs.length + ys.length ≤ 100000) : EvL (tOp rCat ta tb) σ G (xs ++ ys) := fun H1 e Q q =>
  ha H1 e _ fun b H2 _ e2 h2 => hb H2 (e.trans e2) _ fun H3 e3 => ⟨b, p, xs, ys, rfl, rfl, e3 b _ h2, ((e.trans e2).trans e3) p _ hp, sz_of hz, fun r hr => q r _ (fresh_back (e2.trans e3) hr) ((e2.trans e3).trans (Ex.new hr)) upd_same⟩
theorem el_catNN (ha : EvL ta σ G xs) (hb : EvL tb σ G ys) (hz : xs.length + ys.length ≤ 100000) : EvL (tOp rCat ta tb) σ G (xs ++ ys) := fun H1 e Q q =>
  ha H1 e _ fun b H2 _ e2 h2 => hb H2 (e.trans e2) _ fun c H3 _ e3 h3 => ⟨b, c, xs, ys, rfl, rfl, e3 b _ h2, h3, sz_of hz, fun r hr => q r _ (fresh_back (e2.trans e3) hr) ((e2.trans e3).trans (Ex.new hr)) upd_same⟩
theorem ev_lenNew (h : EvL ta σ G xs) : Ev (tCB (fun xs H Q => ∃ p ys, xs = [.ref p] ∧ (SqL K H p ys ∨ SqT K H p ys) ∧ Q (.int ys.length) H) (tCons ta tNil)) σ G (.int (xs.length : Int)) := fun H1 e Q q =>
  h H1 e _ fun p H2 _ e2 h2 => ⟨p, xs, rfl, Or.inl (sq_of h2), q H2 e2⟩
theorem ev_all {bs : List Bool} (h : EvL ta σ G (bs.map V.bl)) : Ev (tCB (rAll K) (tCons ta tNil)) σ G (.bl (bs.all id)) := fun H1 e Q q => h H1 e _ fun p H2 _ e2 h2 => ⟨p, bs, rfl, sq_of h2, q H2 e2⟩
theorem ev_anyI {ns : List Int} (h : EvL ta σ G (ns.map V.int)) : Ev (tCB (rAnyI K) (tCons ta tNil)) σ G (.bl (ns.any (fun n => n != 0))) := fun H1 e Q q => h H1 e _ fun p H2 _ e2 h2 => ⟨p, ns, rfl, sq_of h2, q H2 e2⟩
theorem ea_starL {p : Addr} (h : Ev te σ G (.ref p)) (hp : SqL K G p xs) (hr : EvA ts σ G ys) : EvA (StX.tStar K te ts) σ G (xs ++ ys) := fun H1 e Q q => h H1 e _ fun H2 e2 => ⟨p, xs, rfl, Or.inr (ex_l (e.trans e2) hp), hr H2 (e.trans e2) _ fun H3 e3 => q H3 (e2.trans e3)⟩
theorem ea_starN (h : EvL te σ G xs) (hr : EvA ts σ G ys) : EvA (StX.tStar K te ts) σ G (xs ++ ys) := fun H1 e Q q => h H1 e _ fun p H2 _ e2 h2 => ⟨p, xs, rfl, Or.inr (sq_of h2), hr H2 (e.trans e2) _ fun H3 e3 => q H3 (e2.trans e3)⟩
theorem eu_revT {p : Addr} (h : Ev te σ G (.ref p)) (hp : SqT K G p xs) : EvU (tRevT K te) σ G xs.reverse := fun H1 e Q q => h H1 e _ fun H2 e2 => ⟨p, xs, rfl, ex_t (e.trans e2) hp, fun r hr => q r _ (fresh_back e2 hr) (e2.trans (Ex.new hr)) upd_same⟩
theorem eu_revTN (h : EvU te σ G xs) : EvU (tRevT K te) σ G xs.reverse := fun H1 e Q q => h H1 e _ fun p H2 _ e2 h2 => ⟨p, xs, rfl, st_of h2, fun r hr => q r _ (fresh_back e2 hr) (e2.trans (Ex.new hr)) upd_same⟩
theorem go_retL (hI : Cl I) (h : EvL te σ G xs) (k : ∀ p, G p = none → GoV I D.rt (.ref p) (upd G p (.lst xs))) : Go I (tRet te) D σ G := go_retX hI (EvX.ofL h) fun v G' _ ⟨p, e1, hp, e2⟩ => by subst e1 e2; exact k p hp
theorem go_retU (hI : Cl I) (h : EvU te σ G xs) (k : ∀ p, G p = none → GoV I D.rt (.ref p) (upd G p (.tup xs))) : Go I (tRet te) D σ G := go_retX hI (EvX.ofU h) fun v G' _ ⟨p, e1, hp, e2⟩ => by subst e1 e2; exact k p hp
theorem el_eqv {zs : List V} (h : EvL te σ G xs) (e : xs = zs) : EvL te σ G zs := by subst e; exact h
theorem eu_eqv {zs : List V} (h : EvU te σ G xs) (e : xs = zs) : EvU te σ G zs := by subst e; exact h
theorem upd_none {p r : Addr} {o : HO} (h : upd G p o r = none) : G r = none ∧ r ≠ p := by
  by_cases e : r = p
  · rw [e, upd_same] at h
    cases h
  · rw [upd_ne e] at h
    exact ⟨h, e⟩
/-! ### own lists by two, by three names -/
theorem wl_enter {H H1 : Hp} {p : Addr} {o : HO} (c : Cl I) (e : Ex G H) (i : I G H) (hp : H p = none) (e1 : Ex H H1) (h1 : H1 p = some o) : Ex (upd G p o) H1 ∧ Wl p I (upd G p o) H1 ∧ G p = none ∧ (∀ a, Va a I → a ≠ p) := by
  have s := Stp.take e hp e1 h1
  have hg := fresh_back e hp
  refine ⟨s.2.2.1, ⟨?_, by rw [upd_same]; exact fun z => by cases z⟩, hg, fun a va => fun z => by
    obtain ⟨_, _, _, _, _, _, _, ha⟩ := va.has _ _ i
    rw [z, hp] at ha
    cases ha⟩
  rw [del_upd]
  have h2 : Stp G H (del G p) (del H1 p) := by
    rw [del_none hg]
    refine ⟨Ex.refl G, fun b o hb => ?_, fun b o hb => ?_, fun b o _ h => h⟩
    · rw [del_ne (ne_of_none hb hp)]
      exact e1 b o hb
    · rw [del_ne (ne_of_none hb hg)]
      exact e1 b o (e b o hb)
  exact c _ _ _ _ h2 i
/-- l, x = [..], e -/
theorem go_parO {n m : Nat} (c : Cl I) (h : EvL ta σ G xs) (h2 : ∀ p, G p = none → Ev tb σ (upd G p (.lst xs)) y) (k : ∀ p, G p = none → (∀ a, Va a I → a ≠ p) → Go (Wl p I) tz D ((σ.set n (some (.ref p))).set m (some y)) (upd G p (.lst xs))) :
    Go I (tSeq (tPar n m (tCons ta (tCons tb tNil))) tz) D σ G := fun H e i => h H e _ fun p H1 hp e1 h1 => by
  obtain ⟨z1, z2, z3, z4⟩ := wl_enter c e i hp e1 h1
  exact h2 p z3 H1 z1 _ fun H2 e2 => ⟨_, _, rfl, k p z3 z4 H2 (z1.trans e2) (cl_wl c _ _ _ _ (Stp.ex z1 e2) z2)⟩
/-- l, m = [], [] -/
theorem go_parOO {n m : Nat} (c : Cl I) (h : EvL ta σ G xs) (h2 : ∀ p, G p = none → EvL tb σ (upd G p (.lst xs)) ys)
    (k : ∀ p q, G p = none → G q = none → p ≠ q → (∀ a, Va a I → a ≠ p ∧ a ≠ q) → Go (Wl q (Wl p I)) tz D ((σ.set n (some (.ref p))).set m (some (.ref q))) (upd (upd G p (.lst xs)) q (.lst ys))) :
    Go I (tSeq (tPar n m (tCons ta (tCons tb tNil))) tz) D σ G := fun H e i => h H e _ fun p H1 hp e1 h1 => by
  obtain ⟨z1, z2, z3, z4⟩ := wl_enter c e i hp e1 h1
  refine h2 p z3 H1 z1 _ fun q H2 hq e2 hh2 => ?_
  obtain ⟨y1, y2, y3, y4⟩ := wl_enter (cl_wl c) z1 z2 hq e2 hh2
  have hpq : p ≠ q := fun z => by
    rw [← z, upd_same] at y3
    cases y3
  rw [upd_ne hpq.symm] at y3
  exact ⟨_, _, rfl, k p q z3 y3 hpq (fun a va => ⟨z4 a va, y4 a (va_wl va (z4 a va))⟩) H2 y1 y2⟩
theorem go_par3OO {n m l : Nat} (c : Cl I) (h : EvL ta σ G xs) (h2 : ∀ p, G p = none → EvL tb σ (upd G p (.lst xs)) ys) (h3 : ∀ G', Ev tc σ G' z)
    (k : ∀ p q, G p = none → G q = none → p ≠ q → Go (Wl q (Wl p I)) tz D (((σ.set n (some (.ref p))).set m (some (.ref q))).set l (some z)) (upd (upd G p (.lst xs)) q (.lst ys))) :
    Go I (tSeq (tPar3 n m l (tCons ta (tCons tb (tCons tc tNil)))) tz) D σ G := fun H e i => h H e _ fun p H1 hp e1 h1 => by
  obtain ⟨z1, z2, z3, z4⟩ := wl_enter c e i hp e1 h1
  refine h2 p z3 H1 z1 _ fun q H2 hq e2 hh2 => ?_
  obtain ⟨y1, y2, y3, y4⟩ := wl_enter (cl_wl c) z1 z2 hq e2 hh2
  have hpq : p ≠ q := fun z => by
    rw [← z, upd_same] at y3
    cases y3
  rw [upd_ne hpq.symm] at y3
  exact h3 _ H2 y1 _ fun H3 e3 => ⟨_, _, _, rfl, k p q z3 y3 hpq H3 (y1.trans e3) (cl_wl (cl_wl c) _ _ _ _ (Stp.ex y1 e3) y2)⟩
theorem upd_upd {p : Addr} {o o' : HO} : upd (upd G p o) p o' = upd G p o' := by
  funext b
  by_cases h : b = p
  · subst h
    rw [upd_same, upd_same]
  · rw [upd_ne h, upd_ne h, upd_ne h]
theorem upd_comm {p q : Addr} {o o' : HO} (h : p ≠ q) : upd (upd G p o) q o' = upd (upd G q o') p o := by
  funext b
  by_cases h1 : b = p
  · subst h1
    rw [upd_ne h, upd_same, upd_same]
  · by_cases h2 : b = q
    · subst h2
      rw [upd_same, upd_ne h1, upd_same]
    · rw [upd_ne h2, upd_ne h1, upd_ne h1, upd_ne h2]
/-- xs.append(e) of one's own list -/
theorem go_appO {l : Addr} (c : Cl I) (hl : G l = some (.lst xs)) (ha : Ev ta σ G (.ref l)) (h : Ev te σ G v) (hz : xs.length < 100000) (k : GoN (Wl l I) D.nx σ (upd G l (.lst (xs ++ [v])))) :
    Go (Wl l I) (tDrop (tBM K "list" rAppend ta (tCons te tNil))) D σ G := go_app (cl_wl c) (fun H i => wl_upd i) hl ha h hz k
theorem go_appO2 {l m : Addr} (c : Cl I) (hlm : l ≠ m) (hl : G l = some (.lst xs)) (ha : Ev ta σ G (.ref l)) (h : Ev te σ G v) (hz : xs.length < 100000) (k : GoN (Wl m (Wl l I)) D.nx σ (upd G l (.lst (xs ++ [v])))) :
    Go (Wl m (Wl l I)) (tDrop (tBM K "list" rAppend ta (tCons te tNil))) D σ G := go_app (cl_wl (cl_wl c)) (fun H i => wl_upd2 hlm (fun _ _ j => wl_upd j) i) hl ha h hz k
theorem go_appS {l : Addr} (c : Cl I) (hl : G l = some (.lst xs)) (ha : Ev ta σ G (.ref l)) (h : Ev te σ G v) (hz : xs.length < 100000) (k : Go (Wl l I) tz D σ (upd G l (.lst (xs ++ [v])))) :
    Go (Wl l I) (tSeq (tDrop (tBM K "list" rAppend ta (tCons te tNil))) tz) D σ G := go_appO (D := { D with nx := tz D }) c hl ha h hz k
/-- for x in a new tuple | a new list, own lists within -/
theorem go_forW {α : Type} {m : Nat} (S : Nat → α → St) (P : Nat → α → Hp) (W : Nat → α → Prop) (a0 : α) (hσ : σ = S 0 a0) (hG : G = P 0 a0) (w0 : W 0 a0) (hI : Cl I) (h : EvU tl σ G xs) (hU : ∀ p i a, G p = none → W i a → (P i a) p = none)
    (hs : ∀ p i a x, G p = none → xs[i]? = some x → W i a → Go I tu { D with nx := LN I S (fun i a => upd (P i a) p (.tup xs)) W (i + 1), ct := LN I S (fun i a => upd (P i a) p (.tup xs)) W (i + 1), bk := tz D } ((S i a).set m (some x)) (upd (P i a) p (.tup xs)))
    (hd : ∀ p a, G p = none → W xs.length a → Go I tz D (S xs.length a) (upd (P xs.length a) p (.tup xs))) : Go I (tSeq (tFor (iTup K tl) (gName m) tu) tz) D σ G := fun H e i =>
  h H e _ fun p H1 hp e1 h1 => ⟨p, rfl, ⟨xs, st_of h1⟩, by
    have hg := fresh_back e hp
    have s := Stp.take e hp e1 h1
    exact for_it walk_tup (D := { D with nx := tz D }) (LN I S (fun i a => upd (P i a) p (.tup xs)) W) ⟨a0, hσ, w0, by show Ex (upd (P 0 a0) p _) _; rw [← hG]; exact s.2.2.1, by show I (upd (P 0 a0) p _) _; rw [← hG]; exact hI _ _ _ _ s i⟩ (fun k σ' H' hk ⟨a, _, wa, ea, _⟩ => st_of (ea p _ upd_same))
      (fun k x σ' H' H2 hk ⟨a, es, wa, ea, ia⟩ y => by subst es; obtain ⟨e1, y⟩ := y; subst e1; exact hs p k a x hg y wa H2 ea ia) (fun σ' H' ⟨a, es, wa, ea, ia⟩ => by subst es; exact hd p a hg wa H' ea ia)⟩
end

section
variable {K : PySem.W.Frag} {I : Hp → Hp → Prop} {σ : St} {G : Hp} {ta tb tc te tv tl : TE} {ts : TA} {tt : TT} {x y z v : V} {D : Ends} {tu tw tz : TS} {R : V → Hp → Prop} {vs xs ys : List V} {wi : TI} {g : TG} {n : Nat}
  {Y : Nat → Hp → V → Hp → Prop} {tlo thi : TO}
/-! ### slices -/
theorem cut_init {k : Nat} : cutV xs none (some (k : Int)) = xs.take k := by
  unfold cutV
  rw [HT.sIx_none, HT.sIx_nat, List.drop_zero, Nat.sub_zero]
  by_cases h : k ≤ xs.length
  · rw [Nat.min_eq_left h]
  · rw [Nat.min_eq_right (by omega), List.take_of_length_le (by omega), List.take_of_length_le (by omega)]
theorem cut_tail {k : Nat} : cutV xs (some (k : Int)) none = xs.drop k := by
  unfold cutV
  rw [HT.sIx_none, HT.sIx_nat]
  by_cases h : k ≤ xs.length
  · rw [Nat.min_eq_left h, List.take_of_length_le (by rw [List.length_drop]; omega)]
  · rw [Nat.min_eq_right (by omega), List.drop_of_length_le (by omega), List.drop_of_length_le (by omega)]
    simp
theorem cut_but : cutV xs none (some (-1)) = xs.dropLast := by
  unfold cutV
  rw [HT.sIx_none]
  show (xs.drop 0).take (((-1 : Int) + (xs.length : Int)).toNat - 0) = _
  rw [List.drop_zero, Nat.sub_zero, List.dropLast_eq_take]
  congr 1
  omega
theorem el_sliceL {p : Addr} {lo hi : Option Int} (h : Ev te σ G (.ref p)) (h1 : EvO tlo σ G lo) (h2 : EvO thi σ G hi) (hs : SqL K G p xs) (e : cutV xs lo hi = ys) : EvL (tSl (rSlL K) te tlo thi) σ G ys := by subst e; exact el_sl h h1 h2 hs
theorem el_sliceN {lo hi : Option Int} (h : EvL te σ G xs) (h1 : EvO tlo σ G lo) (h2 : EvO thi σ G hi) (e : cutV xs lo hi = ys) : EvL (tSl (rSlL K) te tlo thi) σ G ys := by
  subst e
  exact fun H1 e Q q => h H1 e _ fun p H2 _ e2 hp => h1 H2 (e.trans e2) _ fun H3 e3 => h2 H3 ((e.trans e2).trans e3) _ fun H4 e4 =>
    ⟨p, xs, rfl, sq_of ((e3.trans e4) p _ hp), fun r hr => q r _ (fresh_back ((e2.trans e3).trans e4) hr) (((e2.trans e3).trans e4).trans (Ex.new hr)) upd_same⟩
/-- t[lo:hi] of a tuple, not the whole -/
theorem eu_slice {p : Addr} {lo hi : Option Int} (h : Ev te σ G (.ref p)) (h1 : EvO tlo σ G lo) (h2 : EvO thi σ G hi) (hs : SqT K G p xs) (hw : ¬ (HT.sIx xs.length 0 lo = 0 ∧ HT.sIx xs.length xs.length hi = xs.length)) (e : cutV xs lo hi = ys) :
    EvU (tSl (rSlT K) te tlo thi) σ G ys := by
  subst e
  exact fun H1 e Q q => h H1 e _ fun H2 e2 => h1 H2 (e.trans e2) _ fun H3 e3 => h2 H3 ((e.trans e2).trans e3) _ fun H4 e4 =>
    ⟨p, xs, rfl, ex_t (((e.trans e2).trans e3).trans e4) hs, hw, fun r hr => q r _ (fresh_back ((e2.trans e3).trans e4) hr) (((e2.trans e3).trans e4).trans (Ex.new hr)) upd_same⟩
theorem el_revL {p : Addr} (h : Ev te σ G (.ref p)) (hp : SqL K G p xs) : EvL (tRevL K te) σ G xs.reverse := fun H1 e Q q => h H1 e _ fun H2 e2 => ⟨p, xs, rfl, ex_l (e.trans e2) hp, fun r hr => q r _ (fresh_back e2 hr) (e2.trans (Ex.new hr)) upd_same⟩
theorem el_revN (h : EvL te σ G xs) : EvL (tRevL K te) σ G xs.reverse := fun H1 e Q q => h H1 e _ fun p H2 _ e2 h2 => ⟨p, xs, rfl, sq_of h2, fun r hr => q r _ (fresh_back e2 hr) (e2.trans (Ex.new hr)) upd_same⟩
/-- f(e, t), t a new tuple -/
theorem el_call2U {pre : List V → Hp → List V → Prop} (ha : Ev ta σ G x) (hb : EvU tb σ G ys) (k : ∀ p G', G' p = some (.tup ys) → Ex G G' → pre [x, .ref p] G' xs) : EvL (tCall (PL 2 pre) [] E0 (tCons ta (tCons tb tNil))) σ G xs := fun H e Q q =>
  ha H e _ fun H1 e1 => hb H1 (e.trans e1) _ fun p H2 _ e2 h2 => ⟨rfl, H2, xs, Ex.refl _, k p H2 h2 ((e.trans e1).trans e2), fun r H3 hr e3 h3 => q r H3 (fresh_back (e1.trans e2) hr) ((e1.trans e2).trans e3) h3⟩
/-! ### targets of three names; loops -/
theorem g_three {a b c : Nat} {p : Addr} {H : Hp} {Q : St → Hp → Prop} (hp : SqT K H p [x, y, z]) (q : Q (((σ.set a (some x)).set b (some y)).set c (some z)) H) : gTup K 3 (gCons (gName a) (gCons (gName b) (gCons (gName c) gNil))) (.ref p) σ H Q :=
  ⟨p, [x, y, z], rfl, hp, rfl, x, [y, z], rfl, y, [z], rfl, z, [], rfl, rfl, q⟩
/-- what is walked over stands in what is known -/
def EvK (wi : TI) (σ : St) (G : Hp) (n : Nat) (Y : Nat → Hp → V → Hp → Prop) : Prop :=
  ∃ (J : It) (Gd : Hp → Prop), Walk J n Gd Y ∧ (∀ H, Ex G H → Gd H) ∧ ∀ H1, Ex G H1 → ∀ R : It → Hp → Prop, (∀ H2, Ex H1 H2 → R J H2) → wi σ H1 R
theorem ek_list {p : Addr} (h : Ev tl σ G (.ref p)) (hx : SqL K G p xs) : EvK (iList K tl) σ G xs.length (YAt xs) := ⟨_, _, walk_list, fun H e => ex_l e hx, fun H1 e R q => h H1 e _ fun H2 e2 => ⟨p, rfl, ⟨xs, ex_l (e.trans e2) hx⟩, q H2 e2⟩⟩
theorem ek_tup {p : Addr} (h : Ev tl σ G (.ref p)) (hx : SqT K G p xs) : EvK (iTup K tl) σ G xs.length (YAt xs) := ⟨_, _, walk_tup, fun H e => ex_t e hx, fun H1 e R q => h H1 e _ fun H2 e2 => ⟨p, rfl, ⟨xs, ex_t (e.trans e2) hx⟩, q H2 e2⟩⟩
theorem ek_enumT {p : Addr} (h : Ev tl σ G (.ref p)) (hx : SqT K G p xs) : EvK (iEnumT K (tCons tl tNil)) σ G xs.length (YPair (fun i => some (nV i)) (fun i => xs[i]?)) := ⟨_, _, walk_enumT, fun H e => ex_t e hx, fun H1 e R q => h H1 e _ fun H2 e2 => ⟨p, xs, rfl, ex_t (e.trans e2) hx, q H2 e2⟩⟩
theorem ek_rng {m : Nat} (h : EvA ts σ G [nV m]) (hm : m ≤ 100000) : EvK (iRng1 ts) σ G m (YFn fun i => nV i) := ⟨Itr 0 m, fun _ => True, walk_range.mono (fun _ h => h) fun i H x H' _ _ y => ⟨y.1, y.2.trans (by show V.int (0 + (i : Int)) = V.int (i : Int); rw [Int.zero_add])⟩, fun _ _ => trivial, fun H1 e R q => h H1 e _ fun H2 e2 => ⟨(m : Int), rfl, by omega, by omega, by
  rw [Int.toNat_natCast]
  exact q H2 e2⟩⟩
/-- for g in what is known: hs tells what g does, P what is known between -/
theorem go_forK {α : Type} (S : Nat → α → St) (P : Nat → α → Hp) (W : Nat → α → Prop) (a0 : α) (hσ : σ = S 0 a0) (hG : G = P 0 a0) (w0 : W 0 a0) (hI : Cl I) (h : EvK wi σ G n Y) (hE : ∀ i a, W i a → ∀ H, Ex (P i a) H → (∀ J (Gd : Hp → Prop), Walk J n Gd Y → (∀ H, Ex G H → Gd H) → Gd H))
    (hs : ∀ i a x H H', i < n → W i a → Ex (P i a) H → Y i H x H' → ∃ σ2, Ex H H' ∧ (∀ Q : St → Hp → Prop, Q σ2 H' → g x (S i a) H' Q) ∧ Go I tu { D with nx := LN I S P W (i + 1), ct := LN I S P W (i + 1), bk := tz D } σ2 (P i a))
    (hd : ∀ a, W n a → Go I tz D (S n a) (P n a)) : Go I (tSeq (tFor wi g tu) tz) D σ G := by
  obtain ⟨J, Gd, w, hg, hw⟩ := h
  exact go_for w S P W a0 hσ hG w0 hI (fun H e R q => hw H e R q) (fun i a H _ wa ea => hE i a wa H ea J Gd w hg) (fun i a x H H' hi wa ea ia y => by
    obtain ⟨σ2, e1, h1, h2⟩ := hs i a x H H' hi wa ea y
    exact h1 _ (h2 H' (ea.trans e1) (hI _ _ _ _ (Stp.ex ea e1) ia))) hd
/-- the known part stays -/
theorem go_forS {α : Type} (S : Nat → α → St) (W : Nat → α → Prop) (a0 : α) (hσ : σ = S 0 a0) (w0 : W 0 a0) (hI : Cl I) (h : EvK wi σ G n Y)
    (hs : ∀ i a x H H', i < n → W i a → Ex G H → Y i H x H' → ∃ σ2, Ex H H' ∧ (∀ Q : St → Hp → Prop, Q σ2 H' → g x (S i a) H' Q) ∧ Go I tu { D with nx := LN I S (fun _ _ => G) W (i + 1), ct := LN I S (fun _ _ => G) W (i + 1), bk := tz D } σ2 G)
    (hd : ∀ a, W n a → Go I tz D (S n a) G) : Go I (tSeq (tFor wi g tu) tz) D σ G := go_forK S (fun _ _ => G) W a0 hσ rfl w0 hI h (fun _ _ _ H e J Gd _ hg => hg H e) hs hd
theorem go_forS1 {α : Type} (S : Nat → α → St) (W : Nat → α → Prop) (a0 : α) (hσ : σ = S 0 a0) (w0 : W 0 a0) (hI : Cl I) (h : EvK wi σ G n Y)
    (hs : ∀ i a x H H', i < n → W i a → Ex G H → Y i H x H' → ∃ σ2, Ex H H' ∧ (∀ Q : St → Hp → Prop, Q σ2 H' → g x (S i a) H' Q) ∧ Go I tu { D with nx := LN I S (fun _ _ => G) W (i + 1), ct := LN I S (fun _ _ => G) W (i + 1), bk := D.nx } σ2 G)
    (hd : ∀ a, W n a → GoN I D.nx (S n a) G) : Go I (tFor wi g tu) D σ G := go_forS (tz := fun _ => D.nx) S W a0 hσ w0 hI h hs hd
end
end Lm
end
section
set_option Elab.async false
set_option linter.all false
namespace Lm
open PySem PySem.Spec L2 Evl
theorem rv_ip {f : Int → Int → Int} {i j : Int} {H : Hp} : RV (ipI f) (.int i) (.int j) H (.int (f i j)) := fun H1 _ Q q => ⟨i, j, rfl, rfl, q H1 (Ex.refl H1)⟩
theorem dec_nV {a b : Nat} : decide (nV a = nV b) = decide (a = b) := by
  rw [Bool.eq_iff_iff, decide_eq_true_iff, decide_eq_true_iff]
  exact ⟨fun e => Int.ofNat.inj (V.int.inj e), fun e => by rw [e]⟩
section
variable {X : Cx} {K : PySem.W.Frag} {o : Expr} {ta : TE} {f : Str} {pos : Pos}
theorem ixK_list (h : X.K = K) : IxR X (rIxL K) := by subst h; exact ix_list
theorem ixK_tup (h : X.K = K) : IxR X (rIxT K) := by subst h; exact ix_tup
theorem inK_seq (h : X.K = K) : OpR X (compareOp .In) (rIn K false) := by subst h; exact op_in_seq
theorem pe_fldK (h : X.K = K) (ho : PE X o ta) (hs : attributeBase o f X.env (eval o X.env) = eval o X.env) : PE X (.Attribute o f pos) (tFld K ta f) := by subst h; exact pe_fld ho hs
theorem tupK_of (h : X.K = K) : CallR X (.type "tuple") (fun xs H Q => ∃ p ys, xs = [.ref p] ∧ ((SqL K H p ys ∧ ∀ l, H l = none → Q (.ref l) (upd H l (.tup ys))) ∨ (SqT K H p ys ∧ Q (.ref p) H))) := by subst h; exact call_tuple_of
theorem pg_tupK {es : List Expr} {k n : Nat} {t : TGs} (h : X.K = K) (hc : X.calm = true) (hg : PGs X es t) (hn : (assignEach es X.env).length = n := by rfl) (hst : (assignEach es X.env).findIdx? (·.1) = none := by rfl) : PG X (.Tuple es k pos) (gTup K n t) := by subst h; exact pg_tup hc hg hn hst
theorem eqK_D (h : X.K = K) (hu : X.A.units + 64 < cLine) : OpR X (compareOp .Eq) (rEqD K) := by subst h; exact op_eqD hu
theorem lenK_seq (h : X.K = K) : CallR X (.builtin "len") (fun xs H Q => ∃ p ys, xs = [.ref p] ∧ (SqL K H p ys ∨ SqT K H p ys) ∧ Q (.int ys.length) H) := by subst h; exact call_len_seq
theorem slK_list (h : X.K = K) : SlR X (rSlL K) := by subst h; exact sl_list
end
section
variable {K : PySem.W.Frag} {I : Hp → Hp → Prop} {σ : St} {G : Hp} {ta tb tc te tv tl : TE} {ts : TA} {tt : TT} {x y z v : V} {D : Ends} {tu tw tz : TS} {R : V → Hp → Prop} {vs xs ys : List V} {wi : TI} {g : TG} {n : Nat}
  {Y : Nat → Hp → V → Hp → Prop} {tlo thi : TO}
theorem cut_whole {lo hi : Option Int} (h : HT.sIx xs.length 0 lo = 0 ∧ HT.sIx xs.length xs.length hi = xs.length) : cutV xs lo hi = xs := by
  unfold cutV
  rw [h.1, h.2, List.drop_zero, Nat.sub_zero, List.take_length]
/-- over t[lo:hi] of a tuple, perhaps the whole -/
theorem ew_sliceA {p : Addr} {lo hi : Option Int} (h : Ev te σ G (.ref p)) (h1 : EvO tlo σ G lo) (h2 : EvO thi σ G hi) (hs : SqT K G p xs) (e : cutV xs lo hi = ys) : EvW (iTup K (tSl (rSlA K) te tlo thi)) σ G ys.length (YAt ys) := by
  subst e
  exact fun H1 e R q => h H1 e _ fun H2 e2 => h1 H2 (e.trans e2) _ fun H3 e3 => h2 H3 ((e.trans e2).trans e3) _ fun H4 e4 => by
    have hx := ex_t (((e.trans e2).trans e3).trans e4) hs
    refine ⟨p, xs, rfl, hx, fun hw => ⟨p, rfl, ⟨xs, hx⟩, ?_⟩, fun hw r hr => ⟨r, rfl, ⟨_, st_of upd_same⟩, ?_⟩⟩
    · rw [cut_whole hw] at q
      exact q _ _ H4 ((e2.trans e3).trans e4) walk_tup fun H5 e5 => ex_t e5 hx
    · exact q _ _ _ (((e2.trans e3).trans e4).trans (Ex.new hr)) walk_tup fun H5 e5 => st_of (e5 r _ upd_same)
theorem go_forV {α : Type} (S : Nat → α → St) (W : Nat → α → Prop) (a0 : α) (hσ : σ = S 0 a0) (w0 : W 0 a0) (hI : Cl I) (h : EvW wi σ G n Y)
    (hs : ∀ I' : Hp → Hp → Prop, Cl I' → (∀ G H, I' G H → I G H) → ∀ i a x H H', i < n → W i a → Ex G H → Y i H x H' → ∃ σ2, Ex H H' ∧ (∀ Q : St → Hp → Prop, Q σ2 H' → g x (S i a) H' Q) ∧ Go I' tu { D with nx := LN I' S (fun _ _ => G) W (i + 1), ct := LN I' S (fun _ _ => G) W (i + 1), bk := tz D } σ2 G)
    (hd : ∀ a, W n a → Go I tz D (S n a) G) : Go I (tSeq (tFor wi g tu) tz) D σ G := fun H e i => h H e _ fun J Gd H2 e2 w hg => by
  have c : Cl (fun G' H' => I G' H' ∧ Ex H2 H') := fun _ _ _ _ s j => ⟨hI _ _ _ _ s j.1, j.2.trans s.2.1⟩
  refine for_it w (D := { D with nx := tz D }) (LN (fun G' H' => I G' H' ∧ Ex H2 H') S (fun _ _ => G) W) ⟨a0, hσ, w0, e.trans e2, hI _ _ _ _ (Stp.ex e e2) i, Ex.refl _⟩ (fun k σ' H' hk ⟨a, _, _, _, j⟩ => hg _ j.2)
    (fun k x σ' H' H3 hk ⟨a, es, wa, ea, ia⟩ y => ?_) (fun σ' H' ⟨a, es, wa, ea, ia⟩ => by subst es; exact hd a wa H' ea ia.1)
  subst es
  obtain ⟨σ2, e4, h1, h2⟩ := hs _ c (fun _ _ j => j.1) k a x H' H3 hk wa ea y
  exact h1 _ (h2 H3 (ea.trans e4) (c _ _ _ _ (Stp.ex ea e4) ia))
theorem gon_weak {I' : Hp → Hp → Prop} {N : St → Hp → Prop} (k : ∀ G H, I' G H → I G H) (h : GoN I N σ G) : GoN I' N σ G := fun H e i => h H e (k _ _ i)
theorem gov_weak {I' : Hp → Hp → Prop} {Q : VK} (k : ∀ G H, I' G H → I G H) (h : GoV I Q v G) : GoV I' Q v G := fun H e i => h H e (k _ _ i)
end
end Lm
end
section
set_option Elab.async false
set_option linter.all false
set_option maxRecDepth 100000
set_option maxHeartbeats 2000000
namespace Lm
open PySem PySem.Spec L2 Evl
local macro_rules | `(tactic| infer_instance) => `(tactic| first | (with_reducible exact ev_c) | ((with_reducible apply ev_var); exact rfl) | (with_reducible exact ea_nil) | (intro _; infer_instance) | ((with_reducible apply ev_I0) <;> try infer_instance) | ((with_reducible apply ev_I) <;> try infer_instance) | ((with_reducible apply ev_isInt) <;> try infer_instance) | ((with_reducible apply ev_isBool) <;> try infer_instance) | ((with_reducible apply ev_isStr) <;> try infer_instance) | ((with_reducible apply ev_isTup) <;> try infer_instance) | ((with_reducible apply ev_isN) <;> try infer_instance) | ((with_reducible apply ev_notN) <;> try infer_instance) | ((with_reducible apply ev_neg) <;> try infer_instance) | ((with_reducible apply ev_fld) <;> try infer_instance) | ((with_reducible apply ev_ixT) <;> try infer_instance) | ((with_reducible apply ev_ixL) <;> try infer_instance) | ((with_reducible apply ev_andV) <;> try infer_instance) | ((with_reducible apply ev_orV) <;> try infer_instance) | ((with_reducible apply ev_notV) <;> try infer_instance) | ((with_reducible apply ev_callV) <;> try infer_instance) | ((with_reducible apply ea_cons) <;> try infer_instance) | ((with_reducible apply et_test) <;> try infer_instance) | ((with_reducible apply et_B) <;> try infer_instance) | ((with_reducible apply et_not) <;> try infer_instance) | ((with_reducible apply et_and) <;> try infer_instance) | ((with_reducible apply et_or) <;> try infer_instance) | ((with_reducible apply ev_eq) <;> first | infer_instance | exact rfl | skip) | ((with_reducible apply ev_ne) <;> first | infer_instance | exact rfl | skip) | ((with_reducible apply eu_tup) <;> first | infer_instance | decide | skip) | ((with_reducible apply el_lst) <;> first | infer_instance | decide | skip))
def sp_is_integer (K : PySem.W.Frag) : Sp := PV 1 fun vs G v => ∃ i : Int, vs = [.int i] ∧ v = .bl true
abbrev N_is_integer : List Str := ["value"]
abbrev P_is_integer : List Str := ["value"]
theorem sc_is_integer : FnScope N_is_integer P_is_integer (defScope s_is_integer) := ⟨rfl, rfl, rfl, by decide +kernel, rfl, by decide +kernel, by decide +kernel⟩
theorem F_is_integer {P : Program} {w : World} {K : PySem.W.Frag} {mg : Str → Option Value} {base : Heap} (T : Tx K w mg) : Kp P w K mg base 1 "is_integer" P_is_integer (sp_is_integer K) := by
  obtain ⟨fd, F⟩ := T.d_is_integer
  refine ⟨_, fd, T.g_is_integer, F.kp, F.bindsN (fun _ _ _ _ _ _ us hl => match us, hl with | [_], _ => rfl), F.ok (N := N_is_integer) sc_is_integer len_PV fun cdv A outer s H vs Q E hr h => ⟨_, PSs.nox (pss_one (ps_ret (pe_and (pe_callB call_isi (by rfl) T.f_isinstance (by decide +kernel) (pa_cons (pv 0) (pa_cons (pe_bltn (by rfl) T.f_int (v := .ty "int") (by decide +kernel) rfl) pa_nil))) (pe_one (pe_not (pe_callB call_isi (by rfl) T.f_isinstance (by decide +kernel) (pa_cons (pv 0) (pa_cons (pe_bltn (by rfl) T.f_bool (v := .ty "bool") (by decide +kernel) rfl) pa_nil)))))))), ?_⟩⟩
  exact start_PV h (by
    rintro G v I Q hI ⟨i, rfl, rfl⟩ q
    refine go_retV hI (v := .bl (true && !false)) ?_ rfl (q G (Ex.refl G))
    refine ev_andV ?_ fun _ => ?_
    · infer_instance
    · infer_instance)
def sp_is_number (K : PySem.W.Frag) : Sp := PV 1 fun vs G v => ∃ i : Int, vs = [.int i] ∧ v = .bl (decide (0 ≤ i))
abbrev N_is_number : List Str := ["value"]
abbrev P_is_number : List Str := ["value"]
theorem sc_is_number : FnScope N_is_number P_is_number (defScope s_is_number) := ⟨rfl, rfl, rfl, by decide +kernel, rfl, by decide +kernel, by decide +kernel⟩
theorem F_is_number {P : Program} {w : World} {K : PySem.W.Frag} {mg : Str → Option Value} {base : Heap} (T : Tx K w mg) (F_is_integer : Kp P w K mg base 1 "is_integer" P_is_integer (sp_is_integer K)) : Kp P w K mg base 2 "is_number" P_is_number (sp_is_number K) := by
  obtain ⟨fd, F⟩ := T.d_is_number
  refine ⟨_, fd, T.g_is_number, F.kp, F.bindsN (fun _ _ _ _ _ _ us hl => match us, hl with | [_], _ => rfl), F.ok (N := N_is_number) sc_is_number len_PV fun cdv A outer s H vs Q E hr h => ⟨_, PSs.nox (pss_one (ps_ret (pe_and (pe_kall F_is_integer (hr.mono (by decide)) (by rfl) (pa_cons (pv 0) pa_nil)) (pe_one (pe_cmpR op_ge (pv 0) pe_int (nomark _)))))), ?_⟩⟩
  exact start_PV h (by
    rintro G v I Q hI ⟨i, rfl, rfl⟩ q
    refine go_retV hI (v := .bl (true && decide (0 ≤ i))) ?_ (by simp) (q G (Ex.refl G))
    refine ev_andV ?_ fun _ => ?_
    · infer_instance
      exact sp_PV ⟨i, rfl, rfl⟩
    · infer_instance)
def sp_is_between (K : PySem.W.Frag) : Sp := PV 3 fun vs G v => ∃ i a b : Int, vs = [.int i, .int a, .int b] ∧ v = .bl (decide (a ≤ i) && decide (i ≤ b))
abbrev N_is_between : List Str := ["value", "low", "high"]
abbrev P_is_between : List Str := ["value", "low", "high"]
theorem sc_is_between : FnScope N_is_between P_is_between (defScope s_is_between) := ⟨rfl, rfl, rfl, by decide +kernel, rfl, by decide +kernel, by decide +kernel⟩
theorem F_is_between {P : Program} {w : World} {K : PySem.W.Frag} {mg : Str → Option Value} {base : Heap} (T : Tx K w mg) (F_is_integer : Kp P w K mg base 1 "is_integer" P_is_integer (sp_is_integer K)) : Kp P w K mg base 2 "is_between" P_is_between (sp_is_between K) := by
  obtain ⟨fd, F⟩ := T.d_is_between
  refine ⟨_, fd, T.g_is_between, F.kp, F.bindsN (fun _ _ _ _ _ _ us hl => match us, hl with | [_, _, _], _ => rfl), F.ok (N := N_is_between) sc_is_between len_PV fun cdv A outer s H vs Q E hr h => ⟨_, PSs.nox (pss_one (ps_ret (pe_and (pe_kall F_is_integer (hr.mono (by decide)) (by rfl) (pa_cons (pv 0) pa_nil)) (pe_one (pe_chain op_le op_le (pv 1) (pv 0) (pv 2)))))), ?_⟩⟩
  exact start_PV h (by
    rintro G v I Q hI ⟨i, a, b, rfl, rfl⟩ q
    refine go_retV hI (v := .bl (true && (decide (a ≤ i) && decide (i ≤ b)))) ?_ (by simp) (q G (Ex.refl G))
    refine ev_andV ?_ fun _ => ?_
    · infer_instance
      exact sp_PV ⟨i, rfl, rfl⟩
    · refine ev_chain (x := .int a) (y := .int i) (z := .int b) (ev_var rfl) (ev_var rfl) rv_I0 fun _ => ⟨ev_var rfl, rv_I0⟩)
def sp_check_number (K : PySem.W.Frag) : Sp := PV 1 fun vs G v => ∃ i : Int, vs = [.int i] ∧ 0 ≤ i ∧ v = .non
abbrev N_check_number : List Str := ["value"]
abbrev P_check_number : List Str := ["value"]
theorem sc_check_number : FnScope N_check_number P_check_number (defScope s_check_number) := ⟨rfl, rfl, rfl, by decide +kernel, rfl, by decide +kernel, by decide +kernel⟩
theorem F_check_number {P : Program} {w : World} {K : PySem.W.Frag} {mg : Str → Option Value} {base : Heap} (T : Tx K w mg) (F_is_number : Kp P w K mg base 2 "is_number" P_is_number (sp_is_number K)) : Kp P w K mg base 3 "check_number" P_check_number (sp_check_number K) := by
  obtain ⟨fd, F⟩ := T.d_check_number
  refine ⟨_, fd, T.g_check_number, F.kp, F.bindsN (fun _ _ _ _ _ _ us hl => match us, hl with | [_], _ => rfl), F.ok (N := N_check_number) sc_check_number len_PV fun cdv A outer s H vs Q E hr h => ⟨_, PSs.nox (pss_one (ps_if (pt_not (pt_val (pe_kall F_is_number (hr.mono (by decide)) (by rfl) (pa_cons (pv 0) pa_nil))))
    (pss_one ps_never)
    pss_nil)), ?_⟩⟩
  exact start_PV h (by
    rintro G v I Q hI ⟨i, rfl, h0, rfl⟩ q
    refine go_if (b := false) hI ?_ (fun z => by cases z) fun _ => go_next (fun H e i => q G (Ex.refl G) H e i)
    refine et_eqv (a := !decide (0 ≤ i)) ?_ (by simp [h0])
    infer_instance
    exact sp_PV ⟨i, rfl, rfl⟩)
def sp_is_way (K : PySem.W.Frag) : Sp := PV 1 fun vs G v => ∃ b : Bool, vs = [nxS b] ∧ v = .bl true
abbrev N_is_way : List Str := ["value"]
abbrev P_is_way : List Str := ["value"]
theorem sc_is_way : FnScope N_is_way P_is_way (defScope s_is_way) := ⟨rfl, rfl, rfl, by decide +kernel, rfl, by decide +kernel, by decide +kernel⟩
theorem F_is_way {P : Program} {w : World} {K : PySem.W.Frag} {mg : Str → Option Value} {base : Heap} (T : Tx K w mg) : Kp P w K mg base 1 "is_way" P_is_way (sp_is_way K) := by
  obtain ⟨fd, F⟩ := T.d_is_way
  refine ⟨_, fd, T.g_is_way, F.kp, F.bindsN (fun _ _ _ _ _ _ us hl => match us, hl with | [_], _ => rfl), F.ok (N := N_is_way) sc_is_way len_PV fun cdv A outer s H vs Q E hr h => ⟨_, PSs.nox (pss_one (ps_ret (pe_and (pe_callB call_isi (by rfl) T.f_isinstance (by decide +kernel) (pa_cons (pv 0) (pa_cons (pe_bltn (by rfl) T.f_str (v := .ty "str") (by decide +kernel) rfl) pa_nil))) (pe_one (pe_cmpR op_in_seq (pv 0) (pe_glob (by rfl) T.m_WAYS (v := .ref _) rfl) (by rfl)))))), ?_⟩⟩
  exact start_PV h (by
    rintro G v I Q hI ⟨b, rfl, rfl⟩ q
    refine go_retV hI (v := .bl (true && inV (nxS b) [.str "next", .str "last"])) ?_ (by cases b <;> rfl) (q G (Ex.refl G))
    refine ev_andV ?_ fun _ => ?_
    · infer_instance
    · exact ev_op (ev_var rfl) ev_c (rv_isT (T.ways G) rfl rfl))
def sp_common_divisor (K : PySem.W.Frag) : Sp := PV 2 fun vs G v => ∃ a b : Nat, vs = [nV a, nV b] ∧ b < 2 ^ 30 ∧ v = nV (Nat.gcd a b)
abbrev N_common_divisor : List Str := ["one", "other"]
abbrev P_common_divisor : List Str := ["one", "other"]
theorem sc_common_divisor : FnScope N_common_divisor P_common_divisor (defScope s_common_divisor) := ⟨rfl, rfl, rfl, by decide +kernel, rfl, by decide +kernel, by decide +kernel⟩
theorem F_common_divisor {P : Program} {w : World} {K : PySem.W.Frag} {mg : Str → Option Value} {base : Heap} (T : Tx K w mg) : Kp P w K mg base 1 "common_divisor" P_common_divisor (sp_common_divisor K) := by
  obtain ⟨fd, F⟩ := T.d_common_divisor
  refine ⟨_, fd, T.g_common_divisor, F.kp, F.bindsN (fun _ _ _ _ _ _ us hl => match us, hl with | [_, _], _ => rfl), F.ok (N := N_common_divisor) sc_common_divisor len_PV fun cdv A outer s H vs Q E hr h => ⟨_, PSs.nox (pss_cons (ps_while PassesOwn.never (pt_cmpR op_gt (pv 1) pe_int (nomark _))
    (pss_one (ps_par (i := 0) (j := 1) rfl sc_common_divisor.nd rfl rfl (by decide) rfl rfl (pa_cons (pv 1) (pa_cons (pe_op op_sub (pv 0) (pe_op op_mul (pe_op op_fdiv (pv 0) (pv 1)) (pv 1))) pa_nil)) (by rfl))))
  (pss_one (ps_ret (pv 0)))), ?_⟩⟩
  exact start_PV h (by
    rintro G v I Q hI ⟨a, b, rfl, hb, rfl⟩ q
    refine go_while (fun p : Nat × Nat => [some (nV p.1), some (nV p.2)]) (fun _ => G) (fun p => p.2 < 2 ^ 30 ∧ Nat.gcd p.1 p.2 = Nat.gcd a b) (fun p => p.2) (a, b) rfl rfl ⟨hb, rfl⟩ hI (fun p => decide (0 < p.2)) ?_
    rintro ⟨x, y⟩ ⟨hy, hg⟩
    refine ⟨?_, fun hz => ?_, fun hz => ?_⟩
    · refine et_eqv (a := decide ((0 : Int) < (y : Int))) ?_ (by simp)
      infer_instance
    · have hp : 0 < y := by simpa using hz
      refine go_par1 hI (x := nV y) (y := nV (x % y)) ?_ (WN.mk (y, x % y) rfl rfl ⟨?_, ?_⟩ (Nat.mod_lt _ hp))
      · refine ea_cons (ev_var rfl) (ea_cons ?_ ea_nil)
        refine ev_eqv (v := .int ((x : Int) - (x : Int) / (y : Int) * (y : Int))) ?_ ?_
        · refine ev_I0 (ev_var rfl) (ev_I (ev_I (ev_var rfl) (ev_var rfl) ?_) (ev_var rfl) ?_)
          · exact ⟨by omega, by omega⟩
          · exact Or.inr (by omega)
        · show V.int _ = V.int _
          congr 1
          have := Int.emod_add_mul_ediv (x : Int) (y : Int)
          rw [Int.mul_comm] at this
          rw [Int.natCast_emod]
          omega
      · exact Nat.lt_trans (Nat.mod_lt _ hp) hy
      · rw [← hg, Nat.gcd_comm, ← Nat.gcd_rec, Nat.gcd_comm]
    · have hp : y = 0 := by
        have : ¬ 0 < y := by simpa using hz
        omega
      subst hp
      refine go_retV hI (ev_var rfl) ?_ (q G (Ex.refl G))
      rw [← hg, Nat.gcd_zero_right])
def sp_common_multiple (K : PySem.W.Frag) : Sp := PV 2 fun vs G v => ∃ a b : Nat, vs = [nV a, nV b] ∧ 0 < a ∧ b < 2 ^ 30 ∧ a < 2 ^ 30 ∧ v = nV (lcmN a b)
abbrev N_common_multiple : List Str := ["one", "other"]
abbrev P_common_multiple : List Str := ["one", "other"]
theorem sc_common_multiple : FnScope N_common_multiple P_common_multiple (defScope s_common_multiple) := ⟨rfl, rfl, rfl, by decide +kernel, rfl, by decide +kernel, by decide +kernel⟩
theorem F_common_multiple {P : Program} {w : World} {K : PySem.W.Frag} {mg : Str → Option Value} {base : Heap} (T : Tx K w mg) (F_common_divisor : Kp P w K mg base 1 "common_divisor" P_common_divisor (sp_common_divisor K)) : Kp P w K mg base 2 "common_multiple" P_common_multiple (sp_common_multiple K) := by
  obtain ⟨fd, F⟩ := T.d_common_multiple
  refine ⟨_, fd, T.g_common_multiple, F.kp, F.bindsN (fun _ _ _ _ _ _ us hl => match us, hl with | [_, _], _ => rfl), F.ok (N := N_common_multiple) sc_common_multiple len_PV fun cdv A outer s H vs Q E hr h => ⟨_, PSs.nox (pss_one (ps_ret (pe_op op_mul (pe_op op_fdiv (pv 0) (pe_kall F_common_divisor (hr.mono (by decide)) (by rfl) (pa_cons (pv 0) (pa_cons (pv 1) pa_nil)))) (pv 1)))), ?_⟩⟩
  exact start_PV h (by
    rintro G v I Q hI ⟨a, b, rfl, ha, hb, ha2, rfl⟩ q
    have hg : 0 < Nat.gcd a b := Nat.gcd_pos_of_pos_left _ ha
    have hle : Nat.gcd a b ≤ a := Nat.gcd_le_left _ ha
    refine go_retV hI (v := .int ((a : Int) / (Nat.gcd a b : Nat) * (b : Int))) ?_ (by unfold lcmN nV; push_cast; rfl) (q G (Ex.refl G))
    refine ev_I (ev_I (ev_var rfl) (ev_callV (vs := [nV a, nV b]) (ea_cons (ev_var rfl) (ea_cons (ev_var rfl) ea_nil)) ?_) ?_) (ev_var rfl) ?_
    · exact sp_PV ⟨a, b, rfl, hb, rfl⟩
    · exact ⟨by omega, by omega⟩
    · exact Or.inr (by omega))
end Lm
end
section
set_option Elab.async false
set_option linter.all false
set_option maxRecDepth 100000
set_option maxHeartbeats 2000000
namespace Lm
open PySem PySem.Spec L2 Evl
local macro_rules | `(tactic| infer_instance) => `(tactic| first | (with_reducible exact ev_c) | ((with_reducible apply ev_var); exact rfl) | (with_reducible exact ea_nil) | (intro _; infer_instance) | ((with_reducible apply ev_I0) <;> try infer_instance) | ((with_reducible apply ev_I) <;> try infer_instance) | ((with_reducible apply ev_isInt) <;> try infer_instance) | ((with_reducible apply ev_isBool) <;> try infer_instance) | ((with_reducible apply ev_isStr) <;> try infer_instance) | ((with_reducible apply ev_isTup) <;> try infer_instance) | ((with_reducible apply ev_isN) <;> try infer_instance) | ((with_reducible apply ev_notN) <;> try infer_instance) | ((with_reducible apply ev_neg) <;> try infer_instance) | ((with_reducible apply ev_fld) <;> try infer_instance) | ((with_reducible apply ev_ixT) <;> try infer_instance) | ((with_reducible apply ev_ixL) <;> try infer_instance) | ((with_reducible apply ev_andV) <;> try infer_instance) | ((with_reducible apply ev_orV) <;> try infer_instance) | ((with_reducible apply ev_notV) <;> try infer_instance) | ((with_reducible apply ev_callV) <;> try infer_instance) | ((with_reducible apply ea_cons) <;> try infer_instance) | ((with_reducible apply et_test) <;> try infer_instance) | ((with_reducible apply et_B) <;> try infer_instance) | ((with_reducible apply et_not) <;> try infer_instance) | ((with_reducible apply et_and) <;> try infer_instance) | ((with_reducible apply et_or) <;> try infer_instance) | ((with_reducible apply ev_eq) <;> first | infer_instance | exact rfl | skip) | ((with_reducible apply ev_ne) <;> first | infer_instance | exact rfl | skip) | ((with_reducible apply eu_tup) <;> first | infer_instance | decide | skip) | ((with_reducible apply el_lst) <;> first | infer_instance | decide | skip))
def sp_is_amount (K : PySem.W.Frag) : Sp := PV 1 fun vs G v => ∃ i : Nat, vs = [nV i] ∧ i ≤ 10 ^ 38 + 3 ∧ v = .bl true
abbrev N_is_amount : List Str := ["value"]
abbrev P_is_amount : List Str := ["value"]
theorem sc_is_amount : FnScope N_is_amount P_is_amount (defScope s_is_amount) := ⟨rfl, rfl, rfl, by decide +kernel, rfl, by decide +kernel, by decide +kernel⟩
theorem F_is_amount {P : Program} {w : World} {K : PySem.W.Frag} {mg : Str → Option Value} {base : Heap} (T : Tx K w mg) (F_is_between : Kp P w K mg base 2 "is_between" P_is_between (sp_is_between K)) : Kp P w K mg base 3 "is_amount" P_is_amount (sp_is_amount K) := by
  obtain ⟨fd, F⟩ := T.d_is_amount
  refine ⟨_, fd, T.g_is_amount, F.kp, F.bindsN (fun _ _ _ _ _ _ us hl => match us, hl with | [_], _ => rfl), F.ok (N := N_is_amount) sc_is_amount len_PV fun cdv A outer s H vs Q E hr hpre => ⟨_, PSs.nox (pss_one (ps_ret (pe_kall F_is_between (hr.mono (by decide)) (by rfl) (pa_cons (pv 0) (pa_cons pe_int (pa_cons (pe_globI T.m_MOST_AMOUNT) pa_nil)))))), ?_⟩⟩
  exact start_PV hpre (by
    rintro G v I Q hI ⟨i, rfl, h0, rfl⟩ q
    refine go_retV hI (v := .bl (decide (0 ≤ (i : Int)) && decide ((i : Int) ≤ 10 ^ 40))) ?_ ?_ (q G (Ex.refl G))
    · infer_instance
      exact sp_PV ⟨_, _, _, rfl, rfl⟩
    · show V.bl _ = V.bl _
      congr 1
      simp only [Bool.and_eq_true, decide_eq_true_eq]
      omega)
def sp_numbers_of (K : PySem.W.Frag) : Sp := PL 2 fun vs G xs => ∃ (p : Nat) (a : Addr) (bs : List Nat), vs = [nV p, .ref a] ∧ SqT K G a (nL bs) ∧ (∀ b ∈ bs, 0 < b ∧ b < 2 ^ 30) ∧ bs.length ≤ 10 ∧ xs = nL (digs p bs.reverse)
abbrev N_numbers_of : List Str := ["place", "bases", "found", "base", "number"]
abbrev P_numbers_of : List Str := ["place", "bases"]
theorem sc_numbers_of : FnScope N_numbers_of P_numbers_of (defScope s_numbers_of) := ⟨rfl, rfl, rfl, by decide +kernel, rfl, by decide +kernel, by decide +kernel⟩
theorem F_numbers_of {P : Program} {w : World} {K : PySem.W.Frag} {mg : Str → Option Value} {base : Heap} (T : Tx K w mg) : Kp P w K mg base 1 "numbers_of" P_numbers_of (sp_numbers_of K) := by
  obtain ⟨fd, F⟩ := T.d_numbers_of
  refine ⟨_, fd, T.g_numbers_of, F.kp, F.bindsN (fun _ _ _ _ _ _ us hl => match us, hl with | [_, _], _ => rfl), F.ok (N := N_numbers_of) sc_numbers_of len_PL fun cdv A outer s H vs Q E hr hpre => ⟨_, PSs.nox (pss_cons (ps_set (i := 2) sc_numbers_of.nd rfl (.inl rfl) (pe_lst pa_nil))
  (pss_cons (ps_for PassesOwn.never rfl (pi_tup (pe_revT (pv 1))) (pg_name (i := 3) sc_numbers_of.nd rfl (Or.inl rfl))
    (pss_cons (ps_asg (pe_callB call_divmod (by rfl) T.f_divmod (by decide +kernel) (pa_cons (pv 0) (pa_cons (pv 3) pa_nil))) (pg_tup (n := 2) rfl (pgs_cons (pg_name (i := 0) sc_numbers_of.nd rfl (Or.inl rfl)) (pgs_cons (pg_name (i := 4) sc_numbers_of.nd rfl (Or.inl rfl)) pgs_nil))))
  (pss_one (ps_expr (pe_bm PySem.F.plainAttrs_list PySem.F.slot_list_append PySem.F.type_list_append mt_append (pv 2) (pa_cons (pv 4) pa_nil))))))
  (pss_one (ps_ret (pe_lst (StX.pa_star (pv 2) (pa_cons (pv 0) pa_nil))))))), ?_⟩⟩
  exact start_PL hpre (by
    rintro G xs I Q hI ⟨p, a, bs, rfl, ha, hb, hl, rfl⟩ q
    refine go_asgO hI (el_lst ea_nil (by decide)) fun f hf _ => ?_
    refine go_forW (α := Nat × List Nat × Option V × Option V) (fun i x => [some (nV x.1), some (.ref a), some (.ref f), x.2.2.1, x.2.2.2]) (fun i x => upd G f (.lst (nL x.2.1)))
      (fun i x => digs p bs.reverse = x.2.1 ++ digs x.1 (bs.reverse.drop i) ∧ x.2.1.length = i) (p, [], none, none) rfl rfl ⟨rfl, rfl⟩ (cl_wl hI) (eu_revT (ev_var rfl) (ex_t (Ex.new hf) ha)) ?_ ?_ ?_
    · intro t i x ht _
      by_cases e : t = f
      · subst e
        rw [upd_same] at ht
        cases ht
      · rw [upd_ne e] at ht ⊢
        exact ht
    · rintro t i ⟨n, acc, s3, s4⟩ y ht hy ⟨w1, w2⟩
      dsimp only at w1 w2
      obtain ⟨htG, htf⟩ := upd_none ht
      have hy' : ((bs.reverse).map nV)[i]? = some y := by rw [List.map_reverse]; exact hy
      rw [List.getElem?_map] at hy'
      obtain ⟨b, hbi, rfl⟩ : ∃ b, bs.reverse[i]? = some b ∧ nV b = y := by simpa using hy'
      have hbm : b ∈ bs := by
        have := List.mem_of_getElem? hbi
        simpa using this
      obtain ⟨hb0, hb1⟩ := hb b hbm
      have hlt : i < bs.reverse.length := (List.getElem?_eq_some_iff.mp hbi).1
      refine go_un2 (cl_wl hI) (x := nV (n / b)) (y := nV (n % b)) ?_ ?_
      · refine eu_divmod (i := (n : Int)) (j := (b : Int)) (ea_cons (ev_var rfl) (ea_cons (ev_var rfl) ea_nil)) ?_
        exact ⟨by omega, by omega⟩
      · refine go_appO hI (xs := nL acc) (v := nV (n % b)) ?_ (ev_var rfl) (ev_var rfl) ?_ ?_
        · rw [upd_ne htf.symm]
          exact upd_same
        · rw [nL_len, w2]
          rw [List.length_reverse] at hlt
          omega
        · dsimp only
          refine LN.mk (n / b, acc ++ [n % b], some (nV b), some (nV (n % b))) ?_ ?_ ?_
          · rfl
          · show upd (upd (upd G f _) t _) f _ = upd (upd G f (.lst (nL (acc ++ [n % b])))) t _
            rw [upd_comm htf, upd_upd]
            unfold nL
            rw [List.map_append]
            rfl
          · refine ⟨?_, ?_⟩
            · dsimp only
              rw [w1, List.drop_eq_getElem_cons hlt]
              have : bs.reverse[i] = b := by
                have := List.getElem?_eq_getElem hlt
                rw [this] at hbi
                exact Option.some.inj hbi
              rw [this]
              simp [digs]
            · simp [w2]
    · rintro t ⟨n, acc, s3, s4⟩ ht ⟨w1, w2⟩
      dsimp only at w1 w2
      obtain ⟨htG, htf⟩ := upd_none ht
      have hlen : (nL bs).reverse.length = bs.reverse.length := by simp [nL_len]
      rw [hlen, List.drop_length] at w1
      refine go_retL (cl_wl hI) (xs := nL (digs p bs.reverse)) ?_ fun r hr => gov_out hI ?_
      · refine el_eqv (el_lst (ea_starL (ev_var rfl) (xs := nL acc) (sq_of (by rw [upd_ne htf.symm]; exact upd_same)) (ea_cons (ev_var rfl) ea_nil)) ?_) ?_
        · rw [List.length_append, nL_len, w2, hlen, List.length_reverse]
          simp
          omega
        · rw [w1]
          simp [nL, digs]
      · obtain ⟨hr1, hr2⟩ := upd_none hr
        obtain ⟨hr3, hr4⟩ := upd_none hr1
        exact q r _ (Ex.mut (Ex.mut (Ex.mut (Ex.refl G) hf) htG) hr3) hr3 upd_same)
theorem ew_len {wi : TI} {σ : St} {G : Hp} {n m : Nat} {Y : Nat → Hp → V → Hp → Prop} (h : EvW wi σ G n Y) (e : n = m) : EvW wi σ G m Y := by subst e; exact h
theorem quot_eq {a b : Nat} (hb : 0 < b) : decide (V.int ((a : Int) / (b : Int) * (b : Int)) = nV a) = (a % b == 0) := by
  rw [Bool.eq_iff_iff, decide_eq_true_iff, beq_iff_eq]
  have h := Int.emod_add_mul_ediv (a : Int) (b : Int)
  rw [Int.mul_comm] at h
  constructor
  · intro e
    have e2 : (a : Int) / (b : Int) * (b : Int) = (a : Int) := V.int.inj e
    have : ((a % b : Nat) : Int) = 0 := by rw [Int.natCast_emod]; omega
    omega
  · intro e
    show V.int _ = V.int _
    congr 1
    have : ((a % b : Nat) : Int) = 0 := by omega
    rw [Int.natCast_emod] at this
    omega
def sp_skipped_in (K : PySem.W.Frag) : Sp := PV 3 fun vs G v => ∃ (g : Nat) (a b : Addr) (bs : List Nat) (rs : List Row) (ls : List V), vs = [nV g, .ref a, .ref b] ∧ SqT K G a (nL bs) ∧ SqT K G b ls ∧ AllR (RowT K G) ls rs ∧ 1 ≤ bs.length ∧ bs.length ≤ 10 ∧ (∀ x ∈ bs, 0 < x ∧ x < 2 ^ 30) ∧ (∀ r ∈ rs, r.1 < bs.length ∧ 0 < r.2.1 ∧ r.2.1 < 2 ^ 30) ∧ v = nV (gapOf bs rs g)
abbrev N_skipped_in : List Str := ["group", "bases", "rows", "numbers", "found", "field", "every", "count"]
abbrev P_skipped_in : List Str := ["group", "bases", "rows"]
theorem sc_skipped_in : FnScope N_skipped_in P_skipped_in (defScope s_skipped_in) := ⟨rfl, rfl, rfl, by decide +kernel, rfl, by decide +kernel, by decide +kernel⟩
theorem F_skipped_in {P : Program} {w : World} {K : PySem.W.Frag} {mg : Str → Option Value} {base : Heap} (T : Tx K w mg) (F_numbers_of : Kp P w K mg base 1 "numbers_of" P_numbers_of (sp_numbers_of K)) : Kp P w K mg base 2 "skipped_in" P_skipped_in (sp_skipped_in K) := by
  obtain ⟨fd, F⟩ := T.d_skipped_in
  refine ⟨_, fd, T.g_skipped_in, F.kp, F.bindsN (fun _ _ _ _ _ _ us hl => match us, hl with | [_, _, _], _ => rfl), F.ok (N := N_skipped_in) sc_skipped_in len_PV fun cdv A outer s H vs Q E hr hpre => ⟨_, PSs.nox (pss_cons (ps_set (i := 3) sc_skipped_in.nd rfl (.inl rfl) (pe_revL (pe_kall F_numbers_of (hr.mono (by decide)) (by rfl) (pa_cons (pv 0) (pa_cons (pe_slice sl_tup (pv 1) po_none (po_some (pe_un un_neg pe_int))) pa_nil)))))
  (pss_cons (ps_set (i := 4) sc_skipped_in.nd rfl (.inl rfl) pe_int)
  (pss_cons (ps_for PassesOwn.never rfl (pi_tup (pv 2)) (pg_tup (n := 3) rfl (pgs_cons (pg_name (i := 5) sc_skipped_in.nd rfl (Or.inl rfl)) (pgs_cons (pg_name (i := 6) sc_skipped_in.nd rfl (Or.inl rfl)) (pgs_cons (pg_name (i := 7) sc_skipped_in.nd rfl (Or.inl rfl)) pgs_nil))))
    (pss_one (ps_if (PW.pt (pw_and (pt_cmpR op_eq (pe_op op_mul (pe_op op_fdiv (pe_ix ix_list (pv 3) (pv 5) (fun _ _ => rfl)) (pv 6)) (pv 6)) (pe_ix ix_list (pv 3) (pv 5) (fun _ _ => rfl)) (nomark _)) (pw_and1 (pt_not (pt_val (pe_callB (cr_anyI rfl) (by rfl) T.f_any (by decide +kernel) (pa_cons (pe_slice sl_list (pv 3) (po_some (pe_op op_add (pv 5) pe_int)) po_none) pa_nil)))))))
    (pss_one (ps_set (i := 4) sc_skipped_in.nd rfl (.inl rfl) (pv 7)))
    pss_nil)))
  (pss_one (ps_ret (pv 4)))))), ?_⟩⟩
  exact start_PV hpre (by
    rintro G v I Q hI ⟨g, a, b, bs, rs, ls, rfl, ha, hb, hls, h1, h10, hbs, hrs, rfl⟩ q
    have hfl : (figs bs g).length = bs.length := by
      unfold figs
      rw [List.length_reverse, digs_len, List.length_reverse, List.length_dropLast]
      omega
    refine go_asgL hI (xs := nL (figs bs g)) ?_ fun p hp => ?_
    · refine el_eqv (el_revN (el_call2U (xs := nL (digs g bs.dropLast.reverse)) (ys := nL bs.dropLast) (ev_var rfl) (eu_slice (ev_var rfl) eo_none (eo_some (ev_neg ev_c)) ha ?_ ?_) fun p G' hp e => ⟨g, p, bs.dropLast, rfl, st_of hp, fun x hx => hbs x ((List.dropLast_sublist bs).subset hx), by rw [List.length_dropLast]; omega, rfl⟩)) ?_
      · intro z
        have z2 : ((-1 : Int) + ((nL bs).length : Int)).toNat = (nL bs).length := z.2
        rw [nL_len] at z2
        omega
      · exact cut_but.trans (by unfold nL; rw [List.map_dropLast])
      · unfold nL figs
        rw [List.map_reverse]
    have e0 : Ex G (upd G p (.lst (nL (figs bs g)))) := Ex.new hp
    refine go_asg hI (v := nV 0) ev_c ?_
    refine go_forS (α := Option V × Option V × Option V) (fun i x => [some (nV g), some (.ref a), some (.ref b), some (.ref p), some (nV (gapOf bs (rs.take i) g)), x.1, x.2.1, x.2.2]) (fun _ _ => True) (none, none, none) rfl trivial hI (ek_tup (ev_var rfl) (ex_t e0 hb)) ?_ ?_
    · rintro i ⟨s1, s2, s3⟩ x H H' hi _ eH ⟨e1, y⟩
      subst e1
      obtain ⟨r, hr, t, rfl, ht⟩ := hls.at y
      obtain ⟨hf, hv0, hv1⟩ := hrs r (List.mem_of_getElem? hr)
      refine ⟨_, Ex.refl _, fun Q q => g_three (ex_t (e0.trans eH) ht) q, ?_⟩
      have hil : i < rs.length := (List.getElem?_eq_some_iff.mp hr).1
      have htk : gapOf bs (rs.take (i + 1)) g = if hit (figs bs g) r then r.2.2 else gapOf bs (rs.take i) g := by
        unfold gapOf
        rw [List.take_succ, hr]
        simp [List.foldl_append]
      have hat : atI (nL (figs bs g)) (r.1 : Int) = some (nV ((figs bs g).getD r.1 0)) := by
        rw [atI_nat, nL_get (by omega)]
      refine go_if hI (b := hit (figs bs g) r) ?_ (fun hb => ?_) fun hb => ?_
      · unfold hit
        refine et_and ?_ fun _ => ?_
        · refine et_eqv (et_test (ev_eq (x := .int (((figs bs g).getD r.1 0 : Nat) / (r.2.1 : Int) * (r.2.1 : Int))) (y := nV ((figs bs g).getD r.1 0)) ?_ (ev_ixL (ev_var rfl) (ev_var rfl) (sq_of upd_same) hat) rfl)) (quot_eq hv0)
          refine ev_I (ev_I (ev_ixL (ev_var rfl) (ev_var rfl) (sq_of upd_same) hat) (ev_var rfl) ?_) (ev_var rfl) ?_
          · exact ⟨by omega, by omega⟩
          · exact Or.inr (by omega)
        · refine et_eqv (et_not (et_B (ev_anyI (ns := List.map (fun n : Nat => (n : Int)) ((figs bs g).drop (r.1 + 1))) ?_))) ?_
          · refine el_eqv (el_sliceL (ev_var rfl) (eo_some (i := ((r.1 + 1 : Nat) : Int)) (ev_eqv (ev_I0 (ev_var rfl) ev_c) rfl)) eo_none (sq_of upd_same) cut_tail) ?_
            unfold nL
            rw [← List.map_drop, List.map_map]
            rfl
          · rw [List.any_map]
            exact not_any _
      · refine go_asg1 hI (ev_var rfl) ?_
        dsimp only
        refine LN.mk (some (nV r.1), some (nV r.2.1), some (nV r.2.2)) ?_ rfl trivial
        rw [htk, if_pos hb]
        rfl
      · refine go_next ?_
        dsimp only
        refine LN.mk (some (nV r.1), some (nV r.2.1), some (nV r.2.2)) ?_ rfl trivial
        rw [htk, hb]
        rfl
    · rintro ⟨s1, s2, s3⟩ _
      refine go_retV hI (ev_var rfl) ?_ (q _ e0)
      rw [hls.len, List.take_length])
def sp_is_again (K : PySem.W.Frag) : Sp := PV 2 fun vs G v => ∃ (a : Addr) (gs : List Nat) (k : Nat), vs = [.ref a, nV k] ∧ SqL K G a (nL gs) ∧ k ≤ gs.length ∧ gs.length ≤ 40000 ∧ v = .bl (gs.drop k == gs.take (gs.length - k))
abbrev N_is_again : List Str := ["skips", "step", "index", "skip"]
abbrev P_is_again : List Str := ["skips", "step"]
theorem sc_is_again : FnScope N_is_again P_is_again (defScope s_is_again) := ⟨rfl, rfl, rfl, by decide +kernel, rfl, by decide +kernel, by decide +kernel⟩
theorem F_is_again {P : Program} {w : World} {K : PySem.W.Frag} {mg : Str → Option Value} {base : Heap} (T : Tx K w mg) : Kp P w K mg base 1 "is_again" P_is_again (sp_is_again K) := by
  obtain ⟨fd, F⟩ := T.d_is_again
  refine ⟨_, fd, T.g_is_again, F.kp, F.bindsN (fun _ _ _ _ _ _ us hl => match us, hl with | [_, _], _ => rfl), F.ok (N := N_is_again) sc_is_again len_PV fun cdv A outer s H vs Q E hr hpre => ⟨_, PSs.nox (pss_one (ps_ret (pe_callB (cr_all rfl) (by rfl) T.f_all (by decide +kernel) (pa_cons (pe_lc (own := [("index", 2), ("skip", 3)]) rfl sc_is_again.nd (pi_enum (by rfl) T.f_enumerate (pa_cons (pe_slice sl_list (pv 0) (po_some (pv 1)) po_none) pa_nil)) (blkOk_by (own := [("index", 2), ("skip", 3)]) (N := N_is_again) (sc := defScope s_is_again) (by decide +kernel)) (fun _ _ _ _ _ => (pg_tupK (K := K) rfl (n := 2) rfl (pgs_cons (pg_name (i := 2) sc_is_again.nd rfl (Or.inl rfl)) (pgs_cons (pg_name (i := 3) sc_is_again.nd rfl (Or.inl rfl)) pgs_nil)))) (fun _ _ _ _ _ => pts_nil) (fun _ _ _ _ _ => (pe_cmpR op_eq (pv 3) (pe_ix (ixK_list (K := K) rfl) (pv 0) (pv 2) (fun _ _ => rfl)) (nomark _)))) pa_nil)))), ?_⟩⟩
  exact start_PV hpre (by
    rintro G v I Q hI ⟨a, gs, k, rfl, ha, hk, hz, rfl⟩ q
    refine go_retV hI (v := .bl ((((List.range (gs.drop k).length).map fun i => decide ((gs.drop k).getD i 0 = gs.getD i 0))).all id)) ?_ ?_ (q G (Ex.refl G))
    · refine ev_all (el_eqv (el_lcP (n := (gs.drop k).length) (fun _ => true) (fun i => .bl (decide ((gs.drop k).getD i 0 = gs.getD i 0))) (ew_len (ew_enumN (el_sliceL (ys := nL (gs.drop k)) (ev_var rfl) (eo_some (ev_var rfl)) eo_none ha ?_)) nL_len) ?_ (fun x y => rfl) ?_) ?_)
      · exact cut_tail.trans (by unfold nL; rw [List.map_drop])
      · rw [List.length_drop]; omega
      · intro i x y hi e1 e2
        obtain rfl : nV i = x := Option.some.inj e1
        rw [nL_get hi] at e2
        obtain rfl := Option.some.inj e2
        refine ⟨et_yes, fun _ => ?_⟩
        have hi2 : i < gs.length := by rw [List.length_drop] at hi; omega
        refine ev_eqv (ev_eq (ev_var rfl) (ev_ixL (ev_var rfl) (ev_var rfl) ha (by rw [atI_nat, nL_get hi2])) rfl) ?_
        exact congrArg V.bl dec_nV
      · rw [given_all, List.map_map]
        rfl
    · congr 1
      exact again_eq hk)
end Lm
end
section
set_option Elab.async false
set_option linter.all false
namespace Lm
/-! ### divisors -/
def divs (n : Nat) : List Nat := ((List.range n).map (· + 1)).filter (fun k => n % k == 0)
def lowP (n p : Nat) : List Nat := ((List.range (p - 1)).map (· + 1)).filter (fun k => n % k == 0)
def highP (n p : Nat) : List Nat := ((lowP n p).filter (fun d => decide (d * d < n))).map (n / ·)
theorem lowP_one (n : Nat) : lowP n 1 = [] := rfl
theorem highP_one (n : Nat) : highP n 1 = [] := rfl
theorem lowP_succ {n p : Nat} (hp : 1 ≤ p) : lowP n (p + 1) = if n % p == 0 then lowP n p ++ [p] else lowP n p := by
  unfold lowP
  obtain ⟨q, rfl⟩ : ∃ q, p = q + 1 := ⟨p - 1, by omega⟩
  simp only [Nat.add_sub_cancel]
  rw [List.range_succ, List.map_append, List.filter_append]
  simp only [List.map_cons, List.map_nil, List.filter_cons, List.filter_nil]
  split <;> simp_all
theorem highP_succ {n p : Nat} (hp : 1 ≤ p) : highP n (p + 1) = if (n % p == 0) = true ∧ p * p < n then highP n p ++ [n / p] else highP n p := by
  unfold highP
  rw [lowP_succ hp]
  by_cases h : (n % p == 0) = true
  · rw [if_pos h, List.filter_append, List.map_append]
    have h' : n % p = 0 := by simpa using h
    by_cases h2 : p * p < n
    · rw [if_pos ⟨h, h2⟩]
      simp [h2]
    · rw [if_neg (fun z => h2 z.2)]
      simp [h2]
  · rw [if_neg h, if_neg (fun z => h z.1)]
theorem sorted_ext : ∀ {xs ys : List Nat}, xs.Pairwise (· < ·) → ys.Pairwise (· < ·) → (∀ a, a ∈ xs ↔ a ∈ ys) → xs = ys
  | [], [], _, _, _ => rfl
  | [], y :: ys, _, _, h => absurd ((h y).mpr (by simp)) (by simp)
  | x :: xs, [], _, _, h => absurd ((h x).mp (by simp)) (by simp)
  | x :: xs, y :: ys, hx, hy, h => by
    rw [List.pairwise_cons] at hx hy
    have e : x = y := by
      have h1 := (h x).mp (by simp)
      have h2 := (h y).mpr (by simp)
      rw [List.mem_cons] at h1 h2
      rcases h1 with h1 | h1
      · exact h1
      · rcases h2 with h2 | h2
        · exact h2.symm
        · have := hy.1 _ h1
          have := hx.1 _ h2
          omega
    subst e
    congr 1
    refine sorted_ext hx.2 hy.2 fun a => ⟨fun ha => ?_, fun ha => ?_⟩
    · have h1 := (h a).mp (List.mem_cons_of_mem _ ha)
      rw [List.mem_cons] at h1
      rcases h1 with h1 | h1
      · have := hx.1 _ ha
        omega
      · exact h1
    · have h1 := (h a).mpr (List.mem_cons_of_mem _ ha)
      rw [List.mem_cons] at h1
      rcases h1 with h1 | h1
      · have := hy.1 _ ha
        omega
      · exact h1
theorem pw_range1 (n : Nat) : ((List.range n).map (· + 1)).Pairwise (· < ·) := by
  rw [List.pairwise_map]
  exact List.Pairwise.imp (fun h => by omega) List.pairwise_lt_range
theorem mem_divs {n d : Nat} : d ∈ divs n ↔ 1 ≤ d ∧ d ≤ n ∧ n % d = 0 := by
  unfold divs
  rw [List.mem_filter, List.mem_map]
  constructor
  · rintro ⟨⟨a, ha, rfl⟩, h⟩
    rw [List.mem_range] at ha
    exact ⟨by omega, by omega, by simpa using h⟩
  · rintro ⟨h1, h2, h3⟩
    exact ⟨⟨d - 1, List.mem_range.mpr (by omega), by omega⟩, by simpa using h3⟩
theorem mem_lowP {n p d : Nat} : d ∈ lowP n p ↔ 1 ≤ d ∧ d < p ∧ n % d = 0 := by
  unfold lowP
  rw [List.mem_filter, List.mem_map]
  constructor
  · rintro ⟨⟨a, ha, rfl⟩, h⟩
    rw [List.mem_range] at ha
    exact ⟨by omega, by omega, by simpa using h⟩
  · rintro ⟨h1, h2, h3⟩
    exact ⟨⟨d - 1, List.mem_range.mpr (by omega), by omega⟩, by simpa using h3⟩
theorem divs_sorted (n : Nat) : (divs n).Pairwise (· < ·) := (pw_range1 n).filter _
theorem lowP_sorted (n p : Nat) : (lowP n p).Pairwise (· < ·) := (pw_range1 _).filter _
theorem div_flip {n a b : Nat} (hn : 0 < n) (ha : n % a = 0) (hb : n % b = 0) (ha1 : 1 ≤ a) (h : a < b) : n / b < n / a := by
  have e1 := Nat.div_add_mod n a
  have e2 := Nat.div_add_mod n b
  rw [ha, Nat.add_zero] at e1
  rw [hb, Nat.add_zero] at e2
  apply Nat.lt_of_not_le
  intro hle
  have h1 : 0 < n / a := by
    rcases Nat.eq_zero_or_pos (n / a) with z | z
    · rw [z, Nat.mul_zero] at e1; omega
    · exact z
  have h3 : a * (n / a) ≤ a * (n / b) := Nat.mul_le_mul_left a hle
  have h4 : a * (n / b) < b * (n / b) := Nat.mul_lt_mul_of_pos_right h (by omega)
  omega
theorem divs_eq {n p : Nat} (hn : 0 < n) (hp : 1 ≤ p) (h1 : n < p * p) (h2 : (p - 1) * (p - 1) ≤ n) : lowP n p ++ (highP n p).reverse = divs n := by
  have key : ∀ d, d ∈ lowP n p → d * d < n → n % (n / d) = 0 ∧ d < n / d ∧ d * (n / d) = n := by
    intro d hd hdd
    obtain ⟨ha, hb, hc⟩ := mem_lowP.mp hd
    have e1 := Nat.div_add_mod n d
    rw [hc, Nat.add_zero] at e1
    refine ⟨?_, ?_, e1⟩
    · exact Nat.mod_eq_zero_of_dvd ⟨d, by rw [Nat.mul_comm]; exact e1.symm⟩
    · apply Nat.lt_of_not_le
      intro hle
      have := Nat.mul_le_mul_left d hle
      omega
  apply sorted_ext _ (divs_sorted n)
  · intro a
    rw [List.mem_append, List.mem_reverse, mem_divs]
    unfold highP
    rw [List.mem_map]
    constructor
    · rintro (h | ⟨d, hd, rfl⟩)
      · obtain ⟨ha, hb, hc⟩ := mem_lowP.mp h
        exact ⟨ha, Nat.le_of_dvd hn (Nat.dvd_of_mod_eq_zero hc), hc⟩
      · rw [List.mem_filter] at hd
        obtain ⟨k1, k2, k3⟩ := key d hd.1 (by simpa using hd.2)
        exact ⟨by omega, Nat.div_le_self _ _, k1⟩
    · rintro ⟨ha, hb, hc⟩
      by_cases hlt : a < p
      · exact .inl (mem_lowP.mpr ⟨ha, hlt, hc⟩)
      · right
        have e1 := Nat.div_add_mod n a
        rw [hc, Nat.add_zero] at e1
        have hq : 1 ≤ n / a := Nat.div_pos hb (by omega)
        have hqa : n / a < p := by
          apply Nat.lt_of_not_le
          intro z
          have y1 : p * p ≤ a * (n / a) := Nat.mul_le_mul (by omega) z
          omega
        have hsq : n / a * (n / a) < n := by
          have y1 : n / a * (n / a) ≤ (p - 1) * (n / a) := Nat.mul_le_mul_right _ (by omega)
          have y2 : (p - 1) * (n / a) < a * (n / a) := Nat.mul_lt_mul_of_pos_right (by omega) hq
          omega
        refine ⟨n / a, List.mem_filter.mpr ⟨mem_lowP.mpr ⟨hq, hqa, ?_⟩, by simpa using hsq⟩, ?_⟩
        · exact Nat.mod_eq_zero_of_dvd ⟨a, by rw [Nat.mul_comm]; exact e1.symm⟩
        · exact Nat.div_eq_of_eq_mul_right hq (by rw [Nat.mul_comm]; exact e1.symm)
  · rw [List.pairwise_append]
    refine ⟨lowP_sorted n p, ?_, ?_⟩
    · rw [List.pairwise_reverse]
      unfold highP
      rw [List.pairwise_map]
      have := (lowP_sorted n p).filter (fun d => decide (d * d < n))
      refine List.Pairwise.imp_of_mem ?_ this
      intro a b ha hb hab
      rw [List.mem_filter] at ha hb
      obtain ⟨a1, a2, a3⟩ := mem_lowP.mp ha.1
      obtain ⟨b1, b2, b3⟩ := mem_lowP.mp hb.1
      exact div_flip hn a3 b3 a1 hab
    · intro a ha b hb
      rw [List.mem_reverse] at hb
      unfold highP at hb
      rw [List.mem_map] at hb
      obtain ⟨d, hd, rfl⟩ := hb
      rw [List.mem_filter] at hd
      obtain ⟨k1, k2, k3⟩ := key d hd.1 (by simpa using hd.2)
      obtain ⟨a1, a2, a3⟩ := mem_lowP.mp ha
      apply Nat.lt_of_not_le
      intro hle
      have y1 : n / d * (n / d) ≤ (p - 1) * (p - 1) := Nat.mul_le_mul (by omega) (by omega)
      have y2 : d * (n / d) < n / d * (n / d) := Nat.mul_lt_mul_of_pos_right k2 (by omega)
      omega
end Lm
end
section
set_option Elab.async false
set_option linter.all false
set_option maxRecDepth 100000
set_option maxHeartbeats 2000000
namespace Lm
open PySem PySem.Spec L2 Evl
local macro_rules | `(tactic| infer_instance) => `(tactic| first | (with_reducible exact ev_c) | ((with_reducible apply ev_var); exact rfl) | (with_reducible exact ea_nil) | (intro _; infer_instance) | ((with_reducible apply ev_I0) <;> try infer_instance) | ((with_reducible apply ev_I) <;> try infer_instance) | ((with_reducible apply ev_isInt) <;> try infer_instance) | ((with_reducible apply ev_isBool) <;> try infer_instance) | ((with_reducible apply ev_isStr) <;> try infer_instance) | ((with_reducible apply ev_isTup) <;> try infer_instance) | ((with_reducible apply ev_isN) <;> try infer_instance) | ((with_reducible apply ev_notN) <;> try infer_instance) | ((with_reducible apply ev_neg) <;> try infer_instance) | ((with_reducible apply ev_fld) <;> try infer_instance) | ((with_reducible apply ev_ixT) <;> try infer_instance) | ((with_reducible apply ev_ixL) <;> try infer_instance) | ((with_reducible apply ev_andV) <;> try infer_instance) | ((with_reducible apply ev_orV) <;> try infer_instance) | ((with_reducible apply ev_notV) <;> try infer_instance) | ((with_reducible apply ev_callV) <;> try infer_instance) | ((with_reducible apply ea_cons) <;> try infer_instance) | ((with_reducible apply et_test) <;> try infer_instance) | ((with_reducible apply et_B) <;> try infer_instance) | ((with_reducible apply et_not) <;> try infer_instance) | ((with_reducible apply et_and) <;> try infer_instance) | ((with_reducible apply et_or) <;> try infer_instance) | ((with_reducible apply ev_eq) <;> first | infer_instance | exact rfl | skip) | ((with_reducible apply ev_ne) <;> first | infer_instance | exact rfl | skip) | ((with_reducible apply eu_tup) <;> first | infer_instance | decide | skip) | ((with_reducible apply el_lst) <;> first | infer_instance | decide | skip))
def sp_divisors_of (K : PySem.W.Frag) : Sp := PL 1 fun vs G xs => ∃ n : Nat, vs = [nV n] ∧ 0 < n ∧ n ≤ 20000 ∧ xs = nL (divs n)
abbrev N_divisors_of : List Str := ["number", "low", "high", "part"]
abbrev P_divisors_of : List Str := ["number"]
theorem sc_divisors_of : FnScope N_divisors_of P_divisors_of (defScope s_divisors_of) := ⟨rfl, rfl, rfl, by decide +kernel, rfl, by decide +kernel, by decide +kernel⟩
theorem F_divisors_of {P : Program} {w : World} {K : PySem.W.Frag} {mg : Str → Option Value} {base : Heap} (T : Tx K w mg) : Kp P w K mg base 1 "divisors_of" P_divisors_of (sp_divisors_of K) := by
  obtain ⟨fd, F⟩ := T.d_divisors_of
  refine ⟨_, fd, T.g_divisors_of, F.kp, F.bindsN (fun _ _ _ _ _ _ us hl => match us, hl with | [_], _ => rfl), F.ok (N := N_divisors_of) sc_divisors_of len_PL fun cdv A outer s H vs Q E hr hpre => ⟨_, PSs.nox (pss_cons (ps_par3 (i := 1) (j := 2) (l := 3) rfl sc_divisors_of.nd rfl rfl rfl (by decide) (by decide) (by decide) rfl rfl rfl (pa_cons (pe_lst pa_nil) (pa_cons (pe_lst pa_nil) (pa_cons pe_int pa_nil))) (by rfl))
  (pss_cons (ps_while PassesOwn.never (pt_cmpR op_le (pe_op op_mul (pv 3) (pv 3)) (pv 0) (nomark _))
    (pss_cons (ps_if (pt_cmpR op_eq (pe_op op_mul (pe_op op_fdiv (pv 0) (pv 3)) (pv 3)) (pv 0) (nomark _))
    (pss_cons (ps_expr (pe_bm PySem.F.plainAttrs_list PySem.F.slot_list_append PySem.F.type_list_append mt_append (pv 1) (pa_cons (pv 3) pa_nil)))
  (pss_one (ps_if (pt_cmpR op_lt (pe_op op_mul (pv 3) (pv 3)) (pv 0) (nomark _))
    (pss_one (ps_expr (pe_bm PySem.F.plainAttrs_list PySem.F.slot_list_append PySem.F.type_list_append mt_append (pv 2) (pa_cons (pe_op op_fdiv (pv 0) (pv 3)) pa_nil))))
    pss_nil)))
    pss_nil)
  (pss_one (ps_aug (i := 3) sc_divisors_of.nd rfl (.inl rfl) pe_int ip_add))))
  (pss_one (ps_ret (pe_op op_cat (pv 1) (pe_revL (pv 2))))))), ?_⟩⟩
  exact start_PL hpre (by
    rintro G xs I Q hI ⟨n, rfl, hn, hn2, rfl⟩ q
    refine go_par3OO hI (el_lst ea_nil (by decide)) (fun _ _ => el_lst ea_nil (by decide)) (fun _ => ev_c) fun p r hp hr hpr => ?_
    refine go_while (α := Nat) (fun k => [some (nV n), some (.ref p), some (.ref r), some (nV k)]) (fun k => upd (upd G p (.lst (nL (lowP n k)))) r (.lst (nL (highP n k)))) (fun k => 1 ≤ k ∧ (k - 1) * (k - 1) ≤ n) (fun k => n + 1 - k) 1 rfl rfl ⟨by omega, by omega⟩ (cl_wl (cl_wl hI)) (fun k => decide (k * k ≤ n)) ?_
    rintro k ⟨w1, w2⟩
    refine ⟨?_, fun hz => ?_, fun hz => ?_⟩
    · refine et_eqv (et_test (ev_I0 (ev_I (C := CMul) (i := (k : Int)) (j := (k : Int)) (ev_var rfl) (ev_var rfl) ?_) (ev_var rfl))) ?_
      · exact Or.inl ⟨by omega, by
          have : k - 1 ≤ n := Nat.le_trans (Nat.le_mul_self _) w2
          omega⟩
      · rw [Bool.eq_iff_iff, decide_eq_true_iff, decide_eq_true_iff]
        exact ⟨fun h => by exact_mod_cast h, fun h => by exact_mod_cast h⟩
    · have hk : k * k ≤ n := by simpa using hz
      have hkn : k ≤ n := Nat.le_trans (Nat.le_mul_self _) hk
      have hll : (nL (lowP n k)).length < 100000 := by
        rw [nL_len]
        have : (lowP n k).length ≤ ((List.range (k - 1)).map (· + 1)).length := List.length_filter_le _ _
        rw [List.length_map, List.length_range] at this
        omega
      have hhl : (nL (highP n k)).length < 100000 := by
        rw [nL_len]
        unfold highP
        rw [List.length_map]
        have h1 : ((lowP n k).filter (fun d => decide (d * d < n))).length ≤ (lowP n k).length := List.length_filter_le _ _
        rw [nL_len] at hll
        omega
      have step : ∀ (D : Ends) G', D.nx = WN (Wl r (Wl p I)) (fun k => [some (nV n), some (.ref p), some (.ref r), some (nV k)]) (fun k => upd (upd G p (.lst (nL (lowP n k)))) r (.lst (nL (highP n k)))) (fun k => 1 ≤ k ∧ (k - 1) * (k - 1) ≤ n) (fun k => n + 1 - k) k → G' = upd (upd G p (.lst (nL (lowP n (k + 1))))) r (.lst (nL (highP n (k + 1)))) → Go (Wl r (Wl p I)) (tAug 3 (tC (.int 1)) (ipI fun i j => i + j)) D [some (nV n), some (.ref p), some (.ref r), some (nV k)] G' := by
        intro D G' hD hG
        refine go_aug1 (x := nV k) (y := .int 1) (z := nV (k + 1)) (cl_wl (cl_wl hI)) rfl ev_c rv_ip ?_
        rw [hD]
        exact WN.mk (k + 1) rfl hG ⟨by omega, by simpa using hk⟩ (by omega)
      have hdv : (n % k == 0) = decide (V.int ((n : Int) / (k : Int) * (k : Int)) = nV n) := (quot_eq w1).symm
      refine go_when (b := n % k == 0) (cl_wl (cl_wl hI)) ?_ (fun hb => ?_) fun hb => ?_
      · rw [hdv]
        refine et_test (ev_eq (ev_I (ev_I (i := (n : Int)) (j := (k : Int)) (ev_var rfl) (ev_var rfl) ?_) (ev_var rfl) ?_) (ev_var rfl) rfl)
        · exact ⟨by omega, by omega⟩
        · exact Or.inr (by omega)
      · refine go_seq (go_appO2 hI hpr (xs := nL (lowP n k)) (v := nV k) (by rw [upd_ne hpr]; exact upd_same) (ev_var rfl) (ev_var rfl) hll ?_)
        dsimp only
        refine go_nx ?_
        have hG1 : upd (upd (upd G p (.lst (nL (lowP n k)))) r (.lst (nL (highP n k)))) p (.lst (nL (lowP n k) ++ [nV k])) = upd (upd G p (.lst (nL (lowP n (k + 1))))) r (.lst (nL (highP n k))) := by
          rw [upd_comm hpr.symm, upd_upd, lowP_succ w1, if_pos hb]
          unfold nL
          rw [List.map_append]
          rfl
        rw [hG1]
        refine go_if (b := decide (k * k < n)) (cl_wl (cl_wl hI)) ?_ (fun hc => ?_) fun hc => ?_
        · refine et_eqv (et_test (ev_I0 (ev_I (C := CMul) (i := (k : Int)) (j := (k : Int)) (ev_var rfl) (ev_var rfl) ?_) (ev_var rfl))) ?_
          · exact Or.inl ⟨by omega, by omega⟩
          · rw [Bool.eq_iff_iff, decide_eq_true_iff, decide_eq_true_iff]
            exact ⟨fun h => by exact_mod_cast h, fun h => by exact_mod_cast h⟩
        · have hc' : k * k < n := by simpa using hc
          refine go_app (cl_wl (cl_wl hI)) (fun H i => wl_upd i) (xs := nL (highP n k)) (v := nV (n / k)) upd_same (ev_var rfl) (ev_I (i := (n : Int)) (j := (k : Int)) (ev_var rfl) (ev_var rfl) ?_) hhl ?_
          · exact ⟨by omega, by omega⟩
          · dsimp only
            refine go_nx (step _ _ rfl ?_)
            rw [upd_upd, highP_succ w1, if_pos ⟨hb, hc'⟩]
            unfold nL
            rw [List.map_append]
            rfl
        · have hc' : ¬ k * k < n := by simpa using hc
          refine go_next ?_
          dsimp only
          refine go_nx (step _ _ rfl ?_)
          rw [highP_succ w1, if_neg (fun z => hc' z.2)]
      · refine step _ _ rfl ?_
        rw [highP_succ w1, if_neg (fun z => by rw [hb] at z; cases z.1), lowP_succ w1, if_neg (by rw [hb]; decide)]
    · have hk : n < k * k := by
        have : ¬ k * k ≤ n := by simpa using hz
        omega
      refine go_retL (cl_wl (cl_wl hI)) (xs := nL (divs n)) ?_ fun t ht => gov_out (cl_wl hI) (gov_out hI ?_)
      · refine el_eqv (el_cat (ev_var rfl) (xs := nL (lowP n k)) (by rw [upd_ne hpr]; exact upd_same) (el_revL (ev_var rfl) (sq_of upd_same)) ?_) ?_
        · have h1 : (lowP n k).length ≤ k - 1 := by
            have := List.length_filter_le (fun j => n % j == 0) ((List.range (k - 1)).map (· + 1))
            rw [List.length_map, List.length_range] at this
            exact this
          have h2 : (highP n k).length ≤ (lowP n k).length := by
            unfold highP
            rw [List.length_map]
            exact List.length_filter_le _ _
          have h3 : k - 1 ≤ n := Nat.le_trans (Nat.le_mul_self _) w2
          rw [List.length_reverse, nL_len, nL_len]
          omega
        · unfold nL
          rw [← List.map_reverse, ← List.map_append, divs_eq hn w1 hk w2]
      · obtain ⟨t1, t2⟩ := upd_none ht
        obtain ⟨t3, t4⟩ := upd_none t1
        exact q t _ (Ex.mut (Ex.mut (Ex.mut (Ex.refl G) hp) hr) t3) t3 upd_same)
end Lm
end
section
set_option Elab.async false
set_option linter.all false
namespace Lm
theorem lcmN_eq (a b : Nat) : lcmN a b = Nat.lcm a b := by
  unfold lcmN Nat.lcm
  rw [Nat.mul_comm, Nat.mul_comm a b]
  exact (Nat.mul_div_assoc b (Nat.gcd_dvd_left a b)).symm
theorem prod_nil : prod [] = 1 := rfl
theorem foldl_mul (l : List Nat) : ∀ a, l.foldl (· * ·) a = a * l.foldl (· * ·) 1 := by
  induction l with
  | nil => intro a; simp
  | cons b l ih => intro a; rw [List.foldl_cons, List.foldl_cons, ih (a * b), ih (1 * b), Nat.one_mul, Nat.mul_assoc]
theorem prod_cons (b : Nat) (bs : List Nat) : prod (b :: bs) = b * prod bs := by
  unfold prod
  rw [List.foldl_cons, foldl_mul, Nat.one_mul]
theorem prod_snoc (bs : List Nat) (b : Nat) : prod (bs ++ [b]) = prod bs * b := by
  unfold prod
  rw [List.foldl_append]
  rfl
theorem prod_bd : ∀ (bs : List Nat), (∀ b ∈ bs, 2 ≤ b ∧ b ≤ 4) → 1 ≤ prod bs ∧ prod bs ≤ 4 ^ bs.length
  | [], _ => ⟨Nat.le_refl _, Nat.le_refl _⟩
  | b :: bs, h => by
    obtain ⟨h1, h2⟩ := prod_bd bs fun x hx => h x (List.mem_cons_of_mem _ hx)
    obtain ⟨k1, k2⟩ := h b (List.mem_cons_self ..)
    rw [prod_cons, List.length_cons, Nat.pow_succ]
    refine ⟨Nat.mul_pos (by omega) h1, ?_⟩
    rw [Nat.mul_comm]
    exact Nat.mul_le_mul h2 k2
theorem evs_dvd : ∀ (rows : List Row), (∀ r ∈ rows, 1 ≤ r.2.1 ∧ r.2.1 ≤ 4) → ∀ e, e ∣ 12 → 0 < e → rows.foldl (fun e r => if r.1 = 0 then lcmN e r.2.1 else e) e ∣ 12 ∧ 0 < rows.foldl (fun e r => if r.1 = 0 then lcmN e r.2.1 else e) e
  | [], _, e, h, h0 => ⟨h, h0⟩
  | r :: rows, hr, e, h, h0 => by
    obtain ⟨k1, k2⟩ := hr r (List.mem_cons_self ..)
    have kd : r.2.1 ∣ 12 := by
      have : r.2.1 = 1 ∨ r.2.1 = 2 ∨ r.2.1 = 3 ∨ r.2.1 = 4 := by omega
      rcases this with e | e | e | e <;> rw [e] <;> decide
    rw [List.foldl_cons]
    refine evs_dvd rows (fun x hx => hr x (List.mem_cons_of_mem _ hx)) _ ?_ ?_
    · split
      · rw [lcmN_eq]
        exact Nat.lcm_dvd h kd
      · exact h
    · split
      · rw [lcmN_eq]
        exact Nat.lcm_pos h0 k1
      · exact h0
theorem evs_bd {rows : List Row} (hr : ∀ r ∈ rows, 1 ≤ r.2.1 ∧ r.2.1 ≤ 4) : 1 ≤ evs rows ∧ evs rows ≤ 12 := by
  obtain ⟨h1, h2⟩ := evs_dvd rows hr 1 (by decide) (by decide)
  exact ⟨h2, Nat.le_of_dvd (by decide) h1⟩
theorem sizes_mem {gs : List Nat} {k : Nat} : k ∈ sizes gs ↔ 1 ≤ k ∧ k ≤ gs.length ∧ again gs k = true := by
  unfold sizes
  rw [List.mem_filter, List.mem_map]
  constructor
  · rintro ⟨⟨a, ha, rfl⟩, h⟩
    rw [List.mem_range] at ha
    exact ⟨by omega, by omega, h⟩
  · rintro ⟨h1, h2, h3⟩
    exact ⟨⟨k - 1, List.mem_range.mpr (by omega), by omega⟩, h3⟩
theorem again_len (gs : List Nat) : again gs gs.length = true := by
  unfold again
  simp
theorem sizes_head {gs : List Nat} (h : 0 < gs.length) : (sizes gs).headD 0 ∈ sizes gs := by
  have : gs.length ∈ sizes gs := sizes_mem.mpr ⟨h, Nat.le_refl _, again_len gs⟩
  cases e : sizes gs with
  | nil => rw [e] at this; cases this
  | cons a l => exact List.mem_cons_self ..
namespace HM
variable {h : HM}
theorem Ok.ne (o : h.Ok) : h.bs ≠ [] := fun z => by
  have := o.n1
  rw [z] at this
  exact absurd this (by decide)
theorem Ok.last_eq (o : h.Ok) : h.last = h.bs.getLast o.ne := by
  unfold last
  rw [List.getLastD_eq_getLast?, List.getLast?_eq_some_getLast o.ne]
  rfl
theorem Ok.last_bd (o : h.Ok) : 2 ≤ h.last ∧ h.last ≤ 4 := by
  rw [o.last_eq]
  exact o.b _ (List.getLast_mem o.ne)
theorem Ok.row_bd (o : h.Ok) : ∀ r ∈ h.rows, 1 ≤ r.2.1 ∧ r.2.1 ≤ 4 := fun r hr => ⟨(o.r r hr).2.1, (o.r r hr).2.2.1⟩
theorem Ok.grp_bd (o : h.Ok) : 1 ≤ prod h.bs.dropLast ∧ prod h.bs.dropLast ≤ 16 := by
  obtain ⟨h1, h2⟩ := prod_bd h.bs.dropLast fun b hb => o.b b ((List.dropLast_sublist _).subset hb)
  refine ⟨h1, Nat.le_trans h2 ?_⟩
  rw [List.length_dropLast]
  have h3 := o.n3
  have : 4 ^ (h.bs.length - 1) ≤ 4 ^ 2 := Nat.pow_le_pow_right (by decide) (by omega)
  exact this
theorem gaps_len (h : HM) : h.gaps.length = prod h.bs.dropLast * evs h.rows := by
  unfold gaps
  rw [List.length_map, List.length_range]
theorem Ok.gaps_bd (o : h.Ok) : 1 ≤ h.gaps.length ∧ h.gaps.length ≤ 192 := by
  rw [gaps_len]
  obtain ⟨h1, h2⟩ := o.grp_bd
  obtain ⟨h3, h4⟩ := evs_bd o.row_bd
  exact ⟨Nat.mul_pos h1 h3, Nat.mul_le_mul h2 h4⟩
theorem Ok.size_bd (o : h.Ok) : 1 ≤ h.size ∧ h.size ≤ h.gaps.length := by
  have := sizes_mem.mp (sizes_head (gs := h.gaps) o.gaps_bd.1)
  exact ⟨this.1, this.2.1⟩
theorem gap_lt {rows : List Row} {m g : Nat} {bs : List Nat} (hr : ∀ r ∈ rows, r.2.2 < m) (h0 : 0 < m) : gapOf bs rows g < m := by
  unfold gapOf
  have : ∀ (rows : List Row), (∀ r ∈ rows, r.2.2 < m) → ∀ a, a < m → rows.foldl (fun acc r => if hit (figs bs g) r then r.2.2 else acc) a < m := by
    intro rows
    induction rows with
    | nil => intro _ a ha; exact ha
    | cons r rows ih =>
      intro hr a ha
      rw [List.foldl_cons]
      refine ih (fun x hx => hr x (List.mem_cons_of_mem _ hx)) _ ?_
      split
      · exact hr r (List.mem_cons_self ..)
      · exact ha
  exact this rows hr 0 h0
theorem Ok.gap_bd (o : h.Ok) : ∀ s ∈ h.gaps, s < h.last := by
  intro s hs
  unfold gaps at hs
  rw [List.mem_map] at hs
  obtain ⟨g, _, rfl⟩ := hs
  exact gap_lt (fun r hr => (o.r r hr).2.2.2) (by have := o.last_bd; omega)
theorem Ok.sk_len (o : h.Ok) : h.sk.length = h.size := by
  unfold sk
  rw [List.length_take]
  have := o.size_bd
  omega
theorem Ok.sk_lt (o : h.Ok) (g : Nat) : h.sk.getD g 0 < h.last := by
  have hl := o.last_bd
  by_cases hg : g < h.sk.length
  · rw [List.getD_eq_getElem?_getD, List.getElem?_eq_getElem hg]
    exact o.gap_bd _ (List.mem_of_mem_take (List.getElem_mem hg))
  · rw [List.getD_eq_getElem?_getD, List.getElem?_eq_none (by omega)]
    show 0 < h.last
    omega
theorem Ok.P_bd (o : h.Ok) : 0 < h.P ∧ h.P ≤ 768 := by
  unfold P
  have h1 := o.size_bd
  have h2 := o.gaps_bd
  have h3 := o.last_bd
  exact ⟨Nat.mul_pos (by omega) (by omega), Nat.le_trans (Nat.mul_le_mul (show h.size ≤ 192 by omega) h3.2) (by decide)⟩
theorem opn_zero (h : HM) : h.opn 0 = 0 := rfl
theorem Ok.opn_succ (o : h.Ok) {k : Nat} (hk : k < h.size) : h.opn (k + 1) = h.opn k + (h.last - h.sk.getD k 0) := by
  unfold opn
  have hk' : k < h.sk.length := by rw [o.sk_len]; exact hk
  rw [List.take_succ, List.getElem?_eq_getElem hk', List.map_append, List.foldl_append]
  rw [List.getD_eq_getElem?_getD, List.getElem?_eq_getElem hk']
  rfl
theorem Ok.opn_lt (o : h.Ok) : ∀ {a b : Nat}, a < b → b ≤ h.size → h.opn a < h.opn b := by
  intro a b hab hb
  induction b with
  | zero => omega
  | succ b ih =>
    rw [o.opn_succ (by omega)]
    have := o.sk_lt b
    by_cases e : a = b
    · subst e; omega
    · have := ih (by omega) (by omega)
      omega
theorem Ok.opn_le (o : h.Ok) {a b : Nat} (hab : a ≤ b) (hb : b ≤ h.size) : h.opn a ≤ h.opn b := by
  by_cases e : a = b
  · subst e; exact Nat.le_refl _
  · exact Nat.le_of_lt (o.opn_lt (by omega) hb)
theorem cnt_zero (h : HM) : h.cnt 0 = 0 := rfl
theorem cnt_succ (h : HM) (p : Nat) : h.cnt (p + 1) = h.cnt p + (if h.bo p then 1 else 0) := by
  unfold cnt
  rw [List.range_succ, List.filter_append, List.length_append]
  congr 1
  by_cases e : h.bo p = true
  · simp [e]
  · simp [e]
theorem cnt_le (h : HM) {a b : Nat} (hab : a ≤ b) : h.cnt a ≤ h.cnt b := by
  induction b with
  | zero => have : a = 0 := by omega
            subst this; exact Nat.le_refl _
  | succ b ih =>
    by_cases e : a = b + 1
    · subst e; exact Nat.le_refl _
    · rw [cnt_succ]
      have := ih (by omega)
      omega
theorem cnt_lip (h : HM) (a k : Nat) : h.cnt (a + k) ≤ h.cnt a + k := by
  induction k with
  | zero => exact Nat.le_refl _
  | succ k ih =>
    rw [← Nat.add_assoc, cnt_succ]
    split <;> omega
theorem bo_at {h : HM} (o : h.Ok) {g j : Nat} (hj : j < h.last) : h.bo (g * h.last + j) = decide (h.sk.getD g 0 ≤ j) := by
  unfold bo
  have h1 : (g * h.last + j) / h.last = g := by
    rw [Nat.mul_comm, Nat.mul_add_div (by omega), Nat.div_eq_of_lt hj, Nat.add_zero]
  have h2 : (g * h.last + j) % h.last = j := by
    rw [Nat.mul_comm, Nat.mul_add_mod, Nat.mod_eq_of_lt hj]
  rw [h1, h2]
theorem Ok.cnt_in (o : h.Ok) {g : Nat} : ∀ {j : Nat}, j ≤ h.last → h.cnt (g * h.last) = h.opn g → h.cnt (g * h.last + j) = h.opn g + (j - h.sk.getD g 0) := by
  intro j
  induction j with
  | zero => intro _ e; rw [Nat.add_zero, e]; omega
  | succ j ih =>
    intro hj e
    rw [← Nat.add_assoc, cnt_succ, ih (by omega) e, bo_at o (by omega)]
    by_cases hs : h.sk.getD g 0 ≤ j
    · simp only [hs, decide_true, if_true]
      omega
    · rw [decide_eq_false hs, if_neg (by decide)]
      omega
theorem Ok.cnt_grp (o : h.Ok) : ∀ {g : Nat}, g ≤ h.size → h.cnt (g * h.last) = h.opn g := by
  intro g
  induction g with
  | zero => intro _; rw [Nat.zero_mul]; rfl
  | succ g ih =>
    intro hg
    rw [Nat.succ_mul, o.cnt_in (Nat.le_refl _) (ih (by omega)), o.opn_succ (by omega)]
theorem Ok.cnt_eq (o : h.Ok) {g j : Nat} (hg : g ≤ h.size) (hj : j ≤ h.last) : h.cnt (g * h.last + j) = h.opn g + (j - h.sk.getD g 0) := o.cnt_in hj (o.cnt_grp hg)
theorem F_eq (h : HM) : h.F = h.cnt h.P := rfl
theorem Ok.opn_F (o : h.Ok) : h.opn h.size = h.F := by
  rw [F_eq]
  unfold P
  exact (o.cnt_grp (Nat.le_refl _)).symm
theorem Ok.F_bd (o : h.Ok) : 0 < h.F ∧ h.F ≤ h.P := by
  refine ⟨?_, ?_⟩
  · rw [← o.opn_F]
    have := o.opn_lt (a := 0) (b := h.size) (by have := o.size_bd; omega) (Nat.le_refl _)
    omega
  · rw [F_eq]
    have := h.cnt_lip 0 h.P
    rw [Nat.zero_add, cnt_zero] at this
    omega
/-- the place of a borne place's number -/
theorem spots_cnt (h : HM) : ∀ {n p : Nat}, p < n → h.bo p = true → ((List.range n).filter h.bo)[h.cnt p]? = some p := by
  intro n
  induction n with
  | zero => intro p hp; omega
  | succ n ih =>
    intro p hp hb
    rw [List.range_succ, List.filter_append]
    by_cases e : p = n
    · subst e
      rw [List.getElem?_append_right (show ((List.range p).filter h.bo).length ≤ h.cnt p from Nat.le_refl _)]
      have hz : h.cnt p - ((List.range p).filter h.bo).length = 0 := Nat.sub_self _
      show (List.filter h.bo [p])[h.cnt p - ((List.range p).filter h.bo).length]? = _
      rw [hz]
      simp [hb]
    · have h1 := ih (p := p) (by omega) hb
      rw [List.getElem?_append_left (List.getElem?_eq_some_iff.mp h1).1]
      exact h1
theorem Ok.at_grp (o : h.Ok) {g t : Nat} (hg : g < h.size) (ht : t < h.last - h.sk.getD g 0) : h.spots.getD (h.opn g + t) 0 = g * h.last + h.sk.getD g 0 + t := by
  have hs := o.sk_lt g
  have hp : g * h.last + (h.sk.getD g 0 + t) < h.P := by
    have : (g + 1) * h.last ≤ h.size * h.last := Nat.mul_le_mul_right _ hg
    rw [Nat.succ_mul] at this
    unfold P
    omega
  have hb : h.bo (g * h.last + (h.sk.getD g 0 + t)) = true := by
    rw [bo_at o (by omega)]
    simp
  have hc := o.cnt_eq (g := g) (j := h.sk.getD g 0 + t) (by omega) (by omega)
  rw [show h.sk.getD g 0 + t - h.sk.getD g 0 = t by omega] at hc
  have := spots_cnt h hp hb
  rw [hc] at this
  rw [List.getD_eq_getElem?_getD]
  unfold spots
  rw [this]
  show g * h.last + (h.sk.getD g 0 + t) = _
  omega
theorem Ok.find_grp (o : h.Ok) {n : Nat} (hn : n < h.F) : ∃ g, g < h.size ∧ h.opn g ≤ n ∧ n < h.opn (g + 1) := by
  have : ∀ k, k ≤ h.size → n < h.opn k → ∃ g, g < k ∧ h.opn g ≤ n ∧ n < h.opn (g + 1) := by
    intro k
    induction k with
    | zero => intro _ z; rw [opn_zero] at z; omega
    | succ k ih =>
      intro hk hz
      by_cases e : h.opn k ≤ n
      · exact ⟨k, by omega, e, hz⟩
      · obtain ⟨g, h1, h2⟩ := ih (by omega) (by omega)
        exact ⟨g, by omega, h2⟩
  rw [← o.opn_F] at hn
  obtain ⟨g, h1, h2⟩ := this h.size (Nat.le_refl _) hn
  exact ⟨g, h1, h2⟩
theorem Ok.grp_uniq (o : h.Ok) {n a b : Nat} (ha : a < h.size) (hb : b < h.size) (a1 : h.opn a ≤ n) (a2 : n < h.opn (a + 1)) (b1 : h.opn b ≤ n) (b2 : n < h.opn (b + 1)) : a = b := by
  apply Nat.le_antisymm
  · apply Nat.le_of_not_lt
    intro z
    have := o.opn_le (a := b + 1) (b := a) z (by omega)
    omega
  · apply Nat.le_of_not_lt
    intro z
    have := o.opn_le (a := a + 1) (b := b) z (by omega)
    omega
/-- the program's place of a frame -/
theorem Ok.place_eq (o : h.Ok) {n g : Nat} (hg : g < h.size) (h1 : h.opn g ≤ n % h.F) (h2 : n % h.F < h.opn (g + 1)) : h.place n = n / h.F * h.P + g * h.last + h.sk.getD g 0 + (n % h.F - h.opn g) := by
  rw [o.opn_succ hg] at h2
  unfold place
  have := o.at_grp (g := g) (t := n % h.F - h.opn g) hg (by omega)
  rw [show h.opn g + (n % h.F - h.opn g) = n % h.F by omega] at this
  rw [this]
  omega
end HM
end Lm
end
section
set_option Elab.async false
set_option linter.all false
set_option maxRecDepth 100000
set_option maxHeartbeats 2000000
namespace Lm
open PySem PySem.Spec L2 Evl
local macro_rules | `(tactic| infer_instance) => `(tactic| first | (with_reducible exact ev_c) | ((with_reducible apply ev_var); exact rfl) | (with_reducible exact ea_nil) | (intro _; infer_instance) | ((with_reducible apply ev_I0) <;> try infer_instance) | ((with_reducible apply ev_I) <;> try infer_instance) | ((with_reducible apply ev_isInt) <;> try infer_instance) | ((with_reducible apply ev_isBool) <;> try infer_instance) | ((with_reducible apply ev_isStr) <;> try infer_instance) | ((with_reducible apply ev_isTup) <;> try infer_instance) | ((with_reducible apply ev_isN) <;> try infer_instance) | ((with_reducible apply ev_notN) <;> try infer_instance) | ((with_reducible apply ev_neg) <;> try infer_instance) | ((with_reducible apply ev_fld) <;> try infer_instance) | ((with_reducible apply ev_ixT) <;> try infer_instance) | ((with_reducible apply ev_ixL) <;> try infer_instance) | ((with_reducible apply ev_andV) <;> try infer_instance) | ((with_reducible apply ev_orV) <;> try infer_instance) | ((with_reducible apply ev_notV) <;> try infer_instance) | ((with_reducible apply ev_callV) <;> try infer_instance) | ((with_reducible apply ea_cons) <;> try infer_instance) | ((with_reducible apply et_test) <;> try infer_instance) | ((with_reducible apply et_B) <;> try infer_instance) | ((with_reducible apply et_not) <;> try infer_instance) | ((with_reducible apply et_and) <;> try infer_instance) | ((with_reducible apply et_or) <;> try infer_instance) | ((with_reducible apply ev_eq) <;> first | infer_instance | exact rfl | skip) | ((with_reducible apply ev_ne) <;> first | infer_instance | exact rfl | skip) | ((with_reducible apply eu_tup) <;> first | infer_instance | decide | skip) | ((with_reducible apply el_lst) <;> first | infer_instance | decide | skip))
def sp_is_row (K : PySem.W.Frag) : Sp := PV 2 fun vs G v => ∃ (a b : Addr) (bs : List Nat) (r : Row), vs = [.ref a, .ref b] ∧ SqT K G a (rowV r) ∧ SqT K G b (nL bs) ∧ bs ≠ [] ∧ r.1 < bs.length ∧ 1 ≤ r.2.1 ∧ r.2.1 ≤ 4 ∧ r.2.2 < bs.getLastD 0 ∧ v = .bl true
abbrev N_is_row : List Str := ["value", "bases", "field", "every", "count"]
abbrev P_is_row : List Str := ["value", "bases"]
theorem sc_is_row : FnScope N_is_row P_is_row (defScope s_is_row) := ⟨rfl, rfl, rfl, by decide +kernel, rfl, by decide +kernel, by decide +kernel⟩
theorem F_is_row {P : Program} {w : World} {K : PySem.W.Frag} {mg : Str → Option Value} {base : Heap} (T : Tx K w mg) (F_is_between : Kp P w K mg base 2 "is_between" P_is_between (sp_is_between K)) : Kp P w K mg base 3 "is_row" P_is_row (sp_is_row K) := by
  obtain ⟨fd, F⟩ := T.d_is_row
  refine ⟨_, fd, T.g_is_row, F.kp, F.bindsN (fun _ _ _ _ _ _ us hl => match us, hl with | [_, _], _ => rfl), F.ok (N := N_is_row) sc_is_row len_PV fun cdv A outer s H vs Q E hr hpre => ⟨_, PSs.nox (pss_cons (ps_if (PW.pt (pw_or (pt_not (pt_val (pe_callB call_isi (by rfl) T.f_isinstance (by decide +kernel) (pa_cons (pv 0) (pa_cons (pe_bltn (by rfl) T.f_tuple (v := .ty "tuple") (by decide +kernel) rfl) pa_nil))))) (pw_or1 (pt_cmpR op_ne (pe_callB call_len_seq (by rfl) T.f_len (by decide +kernel) (pa_cons (pv 0) pa_nil)) pe_int (nomark _)))))
    (pss_one (ps_ret pe_bl))
    pss_nil)
  (pss_cons (ps_asg (pv 0) (pg_tup (n := 3) rfl (pgs_cons (pg_name (i := 2) sc_is_row.nd rfl (Or.inl rfl)) (pgs_cons (pg_name (i := 3) sc_is_row.nd rfl (Or.inl rfl)) (pgs_cons (pg_name (i := 4) sc_is_row.nd rfl (Or.inl rfl)) pgs_nil)))))
  (pss_cons (ps_if (PW.pt (pw_or (pt_not (pt_val (pe_kall F_is_between (hr.mono (by decide)) (by rfl) (pa_cons (pv 2) (pa_cons pe_int (pa_cons (pe_op op_sub (pe_callB call_len_seq (by rfl) T.f_len (by decide +kernel) (pa_cons (pv 1) pa_nil)) pe_int) pa_nil)))))) (pw_or1 (pt_not (pt_val (pe_kall F_is_between (hr.mono (by decide)) (by rfl) (pa_cons (pv 3) (pa_cons pe_int (pa_cons (pe_globI T.m_MOST_BASE) pa_nil)))))))))
    (pss_one (ps_ret pe_bl))
    pss_nil)
  (pss_one (ps_ret (pe_kall F_is_between (hr.mono (by decide)) (by rfl) (pa_cons (pv 4) (pa_cons pe_int (pa_cons (pe_op op_sub (pe_ix ix_tup (pv 1) (pe_un un_neg pe_int) (fun _ _ => rfl)) pe_int) pa_nil))))))))), ?_⟩⟩
  exact start_PV hpre (by
    rintro G v I Q hI ⟨a, b, bs, r, rfl, ha, hb, hne, h1, h2, h3, h4, rfl⟩ q
    have hlast : atI (nL bs) (-1) = some (nV (bs.getLastD 0)) := by
      rw [atI_last (by intro z; exact hne (List.map_eq_nil_iff.mp z))]
      unfold nL
      rw [List.getLast?_map, List.getLast?_eq_some_getLast hne, List.getLastD_eq_getLast?, List.getLast?_eq_some_getLast hne]
      rfl
    refine go_skip hI ?_ ?_
    · refine et_eqv (et_or (a := !true) (b := false) (et_not (et_B (ev_isTup (ev_var rfl) ha))) fun _ => et_eqv (et_test (ev_ne (ev_lenT (ev_var rfl) ha) ev_c rfl)) rfl) rfl
    · refine go_unT3 hI (ev_var rfl) ha ?_
      refine go_skip hI (et_eqv (et_or (a := !true) (b := !true) (et_not (et_B ?_)) fun _ => et_not (et_B ?_)) rfl) ?_
      · refine ev_callV (vs := [nV r.1, .int 0, .int ((bs.length : Int) - 1)]) (ea_cons (ev_var rfl) (ea_cons ev_c (ea_cons (ev_eqv (ev_I0 (ev_lenT (ev_var rfl) hb) ev_c) (by rw [nL_len])) ea_nil))) (sp_PV ⟨_, _, _, rfl, ?_⟩)
        exact congrArg V.bl (by symm; simp only [Bool.and_eq_true, decide_eq_true_eq]; omega)
      · refine ev_callV (vs := [nV r.2.1, .int 1, .int 60]) (ea_cons (ev_var rfl) (ea_cons ev_c (ea_cons ev_c ea_nil))) (sp_PV ⟨_, _, _, rfl, ?_⟩)
        exact congrArg V.bl (by symm; simp only [Bool.and_eq_true, decide_eq_true_eq]; omega)
      · refine go_ret hI (v := .bl true) ?_ (q G (Ex.refl G))
        refine ev_callV (vs := [nV r.2.2, .int 0, .int ((bs.getLastD 0 : Nat) - 1)]) (ea_cons (ev_var rfl) (ea_cons ev_c (ea_cons (ev_I0 (ev_ixT (ev_var rfl) (ev_neg ev_c) hb hlast) ev_c) ea_nil))) (sp_PV ⟨_, _, _, rfl, ?_⟩)
        exact congrArg V.bl (by symm; simp only [Bool.and_eq_true, decide_eq_true_eq]; omega))
def sp_check_bases (K : PySem.W.Frag) : Sp := PV 1 fun vs G v => ∃ (a : Addr) (bs : List Nat), vs = [.ref a] ∧ SqT K G a (nL bs) ∧ 1 ≤ bs.length ∧ bs.length ≤ 3 ∧ (∀ b ∈ bs, 2 ≤ b ∧ b ≤ 4) ∧ v = .non
abbrev N_check_bases : List Str := ["bases", "index", "base"]
abbrev P_check_bases : List Str := ["bases"]
theorem sc_check_bases : FnScope N_check_bases P_check_bases (defScope s_check_bases) := ⟨rfl, rfl, rfl, by decide +kernel, rfl, by decide +kernel, by decide +kernel⟩
theorem F_check_bases {P : Program} {w : World} {K : PySem.W.Frag} {mg : Str → Option Value} {base : Heap} (T : Tx K w mg) (F_is_between : Kp P w K mg base 2 "is_between" P_is_between (sp_is_between K)) : Kp P w K mg base 3 "check_bases" P_check_bases (sp_check_bases K) := by
  obtain ⟨fd, F⟩ := T.d_check_bases
  refine ⟨_, fd, T.g_check_bases, F.kp, F.bindsN (fun _ _ _ _ _ _ us hl => match us, hl with | [_], _ => rfl), F.ok (N := N_check_bases) sc_check_bases len_PV fun cdv A outer s H vs Q E hr hpre => ⟨_, PSs.nox (pss_cons (ps_if (PW.pt (pw_or (pt_not (pt_val (pe_callB call_isi (by rfl) T.f_isinstance (by decide +kernel) (pa_cons (pv 0) (pa_cons (pe_bltn (by rfl) T.f_tuple (v := .ty "tuple") (by decide +kernel) rfl) pa_nil))))) (pw_or1 (pt_not (pt_chain op_le op_le pe_int (pe_callB call_len_seq (by rfl) T.f_len (by decide +kernel) (pa_cons (pv 0) pa_nil)) (pe_globI T.m_MOST_BASES))))))
    (pss_one ps_never)
    pss_nil)
  (pss_one (ps_for PassesOwn.never rfl (pi_enumT (by rfl) T.f_enumerate (pa_cons (pv 0) pa_nil)) (pg_tup (n := 2) rfl (pgs_cons (pg_name (i := 1) sc_check_bases.nd rfl (Or.inl rfl)) (pgs_cons (pg_name (i := 2) sc_check_bases.nd rfl (Or.inl rfl)) pgs_nil)))
    (pss_one (ps_if (pt_not (pt_val (pe_kall F_is_between (hr.mono (by decide)) (by rfl) (pa_cons (pv 2) (pa_cons pe_int (pa_cons (pe_globI T.m_MOST_BASE) pa_nil))))))
    (pss_one ps_never)
    pss_nil))))), ?_⟩⟩
  exact start_PV hpre (by
    rintro G v I Q hI ⟨a, bs, rfl, ha, h1, h3, hb, rfl⟩ q
    refine go_skip hI (et_eqv (et_or (a := !true) (b := !(decide ((1 : Int) ≤ (nL bs).length) && decide (((nL bs).length : Int) ≤ 3))) (et_not (et_B (ev_isTup (ev_var rfl) ha))) fun _ => et_not (et_test (ev_chain (x := .int 1) (y := .int (nL bs).length) (z := .int 3) ev_c (ev_lenT (ev_var rfl) ha) rv_I0 fun _ => ⟨ev_c, rv_I0⟩))) ?_) ?_
    · rw [nL_len]
      have e1 : (1 : Int) ≤ (bs.length : Int) := by omega
      have e2 : (bs.length : Int) ≤ 3 := by omega
      simp only [e1, e2, decide_true]
      rfl
    · refine go_forS1 (α := Option V × Option V) (fun i x => [some (.ref a), x.1, x.2]) (fun _ _ => True) (none, none) rfl trivial hI (ek_enumT (ev_var rfl) ha) ?_ ?_
      · rintro i ⟨s1, s2⟩ x H H' hi _ eH y
        obtain ⟨x1, x2, y1, y2, y3, y4⟩ := ypair_names (K := K) (m := 1) (l := 2) (σ' := [some (.ref a), s1, s2]) y
        refine ⟨_, y3, y4, ?_⟩
        obtain rfl : nV i = x1 := Option.some.inj y1
        rw [nL_len] at hi
        rw [nL_get hi] at y2
        obtain rfl := Option.some.inj y2
        have hm : bs.getD i 0 ∈ bs := by
          rw [List.getD_eq_getElem?_getD, List.getElem?_eq_getElem hi]
          exact List.getElem_mem hi
        obtain ⟨b1, b2⟩ := hb _ hm
        refine go_if (b := false) hI (et_eqv (et_not (a := true) (et_B ?_)) rfl) (fun z => by cases z) fun _ => go_next ?_
        · refine ev_callV (vs := [nV (bs.getD i 0), .int 2, .int 60]) (ea_cons (ev_var rfl) (ea_cons ev_c (ea_cons ev_c ea_nil))) (sp_PV ⟨_, _, _, rfl, ?_⟩)
          exact congrArg V.bl (by symm; simp only [Bool.and_eq_true, decide_eq_true_eq]; omega)
        · dsimp only
          exact LN.mk (some (nV i), some (nV (bs.getD i 0))) rfl rfl trivial
      · rintro ⟨s1, s2⟩ _
        exact fun H e i => q G (Ex.refl G) H e i)
def sp_check_rows (K : PySem.W.Frag) : Sp := PV 2 fun vs G v => ∃ (a b : Addr) (bs : List Nat) (rs : List Row) (ls : List V), vs = [.ref a, .ref b] ∧ SqT K G a ls ∧ AllR (RowT K G) ls rs ∧ SqT K G b (nL bs) ∧ bs ≠ [] ∧ rs.length ≤ 3 ∧ (∀ r ∈ rs, r.1 < bs.length ∧ 1 ≤ r.2.1 ∧ r.2.1 ≤ 4 ∧ r.2.2 < bs.getLastD 0) ∧ v = .non
abbrev N_check_rows : List Str := ["rows", "bases", "index", "row"]
abbrev P_check_rows : List Str := ["rows", "bases"]
theorem sc_check_rows : FnScope N_check_rows P_check_rows (defScope s_check_rows) := ⟨rfl, rfl, rfl, by decide +kernel, rfl, by decide +kernel, by decide +kernel⟩
theorem F_check_rows {P : Program} {w : World} {K : PySem.W.Frag} {mg : Str → Option Value} {base : Heap} (T : Tx K w mg) (F_is_row : Kp P w K mg base 3 "is_row" P_is_row (sp_is_row K)) : Kp P w K mg base 4 "check_rows" P_check_rows (sp_check_rows K) := by
  obtain ⟨fd, F⟩ := T.d_check_rows
  refine ⟨_, fd, T.g_check_rows, F.kp, F.bindsN (fun _ _ _ _ _ _ us hl => match us, hl with | [_, _], _ => rfl), F.ok (N := N_check_rows) sc_check_rows len_PV fun cdv A outer s H vs Q E hr hpre => ⟨_, PSs.nox (pss_cons (ps_if (PW.pt (pw_or (pt_not (pt_val (pe_callB call_isi (by rfl) T.f_isinstance (by decide +kernel) (pa_cons (pv 0) (pa_cons (pe_bltn (by rfl) T.f_tuple (v := .ty "tuple") (by decide +kernel) rfl) pa_nil))))) (pw_or1 (pt_cmpR op_gt (pe_callB call_len_seq (by rfl) T.f_len (by decide +kernel) (pa_cons (pv 0) pa_nil)) (pe_globI T.m_MOST_ROWS) (nomark _)))))
    (pss_one ps_never)
    pss_nil)
  (pss_one (ps_for PassesOwn.never rfl (pi_enumT (by rfl) T.f_enumerate (pa_cons (pv 0) pa_nil)) (pg_tup (n := 2) rfl (pgs_cons (pg_name (i := 2) sc_check_rows.nd rfl (Or.inl rfl)) (pgs_cons (pg_name (i := 3) sc_check_rows.nd rfl (Or.inl rfl)) pgs_nil)))
    (pss_one (ps_if (pt_not (pt_val (pe_kall F_is_row (hr.mono (by decide)) (by rfl) (pa_cons (pv 3) (pa_cons (pv 1) pa_nil)))))
    (pss_one ps_never)
    pss_nil))))), ?_⟩⟩
  exact start_PV hpre (by
    rintro G v I Q hI ⟨a, b, bs, rs, ls, rfl, ha, hls, hb, hne, h3, hr, rfl⟩ q
    refine go_skip hI (et_eqv (et_or (a := !true) (b := decide ((6 : Int) < (ls.length : Int))) (et_not (et_B (ev_isTup (ev_var rfl) ha))) fun _ => et_test (ev_I0 (ev_lenT (ev_var rfl) ha) ev_c)) ?_) ?_
    · have := hls.len
      have e : ¬ (6 : Int) < (ls.length : Int) := by omega
      simp only [e, decide_false]
      rfl
    · refine go_forS1 (α := Option V × Option V) (fun i x => [some (.ref a), some (.ref b), x.1, x.2]) (fun _ _ => True) (none, none) rfl trivial hI (ek_enumT (ev_var rfl) ha) ?_ ?_
      · rintro i ⟨s1, s2⟩ x H H' hi _ eH y
        obtain ⟨x1, x2, y1, y2, y3, y4⟩ := ypair_names (K := K) (m := 2) (l := 3) (σ' := [some (.ref a), some (.ref b), s1, s2]) y
        refine ⟨_, y3, y4, ?_⟩
        obtain ⟨r, hr1, p, rfl, hp⟩ := hls.at y2
        obtain ⟨b1, b2, b3, b4⟩ := hr r (List.mem_of_getElem? hr1)
        refine go_if (b := false) hI (et_eqv (et_not (a := true) (et_B ?_)) rfl) (fun z => by cases z) fun _ => go_next ?_
        · exact ev_callV (vs := [.ref p, .ref b]) (ea_cons (ev_var rfl) (ea_cons (ev_var rfl) ea_nil)) (sp_PV ⟨p, b, bs, r, rfl, hp, hb, hne, b1, b2, b3, b4, rfl⟩)
        · dsimp only
          exact LN.mk (some x1, some (.ref p)) rfl rfl trivial
      · rintro ⟨s1, s2⟩ _
        exact fun H e i => q G (Ex.refl G) H e i)
end Lm
end
section
set_option Elab.async false
set_option linter.all false
set_option maxRecDepth 100000
set_option maxHeartbeats 2000000
namespace Lm
open PySem PySem.Spec L2 Evl
local macro_rules | `(tactic| infer_instance) => `(tactic| first | (with_reducible exact ev_c) | ((with_reducible apply ev_var); exact rfl) | (with_reducible exact ea_nil) | (intro _; infer_instance) | ((with_reducible apply ev_I0) <;> try infer_instance) | ((with_reducible apply ev_I) <;> try infer_instance) | ((with_reducible apply ev_isInt) <;> try infer_instance) | ((with_reducible apply ev_isBool) <;> try infer_instance) | ((with_reducible apply ev_isStr) <;> try infer_instance) | ((with_reducible apply ev_isTup) <;> try infer_instance) | ((with_reducible apply ev_isN) <;> try infer_instance) | ((with_reducible apply ev_notN) <;> try infer_instance) | ((with_reducible apply ev_neg) <;> try infer_instance) | ((with_reducible apply ev_fld) <;> try infer_instance) | ((with_reducible apply ev_ixT) <;> try infer_instance) | ((with_reducible apply ev_ixL) <;> try infer_instance) | ((with_reducible apply ev_andV) <;> try infer_instance) | ((with_reducible apply ev_orV) <;> try infer_instance) | ((with_reducible apply ev_notV) <;> try infer_instance) | ((with_reducible apply ev_callV) <;> try infer_instance) | ((with_reducible apply ea_cons) <;> try infer_instance) | ((with_reducible apply et_test) <;> try infer_instance) | ((with_reducible apply et_B) <;> try infer_instance) | ((with_reducible apply et_not) <;> try infer_instance) | ((with_reducible apply et_and) <;> try infer_instance) | ((with_reducible apply et_or) <;> try infer_instance) | ((with_reducible apply ev_eq) <;> first | infer_instance | exact rfl | skip) | ((with_reducible apply ev_ne) <;> first | infer_instance | exact rfl | skip) | ((with_reducible apply eu_tup) <;> first | infer_instance | decide | skip) | ((with_reducible apply el_lst) <;> first | infer_instance | decide | skip))
theorem ev_eqB {σ : St} {G : Hp} {ta tb : TE} {x y : V} {b : Bool} (ha : Ev ta σ G x) (hb : Ev tb σ G y) (h : scal x y = true) (e : decide (x = y) = b) : Ev (tOp rEq ta tb) σ G (.bl b) := by subst e; exact ev_eq ha hb h
theorem ev_neB {σ : St} {G : Hp} {ta tb : TE} {x y : V} {b : Bool} (ha : Ev ta σ G x) (hb : Ev tb σ G y) (h : scal x y = true) (e : (!decide (x = y)) = b) : Ev (tOp rNe ta tb) σ G (.bl b) := by subst e; exact ev_ne ha hb h
def sp_House_unit (K : PySem.W.Frag) : Sp := PV 2 fun vs G v => ∃ (x : V) (h : HM) (k : Nat), vs = [x, nV k] ∧ HouR K G x h ∧ v = nV (h.unit k)
abbrev N_House_unit : List Str := ["self", "field", "found", "base"]
abbrev P_House_unit : List Str := ["self", "field"]
theorem sc_House_unit : FnScope N_House_unit P_House_unit (defScope s_House_unit) := ⟨rfl, rfl, rfl, by decide +kernel, rfl, by decide +kernel, by decide +kernel⟩
theorem M_unit {P : Program} {w : World} {K : PySem.W.Frag} {mg : Str → Option Value} {base : Heap} (T : Tx K w mg) : Mp P w K mg base 1 (He.ga K "House") "unit" P_House_unit (sp_House_unit K) := by
  obtain ⟨fd, F⟩ := T.d_House_unit
  refine ⟨T.c_House, _, fd, T.me_House_unit, F.bindsN (fun _ _ _ _ _ _ us hl => match us, hl with | [_, _], _ => rfl), F.ok (N := N_House_unit) sc_House_unit len_PV fun cdv A outer s H vs Q E hr hpre => ⟨_, PSs.nox (pss_cons (ps_set (i := 2) sc_House_unit.nd rfl (.inl rfl) pe_int)
  (pss_cons (ps_for PassesOwn.never rfl (pi_tup (pe_slice sl_tupA (pe_fld (pv 0) rfl) (po_some (pv 1)) po_none)) (pg_name (i := 3) sc_House_unit.nd rfl (Or.inl rfl))
    (pss_one (ps_aug (i := 2) sc_House_unit.nd rfl (.inl rfl) (pv 3) iop_mul)))
  (pss_one (ps_ret (pv 2))))), ?_⟩⟩
  exact start_PV hpre (by
    rintro G v I Q hI ⟨x, h, k, rfl, ⟨a, dx, tp, lt, sl, ol, ls, rfl, hF, ok⟩, rfl⟩ q
    refine go_asg hI (v := nV 1) ev_c ?_
    refine go_forV (α := Option V) (n := (nL (h.bs.drop k)).length) (fun i x => [some (.ref a), some (nV k), some (nV (prod ((h.bs.drop k).take i))), x]) (fun _ _ => True) none rfl trivial hI (ew_sliceA (xs := nL h.bs) (ev_fld (ev_var rfl) hF.o T.c_House T.n_House_parts rfl) (eo_some (ev_var rfl)) eo_none hF.t (by rw [cut_tail]; unfold nL; rw [List.map_drop])) ?_ ?_
    · rintro I' hI' _ i s x H H' hi _ eH y
      obtain ⟨y1, y2, y3⟩ := yat_name (m := 3) (σ' := [some (.ref a), some (nV k), some (nV (prod ((h.bs.drop k).take i))), s]) y
      rw [nL_len] at hi
      rw [nL_get hi] at y1
      obtain rfl := Option.some.inj y1
      refine ⟨_, y2, y3, ?_⟩
      have hm : (h.bs.drop k).getD i 0 ∈ h.bs := by
        rw [List.getD_eq_getElem?_getD, List.getElem?_eq_getElem hi]
        exact List.mem_of_mem_drop (List.getElem_mem hi)
      obtain ⟨b1, b2⟩ := ok.b _ hm
      refine go_aug1 (x := nV (prod ((h.bs.drop k).take i))) (y := nV ((h.bs.drop k).getD i 0)) (z := nV (prod ((h.bs.drop k).take (i + 1)))) hI' rfl (ev_var rfl) ?_ ?_
      · rw [List.take_succ, List.getElem?_eq_getElem hi]
        show RV _ _ _ _ (nV (prod (_ ++ [(h.bs.drop k)[i]])))
        rw [prod_snoc, show nV (prod ((h.bs.drop k).take i) * (h.bs.drop k)[i]) = .int ((prod ((h.bs.drop k).take i) : Nat) * ((h.bs.drop k).getD i 0 : Nat)) by rw [List.getD_eq_getElem?_getD, List.getElem?_eq_getElem hi, ← Int.natCast_mul]; rfl]
        exact rv_I (Or.inr ⟨by omega, by omega⟩)
      · dsimp only
        exact LN.mk (some (nV ((h.bs.drop k).getD i 0))) rfl rfl trivial
    · rintro s _
      refine go_retV hI (ev_var rfl) ?_ (q G (Ex.refl G))
      rw [nL_len, List.take_length]
      rfl)
def sp_House_group_of (K : PySem.W.Frag) : Sp := PV 2 fun vs G v => ∃ (x : V) (h : HM) (n g : Nat), vs = [x, nV n] ∧ HouR K G x h ∧ g < h.size ∧ h.opn g ≤ n ∧ n < h.opn (g + 1) ∧ v = nV g
abbrev N_House_group_of : List Str := ["self", "frame", "low", "high", "middle"]
abbrev P_House_group_of : List Str := ["self", "frame"]
theorem sc_House_group_of : FnScope N_House_group_of P_House_group_of (defScope s_House_group_of) := ⟨rfl, rfl, rfl, by decide +kernel, rfl, by decide +kernel, by decide +kernel⟩
theorem M_group_of {P : Program} {w : World} {K : PySem.W.Frag} {mg : Str → Option Value} {base : Heap} (T : Tx K w mg) : Mp P w K mg base 1 (He.ga K "House") "group_of" P_House_group_of (sp_House_group_of K) := by
  obtain ⟨fd, F⟩ := T.d_House_group_of
  refine ⟨T.c_House, _, fd, T.me_House_group_of, F.bindsN (fun _ _ _ _ _ _ us hl => match us, hl with | [_, _], _ => rfl), F.ok (N := N_House_group_of) sc_House_group_of len_PV fun cdv A outer s H vs Q E hr hpre => ⟨_, PSs.nox (pss_cons (ps_par (i := 2) (j := 3) rfl sc_House_group_of.nd rfl rfl (by decide) rfl rfl (pa_cons pe_int (pa_cons (pe_fld (pv 0) rfl) pa_nil)) (by rfl))
  (pss_cons (ps_while PassesOwn.never (pt_cmpR op_gt (pe_op op_sub (pv 3) (pv 2)) pe_int (nomark _))
    (pss_cons (ps_set (i := 4) sc_House_group_of.nd rfl (.inl rfl) (pe_op op_fdiv (pe_op op_add (pv 2) (pv 3)) pe_int))
  (pss_one (ps_if (pt_cmpR op_le (pe_ix ix_list (pe_fld (pv 0) rfl) (pv 4) (fun _ _ => rfl)) (pv 1) (nomark _))
    (pss_one (ps_set (i := 2) sc_House_group_of.nd rfl (.inl rfl) (pv 4)))
    (pss_one (ps_set (i := 3) sc_House_group_of.nd rfl (.inl rfl) (pv 4)))))))
  (pss_one (ps_ret (pv 2))))), ?_⟩⟩
  exact start_PV hpre (by
    rintro G v I Q hI ⟨x, h, n, g, rfl, ⟨a, dx, tp, lt, sl, ol, ls, rfl, hF, ok⟩, hg, hg1, hg2, rfl⟩ q
    have hsz := ok.size_bd
    have hgb := ok.gaps_bd
    refine go_par hI (x := nV 0) (y := nV h.size) (ea_cons ev_c (ea_cons (ev_fld (ev_var rfl) hF.o T.c_House T.n_House_groups rfl) ea_nil)) ?_
    refine go_while (α := Nat × Nat × Option V) (fun p => [some (.ref a), some (nV n), some (nV p.1), some (nV p.2.1), p.2.2]) (fun _ => G) (fun p => p.1 < p.2.1 ∧ p.2.1 ≤ h.size ∧ p.1 ≤ g ∧ g < p.2.1) (fun p => p.2.1 - p.1) (0, h.size, none) rfl rfl ⟨hsz.1, Nat.le_refl _, Nat.zero_le _, hg⟩ hI (fun p => decide (1 < p.2.1 - p.1)) ?_
    rintro ⟨lo, hi, s⟩ ⟨w1, w2, w3, w4⟩
    dsimp only at w1 w2 w3 w4
    refine ⟨?_, fun hz => ?_, fun hz => ?_⟩
    · refine et_eqv (et_test (ev_I0 (ev_I0 (i := (hi : Int)) (j := (lo : Int)) (ev_var rfl) (ev_var rfl)) ev_c)) ?_
      rw [Bool.eq_iff_iff, decide_eq_true_iff, decide_eq_true_iff]
      dsimp only
      omega
    · have hz' : 1 < hi - lo := by simpa using hz
      refine go_asg2 hI (ev_I (C := CDiv) (i := (lo : Int) + (hi : Int)) (j := 2) (ev_I0 (ev_var rfl) (ev_var rfl)) ev_c ⟨by decide, by decide⟩) (w := nV ((lo + hi) / 2)) rfl ?_
      have hol : atI (nL (opL h)) (((lo + hi) / 2 : Nat) : Int) = some (nV (h.opn ((lo + hi) / 2))) := by
        rw [atI_nat, nL_get (by unfold opL; rw [List.length_map, List.length_range]; omega)]
        unfold opL
        rw [List.getD_eq_getElem?_getD, List.getElem?_map, List.getElem?_range (by omega)]
        rfl
      refine go_if (b := decide (h.opn ((lo + hi) / 2) ≤ n)) hI ?_ (fun hb => ?_) fun hb => ?_
      · refine et_eqv (et_test (ev_I0 (ev_ixL (ev_fld (ev_var rfl) hF.o T.c_House T.n_House_opens rfl) (ev_var rfl) hF.p hol) (ev_var rfl))) ?_
        rw [Bool.eq_iff_iff, decide_eq_true_iff, decide_eq_true_iff]
        omega
      · have hb' : h.opn ((lo + hi) / 2) ≤ n := by simpa using hb
        refine go_asg1 hI (ev_var rfl) ?_
        dsimp only
        refine WN.mk ((lo + hi) / 2, hi, some (nV ((lo + hi) / 2))) rfl rfl ⟨?_, w2, ?_, w4⟩ ?_ <;> dsimp only
        · omega
        · apply Nat.le_of_not_lt
          intro z
          have := ok.opn_le (a := g + 1) (b := (lo + hi) / 2) z (by omega)
          omega
        · omega
      · have hb' : n < h.opn ((lo + hi) / 2) := by
          have : ¬ h.opn ((lo + hi) / 2) ≤ n := by simpa using hb
          omega
        refine go_asg1 hI (ev_var rfl) ?_
        dsimp only
        refine WN.mk (lo, (lo + hi) / 2, some (nV ((lo + hi) / 2))) rfl rfl ⟨?_, ?_, w3, ?_⟩ ?_ <;> dsimp only
        · omega
        · omega
        · apply Nat.lt_of_not_le
          intro z
          have := ok.opn_le (a := (lo + hi) / 2) (b := g) z (by omega)
          omega
        · omega
    · have hz' : ¬ 1 < hi - lo := by simpa using hz
      refine go_retV hI (ev_var rfl) ?_ (q G (Ex.refl G))
      rw [show g = lo by omega])
def sp_House_place_of (K : PySem.W.Frag) : Sp := PV 2 fun vs G v => ∃ (x : V) (h : HM) (n : Nat), vs = [x, nV n] ∧ HouR K G x h ∧ v = nV (h.place n)
abbrev N_House_place_of : List Str := ["self", "frame", "turns", "inner", "group"]
abbrev P_House_place_of : List Str := ["self", "frame"]
theorem sc_House_place_of : FnScope N_House_place_of P_House_place_of (defScope s_House_place_of) := ⟨rfl, rfl, rfl, by decide +kernel, rfl, by decide +kernel, by decide +kernel⟩
theorem M_place_of {P : Program} {w : World} {K : PySem.W.Frag} {mg : Str → Option Value} {base : Heap} (T : Tx K w mg) (M_group_of : Mp P w K mg base 1 (He.ga K "House") "group_of" P_House_group_of (sp_House_group_of K)) : Mp P w K mg base 2 (He.ga K "House") "place_of" P_House_place_of (sp_House_place_of K) := by
  obtain ⟨fd, F⟩ := T.d_House_place_of
  refine ⟨T.c_House, _, fd, T.me_House_place_of, F.bindsN (fun _ _ _ _ _ _ us hl => match us, hl with | [_, _], _ => rfl), F.ok (N := N_House_place_of) sc_House_place_of len_PV fun cdv A outer s H vs Q E hr hpre => ⟨_, PSs.nox (pss_cons (ps_asg (pe_callB call_divmod (by rfl) T.f_divmod (by decide +kernel) (pa_cons (pv 1) (pa_cons (pe_fld (pv 0) rfl) pa_nil))) (pg_tup (n := 2) rfl (pgs_cons (pg_name (i := 2) sc_House_place_of.nd rfl (Or.inl rfl)) (pgs_cons (pg_name (i := 3) sc_House_place_of.nd rfl (Or.inl rfl)) pgs_nil))))
  (pss_cons (ps_set (i := 4) sc_House_place_of.nd rfl (.inl rfl) (pe_km M_group_of (hr.mono (by decide)) (pv 0) (pa_cons (pv 3) pa_nil)))
  (pss_one (ps_ret (pe_op op_sub (pe_op op_add (pe_op op_add (pe_op op_add (pe_op op_mul (pv 2) (pe_fld (pv 0) rfl)) (pe_op op_mul (pv 4) (pe_fld (pv 0) rfl))) (pe_ix ix_list (pe_fld (pv 0) rfl) (pv 4) (fun _ _ => rfl))) (pv 3)) (pe_ix ix_list (pe_fld (pv 0) rfl) (pv 4) (fun _ _ => rfl))))))), ?_⟩⟩
  exact start_PV hpre (by
    rintro G v I Q hI ⟨x, h, n, rfl, hR, rfl⟩ q
    obtain ⟨a, dx, tp, lt, sl, ol, ls, rfl, hF, ok⟩ := id hR
    obtain ⟨F0, FP⟩ := ok.F_bd
    obtain ⟨P0, P7⟩ := ok.P_bd
    obtain ⟨g, g0, g1, g2⟩ := ok.find_grp (n := n % h.F) (Nat.mod_lt _ F0)
    have hsz := ok.size_bd
    refine go_un2 hI (x := nV (n / h.F)) (y := nV (n % h.F)) (eu_divmod (i := (n : Int)) (j := (h.F : Int)) (ea_cons (ev_var rfl) (ea_cons (ev_fld (ev_var rfl) hF.o T.c_House T.n_House_frames rfl) ea_nil)) ⟨by omega, by omega⟩) ?_
    refine go_asg hI (v := nV g) (ev_meth (dvs := []) (vs := [nV (n % h.F)]) (ev_var rfl) hF.o rfl (ea_cons (ev_var rfl) ea_nil) (sp_PV ⟨_, h, n % h.F, g, rfl, hR, g0, g1, g2, rfl⟩)) ?_
    have hsk : atI (nL h.sk) (g : Int) = some (nV (h.sk.getD g 0)) := by rw [atI_nat, nL_get (by rw [ok.sk_len]; exact g0)]
    have hol : atI (nL (opL h)) (g : Int) = some (nV (h.opn g)) := by
      rw [atI_nat, nL_get (by unfold opL; rw [List.length_map, List.length_range]; omega)]
      unfold opL
      rw [List.getD_eq_getElem?_getD, List.getElem?_map, List.getElem?_range (by omega)]
      rfl
    refine go_retV hI (ev_I0 (ev_I0 (ev_I0 (ev_I0 (ev_I (i := ((n / h.F : Nat) : Int)) (j := (h.P : Int)) (ev_var rfl) (ev_fld (ev_var rfl) hF.o T.c_House T.n_House_places rfl) ?_) (ev_I (i := (g : Int)) (j := (h.last : Int)) (ev_var rfl) (ev_fld (ev_var rfl) hF.o T.c_House T.n_House_last rfl) ?_)) (ev_ixL (ev_fld (ev_var rfl) hF.o T.c_House T.n_House_skips rfl) (ev_var rfl) hF.s hsk)) (ev_var rfl)) (ev_ixL (ev_fld (ev_var rfl) hF.o T.c_House T.n_House_opens rfl) (ev_var rfl) hF.p hol)) ?_ (q G (Ex.refl G))
    · exact Or.inr ⟨by omega, by omega⟩
    · exact Or.inr (by have := ok.last_bd; omega)
    · show V.int _ = V.int _
      congr 1
      rw [ok.place_eq g0 g1 g2]
      push_cast
      omega)
def sp_House_near (K : PySem.W.Frag) : Sp := PV 3 fun vs G v => ∃ (x : V) (h : HM) (p : Nat) (nx : Bool), vs = [x, nV p, nxS nx] ∧ HouR K G x h ∧ v = .int (h.near p nx)
abbrev N_House_near : List Str := ["self", "place", "way", "turns", "inner", "group", "number", "found"]
abbrev P_House_near : List Str := ["self", "place", "way"]
theorem sc_House_near : FnScope N_House_near P_House_near (defScope s_House_near) := ⟨rfl, rfl, rfl, by decide +kernel, rfl, by decide +kernel, by decide +kernel⟩
theorem M_near {P : Program} {w : World} {K : PySem.W.Frag} {mg : Str → Option Value} {base : Heap} (T : Tx K w mg) : Mp P w K mg base 1 (He.ga K "House") "near" P_House_near (sp_House_near K) := by
  obtain ⟨fd, F⟩ := T.d_House_near
  refine ⟨T.c_House, _, fd, T.me_House_near, F.bindsN (fun _ _ _ _ _ _ us hl => match us, hl with | [_, _, _], _ => rfl), F.ok (N := N_House_near) sc_House_near len_PV fun cdv A outer s H vs Q E hr hpre => ⟨_, PSs.nox (pss_cons (ps_asg (pe_callB call_divmod (by rfl) T.f_divmod (by decide +kernel) (pa_cons (pv 1) (pa_cons (pe_fld (pv 0) rfl) pa_nil))) (pg_tup (n := 2) rfl (pgs_cons (pg_name (i := 3) sc_House_near.nd rfl (Or.inl rfl)) (pgs_cons (pg_name (i := 4) sc_House_near.nd rfl (Or.inl rfl)) pgs_nil))))
  (pss_cons (ps_asg (pe_callB call_divmod (by rfl) T.f_divmod (by decide +kernel) (pa_cons (pv 4) (pa_cons (pe_fld (pv 0) rfl) pa_nil))) (pg_tup (n := 2) rfl (pgs_cons (pg_name (i := 5) sc_House_near.nd rfl (Or.inl rfl)) (pgs_cons (pg_name (i := 6) sc_House_near.nd rfl (Or.inl rfl)) pgs_nil))))
  (pss_cons (ps_set (i := 7) sc_House_near.nd rfl (.inl rfl) (pe_op op_add (pe_op op_mul (pv 3) (pe_fld (pv 0) rfl)) (pe_ix ix_list (pe_fld (pv 0) rfl) (pv 5) (fun _ _ => rfl))))
  (pss_cons (ps_if (pt_cmpR op_ge (pv 6) (pe_ix ix_list (pe_fld (pv 0) rfl) (pv 5) (fun _ _ => rfl)) (nomark _))
    (pss_one (ps_ret (pe_op op_sub (pe_op op_add (pv 7) (pv 6)) (pe_ix ix_list (pe_fld (pv 0) rfl) (pv 5) (fun _ _ => rfl)))))
    pss_nil)
  (pss_one (ps_ret (pe_ifExp (pt_cmpR op_eq (pv 2) pe_str (nomark _)) (pv 7) (pe_op op_sub (pv 7) pe_int)))))))), ?_⟩⟩
  exact start_PV hpre (by
    rintro G v I Q hI ⟨x, h, p, nx, rfl, hR, rfl⟩ q
    obtain ⟨a, dx, tp, lt, sl, ol, ls, rfl, hF, ok⟩ := id hR
    obtain ⟨F0, FP⟩ := ok.F_bd
    obtain ⟨P0, P7⟩ := ok.P_bd
    obtain ⟨l2, l4⟩ := ok.last_bd
    have hsz := ok.size_bd
    have hin : p % h.P < h.P := Nat.mod_lt _ P0
    have hg : p % h.P / h.last < h.size := by
      rw [Nat.div_lt_iff_lt_mul (by omega)]
      exact hin
    have hj : p % h.P % h.last < h.last := Nat.mod_lt _ (by omega)
    have hc := ok.cnt_eq (g := p % h.P / h.last) (j := p % h.P % h.last) (by omega) (by omega)
    have hb := HM.bo_at ok (g := p % h.P / h.last) hj
    have hdm : p % h.P / h.last * h.last + p % h.P % h.last = p % h.P := by rw [Nat.mul_comm]; exact Nat.div_add_mod _ _
    rw [hdm] at hc hb
    have hsk : atI (nL h.sk) ((p % h.P / h.last : Nat) : Int) = some (nV (h.sk.getD (p % h.P / h.last) 0)) := by rw [atI_nat, nL_get (by rw [ok.sk_len]; exact hg)]
    have hol : atI (nL (opL h)) ((p % h.P / h.last : Nat) : Int) = some (nV (h.opn (p % h.P / h.last))) := by
      rw [atI_nat, nL_get (by unfold opL; rw [List.length_map, List.length_range]; omega)]
      unfold opL
      rw [List.getD_eq_getElem?_getD, List.getElem?_map, List.getElem?_range (by omega)]
      rfl
    refine go_un2 hI (x := nV (p / h.P)) (y := nV (p % h.P)) (eu_divmod (i := (p : Int)) (j := (h.P : Int)) (ea_cons (ev_var rfl) (ea_cons (ev_fld (ev_var rfl) hF.o T.c_House T.n_House_places rfl) ea_nil)) ⟨by omega, by omega⟩) ?_
    refine go_un2 hI (x := nV (p % h.P / h.last)) (y := nV (p % h.P % h.last)) (eu_divmod (i := ((p % h.P : Nat) : Int)) (j := (h.last : Int)) (ea_cons (ev_var rfl) (ea_cons (ev_fld (ev_var rfl) hF.o T.c_House T.n_House_last rfl) ea_nil)) ⟨by omega, by omega⟩) ?_
    refine go_asg2 hI (ev_I0 (ev_I (i := ((p / h.P : Nat) : Int)) (j := (h.F : Int)) (ev_var rfl) (ev_fld (ev_var rfl) hF.o T.c_House T.n_House_frames rfl) (Or.inr ⟨by omega, by omega⟩)) (ev_ixL (ev_fld (ev_var rfl) hF.o T.c_House T.n_House_opens rfl) (ev_var rfl) hF.p hol)) (w := nV (p / h.P * h.F + h.opn (p % h.P / h.last))) rfl ?_
    refine go_when (b := decide (h.sk.getD (p % h.P / h.last) 0 ≤ p % h.P % h.last)) hI ?_ (fun hz => ?_) fun hz => ?_
    · refine et_eqv (et_test (ev_I0 (ev_var rfl) (ev_ixL (ev_fld (ev_var rfl) hF.o T.c_House T.n_House_skips rfl) (ev_var rfl) hF.s hsk))) ?_
      rw [Bool.eq_iff_iff, decide_eq_true_iff, decide_eq_true_iff]
      omega
    · have hz' : h.sk.getD (p % h.P / h.last) 0 ≤ p % h.P % h.last := by simpa using hz
      refine go_retV hI (ev_I0 (ev_I0 (ev_var rfl) (ev_var rfl)) (ev_ixL (ev_fld (ev_var rfl) hF.o T.c_House T.n_House_skips rfl) (ev_var rfl) hF.s hsk)) ?_ (q G (Ex.refl G))
      show V.int _ = V.int _
      congr 1
      unfold HM.near
      rw [hb, hz, Bool.or_true, if_pos rfl, hc]
      generalize p % h.P % h.last = j at hz' ⊢
      generalize p % h.P / h.last = gg at hz' ⊢
      generalize p / h.P * h.F = tt
      omega
    · have hz' : ¬ h.sk.getD (p % h.P / h.last) 0 ≤ p % h.P % h.last := by simpa using hz
      have hbo : h.bo (p % h.P) = false := by rw [hb]; exact hz
      have hcn : h.cnt (p % h.P) = h.opn (p % h.P / h.last) := by rw [hc]; omega
      cases nx with
      | true =>
        refine go_retV hI (ev_if (b := true) (et_test (ev_eqB (x := nxS _) (y := .str "next") (ev_var rfl) ev_c rfl rfl)) (fun _ => ev_var rfl) (fun z => by cases z)) ?_ (q G (Ex.refl G))
        show V.int _ = V.int _
        congr 1
        unfold HM.near
        rw [hcn, Bool.true_or, if_pos rfl]
        omega
      | false =>
        refine go_retV hI (ev_if (b := false) (et_test (ev_eqB (x := nxS _) (y := .str "next") (ev_var rfl) ev_c rfl rfl)) (fun z => by cases z) (fun _ => ev_I0 (ev_var rfl) ev_c)) ?_ (q G (Ex.refl G))
        show V.int _ = V.int _
        congr 1
        unfold HM.near
        rw [hcn, hbo, Bool.false_or, if_neg (by decide)])
end Lm
end
section
set_option Elab.async false
set_option linter.all false
set_option maxRecDepth 100000
set_option maxHeartbeats 2000000
namespace Lm
open PySem PySem.Spec L2 Evl
/-- what making an instance promises: x the new one, R what is told of it -/
def PN (C : Addr) (n : Nat) (pre : List V → Hp → (Addr → Hp → Prop) → Prop) : Sp := fun vs H Q _ => vs.length = n ∧ ∃ I G R x dx args, Cl I ∧ Ex G H ∧ Wl x I G H ∧ G x = some (.ins C dx []) ∧ vs = .ref x :: args ∧ pre args (del G x) R ∧
  ∀ G' H', Ex (del G x) G' → Ex G' H' → I G' H' → R x G' → Q .non H'
theorem len_PN {C : Addr} {n : Nat} {pre : List V → Hp → (Addr → Hp → Prop) → Prop} : ∀ vs H Q E, PN C n pre vs H Q E → vs.length = n := fun _ _ _ _ h => h.1
section
variable {K : PySem.W.Frag} {I : Hp → Hp → Prop} {σ : St} {G : Hp} {ta tb tc te tv : TE} {tr : TA} {tt : TT} {x y z v : V} {D : Ends} {tu tw tz : TS} {R : V → Hp → Prop} {vs xs : List V} {C : Addr} {pre : List V → Hp → (Addr → Hp → Prop) → Prop}
theorem upd_del {G : Hp} {a : Addr} {o : HO} (h : G a = some o) : upd (del G a) a o = G := by
  funext b
  by_cases e : b = a
  · subst e
    rw [upd_same, h]
  · rw [upd_ne e, del_ne e]
/-- the body: G1 what is known but for the new one -/
theorem start_PN {t : TS} {H : Hp} {Q : VK} {E : XK} {n : Nat} (h : PN C n pre vs H Q E)
    (k : ∀ G1 R I Q x dx args, Cl I → G1 x = none → vs = .ref x :: args → pre args G1 R → (∀ G', Ex G1 G' → R x G' → GoV I Q .non G') → Go (Wl x I) t { nx := fun _ H' => Q .non H', rt := Q } σ (upd G1 x (.ins C dx []))) : t { nx := fun _ H' => Q .non H', rt := Q } σ H := by
  obtain ⟨_, I, G, R, x, dx, args, c, e, i, hx, ev, p, q⟩ := h
  have := k (del G x) R I Q x dx args c del_same ev p fun G' e1 r H' e2 i2 => q G' H' e1 e2 i2 r
  rw [upd_del hx] at this
  exact this H e i
theorem ei_make {n : Nat} {RA : List V → Hp → Prop} (hI : Cl I) (h : EvAI I tr σ G RA) (hn : ∀ vs G', RA vs G' → (vs ++ []).length + 1 = n) (k : ∀ vs G', Ex G G' → RA vs G' → ∃ R', pre (vs ++ []) G' R' ∧ ∀ x G2, Ex G' G2 → R' x G2 → R (.ref x) G2) :
    EvI I (tMake C (PN C n pre) [] E0 tr) σ G R := fun H e i Q q => h H e i _ fun vs G1 H1 e1 f1 i1 r1 x dx hx hdx hne => by
  obtain ⟨R', hp, hr⟩ := k vs G1 e1 r1
  have hg : G1 x = none := fresh_back f1 hx
  have ex2 : Ex H1 (upd H1 dx (.own x)) := Ex.new hdx
  refine ⟨hn vs G1 r1, I, upd G1 x (.ins C dx []), R', x, dx, vs ++ [], hI, fun b o hb => ?_, ⟨?_, by rw [upd_same]; exact fun z => by cases z⟩, upd_same, rfl, by rw [del_upd, del_none hg]; exact hp, fun G' H' e3 f3 i3 r3 => ?_⟩
  · by_cases z : b = x
    · subst z
      rw [upd_same] at hb ⊢
      exact hb
    · rw [upd_ne z] at hb ⊢
      exact ex2 b o (f1 b o hb)
  · rw [del_upd, del_upd, del_none hg, del_none (by rw [upd_ne (fun z => hne z.symm)]; exact hx)]
    exact hI _ _ _ _ (Stp.ex f1 ex2) i1
  · rw [del_upd, del_none hg] at e3
    exact ⟨rfl, q (.ref x) G' H' (e1.trans e3) f3 i3 (hr x G' e3 r3)⟩
/-! ### fields of one's own -/
variable {a dx : Addr} {fs : List (Str × V)} {f : Str} {G1 : Hp}
theorem go_fldW {W : (Hp → Hp → Prop)} (hW : Cl W) (hw : ∀ G H o, W G H → W (upd G a o) (upd H a o)) (hv : Ev tv σ (upd G1 a (.ins C dx fs)) v) (ha : Ev ta σ (upd G1 a (.ins C dx fs)) (.ref a)) (hc : Cls K C) (hn : NoAttr K C f) (hl : fs.length < 1000)
    (k : Go W tz D σ (upd G1 a (.ins C dx (putF f v fs)))) : Go W (tSeq (sFld K ta tv f) tz) D σ (upd G1 a (.ins C dx fs)) := fun H e i =>
  hv H e _ fun H1 e1 => ha H1 (e.trans e1) _ fun H2 e2 => by
    have e3 := (e.trans e1).trans e2
    refine ⟨a, C, dx, fs, rfl, e3 a _ upd_same, hc, hn, hl, ?_⟩
    have := k (upd H2 a (.ins C dx (putF f v fs))) ?_ ?_
    · exact this
    · intro b o hb
      by_cases z : b = a
      · subst z
        rw [upd_same] at hb ⊢
        exact hb
      · rw [upd_ne z] at hb ⊢
        exact e3 b o (by rw [upd_ne z]; exact hb)
    · have := hw _ _ (.ins C dx (putF f v fs)) (hW _ _ _ _ (Stp.ex e (e1.trans e2)) i)
      rw [upd_upd] at this
      exact this
theorem go_fldO (c : Cl I) (hv : Ev tv σ (upd G1 a (.ins C dx fs)) v) (ha : Ev ta σ (upd G1 a (.ins C dx fs)) (.ref a)) (hc : Cls K C) (hn : NoAttr K C f) (hl : fs.length < 1000)
    (k : Go (Wl a I) tz D σ (upd G1 a (.ins C dx (putF f v fs)))) : Go (Wl a I) (tSeq (sFld K ta tv f) tz) D σ (upd G1 a (.ins C dx fs)) := go_fldW (cl_wl c) (fun _ _ _ i => wl_upd i) hv ha hc hn hl k
theorem go_fldO1 {W : (Hp → Hp → Prop)} (hW : Cl W) (hw : ∀ G H o, W G H → W (upd G a o) (upd H a o)) (hv : Ev tv σ (upd G1 a (.ins C dx fs)) v) (ha : Ev ta σ (upd G1 a (.ins C dx fs)) (.ref a)) (hc : Cls K C) (hn : NoAttr K C f) (hl : fs.length < 1000)
    (k : GoN W D.nx σ (upd G1 a (.ins C dx (putF f v fs)))) : Go W (sFld K ta tv f) D σ (upd G1 a (.ins C dx fs)) := go_fldW (tz := fun _ => D.nx) hW hw hv ha hc hn hl k
/-- the field a new list -/
theorem go_fldL (c : Cl I) (hv : EvL tv σ (upd G1 a (.ins C dx fs)) xs) (ha : ∀ G', Ev ta σ G' (.ref a)) (hc : Cls K C) (hn : NoAttr K C f) (hl : fs.length < 1000)
    (k : ∀ p, G1 p = none → p ≠ a → Go (Wl a I) tz D σ (upd (upd G1 p (.lst xs)) a (.ins C dx (putF f (.ref p) fs)))) : Go (Wl a I) (tSeq (sFld K ta tv f) tz) D σ (upd G1 a (.ins C dx fs)) := fun H e i =>
  hv H e _ fun p H1 hp e1 h1 => by
    have s := Stp.take e hp e1 h1
    obtain ⟨g1, g2⟩ := upd_none (fresh_back e hp)
    have i1 := cl_wl c _ _ _ _ s i
    have e1' := s.2.2.1
    rw [upd_comm (fun z => g2 z.symm)] at i1 e1'
    refine (ha H1) H1 (Ex.refl _) _ fun H2 e2 => ?_
    have e3 := e1'.trans e2
    refine ⟨a, C, dx, fs, rfl, e3 a _ upd_same, hc, hn, hl, k p g1 g2 _ ?_ ?_⟩
    · intro b o hb
      by_cases z : b = a
      · subst z
        rw [upd_same] at hb ⊢
        exact hb
      · rw [upd_ne z] at hb ⊢
        exact e3 b o (by rw [upd_ne z]; exact hb)
    · have := wl_upd (o := .ins C dx (putF f (.ref p) fs)) (o' := .ins C dx (putF f (.ref p) fs)) (cl_wl c _ _ _ _ (Stp.ex e1' e2) i1)
      rw [upd_upd] at this
      exact this
/-- the field a new list that will change -/
theorem go_fldLO (c : Cl I) (hv : EvL tv σ (upd G1 a (.ins C dx fs)) xs) (ha : ∀ G', Ev ta σ G' (.ref a)) (hc : Cls K C) (hn : NoAttr K C f) (hl : fs.length < 1000)
    (k : ∀ p, G1 p = none → p ≠ a → Go (Wl p (Wl a I)) tz D σ (upd (upd G1 p (.lst xs)) a (.ins C dx (putF f (.ref p) fs)))) : Go (Wl a I) (tSeq (sFld K ta tv f) tz) D σ (upd G1 a (.ins C dx fs)) := fun H e i =>
  hv H e _ fun p H1 hp e1 h1 => by
    obtain ⟨e1', i1, _, _⟩ := wl_enter (cl_wl c) e i hp e1 h1
    obtain ⟨g1, g2⟩ := upd_none (fresh_back e hp)
    rw [upd_comm (fun z => g2 z.symm)] at i1 e1'
    refine (ha H1) H1 (Ex.refl _) _ fun H2 e2 => ?_
    have e3 := e1'.trans e2
    refine ⟨a, C, dx, fs, rfl, e3 a _ upd_same, hc, hn, hl, k p g1 g2 _ ?_ ?_⟩
    · intro b o hb
      by_cases z : b = a
      · subst z
        rw [upd_same] at hb ⊢
        exact hb
      · rw [upd_ne z] at hb ⊢
        exact e3 b o (by rw [upd_ne z]; exact hb)
    · have i2 := cl_wl (cl_wl c) _ _ _ _ (Stp.ex e1' e2) i1
      have : Wl p (Wl a I) (upd (upd (upd G1 p (.lst xs)) a (.ins C dx fs)) a (.ins C dx (putF f (.ref p) fs))) (upd H2 a (.ins C dx (putF f (.ref p) fs))) := wl_upd2 (fun z => g2 z.symm) (fun _ _ j => wl_upd j) i2
      rw [upd_upd] at this
      exact this
theorem go_forP {α : Type} {wi : TI} {g : TG} {n : Nat} {Y : Nat → Hp → V → Hp → Prop} {Gs : Hp} (S : Nat → α → St) (P : Nat → α → Hp) (W : Nat → α → Prop) (a0 : α) (hσ : σ = S 0 a0) (hG : G = P 0 a0) (w0 : W 0 a0) (hI : Cl I) (h : EvK wi σ Gs n Y) (hE : ∀ i a, W i a → Ex Gs (P i a))
    (hs : ∀ i a x H H', i < n → W i a → Ex (P i a) H → Y i H x H' → ∃ σ2, Ex H H' ∧ (∀ Q : St → Hp → Prop, Q σ2 H' → g x (S i a) H' Q) ∧ Go I tu { D with nx := LN I S P W (i + 1), ct := LN I S P W (i + 1), bk := tz D } σ2 (P i a))
    (hd : ∀ a, W n a → Go I tz D (S n a) (P n a)) : Go I (tSeq (tFor wi g tu) tz) D σ G := by
  obtain ⟨J, Gd, w, hg, hw⟩ := h
  exact go_for w S P W a0 hσ hG w0 hI (fun H e R q => hw H ((hE 0 a0 w0).trans (by rw [← hG]; exact e)) R q) (fun i a H _ wa ea => hg H ((hE i a wa).trans ea)) (fun i a x H H' hi wa ea ia y => by
    obtain ⟨σ2, e1, h1, h2⟩ := hs i a x H H' hi wa ea y
    exact h1 _ (h2 H' (ea.trans e1) (hI _ _ _ _ (Stp.ex ea e1) ia))) hd
def hp2 (a : Addr) (o : HO) (b : Addr) (u : HO) : Hp := fun c => if c = a then some o else if c = b then some u else none
theorem ex_hp2 {a b : Addr} {o u : HO} {G : Hp} (h1 : G a = some o) (h2 : G b = some u) : Ex (hp2 a o b u) G := fun c w hc => by
  unfold hp2 at hc
  by_cases e : c = a
  · rw [if_pos e] at hc
    rw [e, h1]
    exact hc
  · rw [if_neg e] at hc
    by_cases f : c = b
    · rw [if_pos f] at hc
      rw [f, h2]
      exact hc
    · rw [if_neg f] at hc
      cases hc
theorem ev_ixN {i : Int} (h : EvL ta σ G xs) (hb : ∀ G', Ev tb σ G' (.int i)) (hx : atI xs i = some v) : Ev (tOp (rIxL K) ta tb) σ G v := fun H1 e Q q => h H1 e _ fun p H2 _ e2 h2 => hb H2 H2 (Ex.refl _) _ fun H3 e3 => ⟨p, xs, i, v, rfl, rfl, sq_of (e3 p _ h2), hx, q H3 (e2.trans e3)⟩
end
theorem given_filter {P : Nat → Bool} : ∀ (ns : List Nat), given ns.length (fun i => P (ns.getD i 0)) (fun i => nV (ns.getD i 0)) = nL (ns.filter P) := by
  intro ns
  unfold given nL
  have : ns.filter P = ((List.range ns.length).filter fun i => P (ns.getD i 0)).map fun i => ns.getD i 0 := by
    have e : ns = (List.range ns.length).map fun i => ns.getD i 0 := by
      apply List.ext_getElem
      · simp
      · intro i h1 h2
        simp [List.getD, h1]
    conv => lhs; rw [e]
    rw [List.filter_map]
    rfl
  rw [this, List.map_map]
  rfl
theorem sizes_divs (gs : List Nat) : sizes gs = (divs gs.length).filter fun k => gs.drop k == gs.take (gs.length - k) := by
  unfold sizes divs
  rw [List.filter_filter]
  apply List.filter_congr
  intro k _
  unfold again
  rw [Bool.and_comm]
end Lm
end
section
set_option Elab.async false
set_option linter.all false
set_option maxRecDepth 100000
set_option maxHeartbeats 2000000
namespace Lm
open PySem PySem.Spec L2 Evl
local macro_rules | `(tactic| infer_instance) => `(tactic| first | (with_reducible exact ev_c) | ((with_reducible apply ev_var); exact rfl) | (with_reducible exact ea_nil) | (intro _; infer_instance) | ((with_reducible apply ev_I0) <;> try infer_instance) | ((with_reducible apply ev_I) <;> try infer_instance) | ((with_reducible apply ev_isInt) <;> try infer_instance) | ((with_reducible apply ev_isBool) <;> try infer_instance) | ((with_reducible apply ev_isStr) <;> try infer_instance) | ((with_reducible apply ev_isTup) <;> try infer_instance) | ((with_reducible apply ev_isN) <;> try infer_instance) | ((with_reducible apply ev_notN) <;> try infer_instance) | ((with_reducible apply ev_neg) <;> try infer_instance) | ((with_reducible apply ev_fld) <;> try infer_instance) | ((with_reducible apply ev_ixT) <;> try infer_instance) | ((with_reducible apply ev_ixL) <;> try infer_instance) | ((with_reducible apply ev_andV) <;> try infer_instance) | ((with_reducible apply ev_orV) <;> try infer_instance) | ((with_reducible apply ev_notV) <;> try infer_instance) | ((with_reducible apply ev_callV) <;> try infer_instance) | ((with_reducible apply ea_cons) <;> try infer_instance) | ((with_reducible apply et_test) <;> try infer_instance) | ((with_reducible apply et_B) <;> try infer_instance) | ((with_reducible apply et_not) <;> try infer_instance) | ((with_reducible apply et_and) <;> try infer_instance) | ((with_reducible apply et_or) <;> try infer_instance) | ((with_reducible apply ev_eq) <;> first | infer_instance | exact rfl | skip) | ((with_reducible apply ev_ne) <;> first | infer_instance | exact rfl | skip) | ((with_reducible apply eu_tup) <;> first | infer_instance | decide | skip) | ((with_reducible apply el_lst) <;> first | infer_instance | decide | skip))
def sp_House___init__ (K : PySem.W.Frag) : Sp := PN (He.ga K "House") 3 fun args G R => ∃ (a b : Addr) (h : HM) (ls : List V), args = [.ref a, .ref b] ∧ SqT K G a (nL h.bs) ∧ SqT K G b ls ∧ AllR (RowT K G) ls h.rows ∧ h.Ok ∧ R = fun x G' => HouR K G' (.ref x) h
abbrev N_House___init__ : List Str := ["self", "bases", "rows", "groups", "base", "every", "row", "skips", "skip", "group", "step"]
abbrev P_House___init__ : List Str := ["self", "bases", "rows"]
theorem sc_House___init__ : FnScope N_House___init__ P_House___init__ (defScope s_House___init__) := ⟨rfl, rfl, rfl, by decide +kernel, rfl, by decide +kernel, by decide +kernel⟩
theorem F_House {P : Program} {w : World} {K : PySem.W.Frag} {mg : Str → Option Value} {base : Heap} (T : Tx K w mg) (F_check_bases : Kp P w K mg base 3 "check_bases" P_check_bases (sp_check_bases K)) (F_check_rows : Kp P w K mg base 4 "check_rows" P_check_rows (sp_check_rows K)) (F_common_multiple : Kp P w K mg base 2 "common_multiple" P_common_multiple (sp_common_multiple K)) (F_skipped_in : Kp P w K mg base 2 "skipped_in" P_skipped_in (sp_skipped_in K)) (F_divisors_of : Kp P w K mg base 1 "divisors_of" P_divisors_of (sp_divisors_of K)) (F_is_again : Kp P w K mg base 1 "is_again" P_is_again (sp_is_again K)) : Np P w K mg base 5 (He.ga K "House") "House" P_House___init__ (sp_House___init__ K) := by
  obtain ⟨fd, F⟩ := T.d_House___init__
  obtain ⟨ds, hds, hb⟩ := F.binds1 (ps := P_House___init__) 3 1 (by intro z; cases z) (by rfl) (fun _ _ _ _ _ _ _ us its hl hi => match us, its, hl, hi with | [_, _, _], [_], _, _ => ⟨_, rfl, rfl⟩)
  obtain rfl : ds = [] := by cases hds; rfl
  refine ⟨_, fd, T.mk_House, T.m_House, hb, F.ok (N := N_House___init__) sc_House___init__ len_PN fun cdv A outer s H vs Q E hr hpre => ⟨_, PSs.nox (pss_cons (ps_expr (pe_kall F_check_bases (hr.mono (by decide)) (by rfl) (pa_cons (pv 1) pa_nil)))
  (pss_cons (ps_expr (pe_kall F_check_rows (hr.mono (by decide)) (by rfl) (pa_cons (pv 2) (pa_cons (pv 1) pa_nil))))
  (pss_cons (ps_set (i := 3) sc_House___init__.nd rfl (.inl rfl) pe_int)
  (pss_cons (ps_for PassesOwn.never rfl (pi_tup (pe_slice sl_tup (pv 1) po_none (po_some (pe_un un_neg pe_int)))) (pg_name (i := 4) sc_House___init__.nd rfl (Or.inl rfl))
    (pss_one (ps_aug (i := 3) sc_House___init__.nd rfl (.inl rfl) (pv 4) iop_mul)))
  (pss_cons (ps_set (i := 5) sc_House___init__.nd rfl (.inl rfl) pe_int)
  (pss_cons (ps_for PassesOwn.never rfl (pi_tup (pv 2)) (pg_name (i := 6) sc_House___init__.nd rfl (Or.inl rfl))
    (pss_one (ps_set (i := 5) sc_House___init__.nd rfl (.inl rfl) (pe_ifExp (pt_cmpR op_eq (pe_ix ix_tup (pv 6) pe_int (fun _ _ => rfl)) pe_int (nomark _)) (pe_kall F_common_multiple (hr.mono (by decide)) (by rfl) (pa_cons (pv 5) (pa_cons (pe_ix ix_tup (pv 6) pe_int (fun _ _ => rfl)) pa_nil))) (pv 5)))))
  (pss_cons (ps_if (pt_cmpR op_gt (pe_op op_mul (pv 3) (pv 5)) (pe_globI T.m_MOST_GROUPS) (nomark _))
    (pss_one ps_never)
    pss_nil)
  (pss_cons (ps_set (i := 7) sc_House___init__.nd rfl (.inr rfl) (pe_lc (own := [("group", 9)]) rfl sc_House___init__.nd (pi_range1 (by rfl) T.f_range (pa_cons (pe_op op_mul (pv 3) (pv 5)) pa_nil)) (blkOk_by (own := [("group", 9)]) (N := N_House___init__) (sc := defScope s_House___init__) (by decide +kernel)) (fun _ _ _ _ _ => (pg_name (i := 9) sc_House___init__.nd rfl (Or.inl rfl))) (fun _ _ _ _ _ => pts_nil) (fun _ _ _ _ _ => (pe_kall F_skipped_in (hr.mono (by decide)) (by rfl) (pa_cons (pv 9) (pa_cons (pv 1) (pa_cons (pv 2) pa_nil)))))))
  (pss_cons (ps_fld (pv 0) (pv 1) rfl)
  (pss_cons (ps_fld (pv 0) (pv 2) rfl)
  (pss_cons (ps_fld (pv 0) (pe_ix ix_tup (pv 1) (pe_un un_neg pe_int) (fun _ _ => rfl)) rfl)
  (pss_cons (ps_fld (pv 0) (pe_ix ix_list (pe_lc (own := [("step", 10)]) rfl sc_House___init__.nd (pi_list (pe_kall F_divisors_of (hr.mono (by decide)) (by rfl) (pa_cons (pe_callB call_len_seq (by rfl) T.f_len (by decide +kernel) (pa_cons (pv 7) pa_nil)) pa_nil))) (blkOk_by (own := [("step", 10)]) (N := N_House___init__) (sc := defScope s_House___init__) (by decide +kernel)) (fun _ _ _ _ _ => (pg_name (i := 10) sc_House___init__.nd rfl (Or.inl rfl))) (fun _ _ _ _ _ => (pts_one (pt_val (pe_kall F_is_again (hr.mono (by decide)) (by rfl) (pa_cons (pv 7) (pa_cons (pv 10) pa_nil)))))) (fun _ _ _ _ _ => (pv 10))) pe_int (fun _ _ => rfl)) rfl)
  (pss_cons (ps_fld (pv 0) (pe_slice sl_list (pv 7) po_none (po_some (pe_fld (pv 0) rfl))) rfl)
  (pss_cons (ps_fld (pv 0) (pe_lst (pa_cons pe_int pa_nil)) rfl)
  (pss_cons (ps_for PassesOwn.never rfl (pi_list (pe_fld (pv 0) rfl)) (pg_name (i := 8) sc_House___init__.nd rfl (Or.inl rfl))
    (pss_one (ps_expr (pe_bm PySem.F.plainAttrs_list PySem.F.slot_list_append PySem.F.type_list_append mt_append (pe_fld (pv 0) rfl) (pa_cons (pe_op op_sub (pe_op op_add (pe_ix ix_list (pe_fld (pv 0) rfl) (pe_un un_neg pe_int) (fun _ _ => rfl)) (pe_fld (pv 0) rfl)) (pv 8)) pa_nil)))))
  (pss_cons (ps_fld (pv 0) (pe_ix ix_list (pe_fld (pv 0) rfl) (pe_un un_neg pe_int) (fun _ _ => rfl)) rfl)
  (pss_one (ps_fld (pv 0) (pe_op op_mul (pe_fld (pv 0) rfl) (pe_fld (pv 0) rfl)) rfl)))))))))))))))))), ?_⟩⟩
  exact start_PN hpre (by
    rintro G0 R I Q x dx args hI hx rfl ⟨a, b, h, ls, rfl, ha, hb, hls, ok, rfl⟩ q
    have e0 : Ex G0 (upd G0 x (.ins (He.ga K "House") dx [])) := Ex.new hx
    have ha1 := ex_t e0 ha
    have hb1 := ex_t e0 hb
    have hls1 := AllR.ex (R := RowT) (fun _ _ => RowT.mono e0) hls
    have cW := cl_wl (l := x) hI
    have lb := ok.last_bd
    have gb := ok.grp_bd
    have eb := evs_bd ok.row_bd
    have gpb := ok.gaps_bd
    have szb := ok.size_bd
    rw [HM.gaps_len] at gpb
    refine go_drop cW (ev_callV (vs := [.ref a]) (ea_cons (ev_var rfl) ea_nil) (sp_PV ⟨a, h.bs, rfl, ha1, ok.n1, ok.n3, ok.b, rfl⟩)) ?_
    refine go_drop cW (ev_callV (vs := [.ref b, .ref a]) (ea_cons (ev_var rfl) (ea_cons (ev_var rfl) ea_nil)) (sp_PV ⟨b, a, h.bs, h.rows, ls, rfl, hb1, hls1, ha1, ok.ne, ok.r3, ok.r, rfl⟩)) ?_
    refine go_asg cW (v := nV 1) ev_c ?_
    refine go_forV (α := Option V) (n := (nL h.bs.dropLast).length) (fun i s => [some (.ref x), some (.ref a), some (.ref b), some (nV (prod (h.bs.dropLast.take i))), s, none, none, none, none, none, none]) (fun _ _ => True) none rfl trivial cW (ew_tupN (eu_slice (xs := nL h.bs) (ev_var rfl) eo_none (eo_some (ev_neg ev_c)) ha1 ?_ ?_)) ?_ ?_
    · intro z
      have z2 : ((-1 : Int) + ((nL h.bs).length : Int)).toNat = (nL h.bs).length := z.2
      rw [nL_len] at z2
      have := ok.n1
      omega
    · exact cut_but.trans (by unfold nL; rw [List.map_dropLast])
    · rintro I' hI' _ i s y H H' hi _ eH yy
      obtain ⟨y1, y2, y3⟩ := yat_name (m := 4) (σ' := [some (.ref x), some (.ref a), some (.ref b), some (nV (prod (h.bs.dropLast.take i))), s, none, none, none, none, none, none]) yy
      rw [nL_len] at hi
      rw [nL_get hi] at y1
      obtain rfl := Option.some.inj y1
      refine ⟨_, y2, y3, ?_⟩
      have hm : h.bs.dropLast.getD i 0 ∈ h.bs := by
        rw [List.getD_eq_getElem?_getD, List.getElem?_eq_getElem hi]
        exact (List.dropLast_sublist _).subset (List.getElem_mem hi)
      obtain ⟨b1, b2⟩ := ok.b _ hm
      refine go_aug1 (x := nV (prod (h.bs.dropLast.take i))) (y := nV (h.bs.dropLast.getD i 0)) (z := nV (prod (h.bs.dropLast.take (i + 1)))) hI' rfl (ev_var rfl) ?_ ?_
      · rw [List.take_succ, List.getElem?_eq_getElem hi]
        show RV _ _ _ _ (nV (prod (_ ++ [h.bs.dropLast[i]])))
        rw [prod_snoc, show nV (prod (h.bs.dropLast.take i) * h.bs.dropLast[i]) = .int ((prod (h.bs.dropLast.take i) : Nat) * (h.bs.dropLast.getD i 0 : Nat)) by rw [List.getD_eq_getElem?_getD, List.getElem?_eq_getElem hi, ← Int.natCast_mul]; rfl]
        exact rv_I (Or.inr ⟨by omega, by omega⟩)
      · dsimp only
        exact LN.mk (some (nV (h.bs.dropLast.getD i 0))) rfl rfl trivial
    rintro sb _
    rw [nL_len, List.take_length]
    refine go_asg cW (v := nV 1) ev_c ?_
    refine go_forS (α := Option V) (fun i s => [some (.ref x), some (.ref a), some (.ref b), some (nV (prod h.bs.dropLast)), sb, some (nV (evs (h.rows.take i))), s, none, none, none, none]) (fun _ _ => True) none rfl trivial cW (ek_tup (ev_var rfl) hb1) ?_ ?_
    · rintro i s y H H' hi _ eH yy
      obtain ⟨y1, y2, y3⟩ := yat_name (m := 6) (σ' := [some (.ref x), some (.ref a), some (.ref b), some (nV (prod h.bs.dropLast)), sb, some (nV (evs (h.rows.take i))), s, none, none, none, none]) yy
      refine ⟨_, y2, y3, ?_⟩
      obtain ⟨r, hr1, t, rfl, ht⟩ := hls1.at y1
      obtain ⟨b1, b2, b3, b4⟩ := ok.r r (List.mem_of_getElem? hr1)
      have eb1 := evs_bd (rows := h.rows.take i) fun r hr => ok.row_bd r (List.mem_of_mem_take hr)
      have hes : evs (h.rows.take (i + 1)) = if r.1 = 0 then lcmN (evs (h.rows.take i)) r.2.1 else evs (h.rows.take i) := by
        unfold evs
        rw [List.take_succ, hr1]
        simp [List.foldl_append]
      refine go_asg1 cW (v := nV (evs (h.rows.take (i + 1)))) (ev_if (b := decide (r.1 = 0)) (et_eqv (et_test (ev_eq (x := nV r.1) (y := nV 0) (ev_ixT (ev_var rfl) ev_c ht rfl) ev_c rfl)) dec_nV) (fun hz => ?_) fun hz => ?_) ?_
      · have hz' : r.1 = 0 := by simpa using hz
        rw [hes, if_pos hz']
        exact ev_callV (vs := [nV (evs (h.rows.take i)), nV r.2.1]) (ea_cons (ev_var rfl) (ea_cons (ev_ixT (ev_var rfl) ev_c ht rfl) ea_nil)) (sp_PV ⟨_, _, rfl, by omega, by omega, by omega, rfl⟩)
      · have hz' : ¬ r.1 = 0 := by simpa using hz
        rw [hes, if_neg hz']
        exact ev_var rfl
      · dsimp only
        exact LN.mk (some (.ref t)) rfl rfl trivial
    rintro sr _
    rw [hls.len, List.take_length]
    refine go_skip cW (et_eqv (et_test (ev_I0 (ev_I (C := CMul) (i := (prod h.bs.dropLast : Nat)) (j := (evs h.rows : Nat)) (ev_var rfl) (ev_var rfl) (Or.inr ⟨by omega, by omega⟩)) ev_c)) ?_) ?_
    · rw [decide_eq_false_iff_not]
      have : ((prod h.bs.dropLast * evs h.rows : Nat) : Int) ≤ 192 := by omega
      rw [Int.natCast_mul] at this
      omega
    refine go_asgL cW (xs := nL h.gaps) (el_eqv (el_lcF (n := prod h.bs.dropLast * evs h.rows) (fun _ => true) (fun i => nV (gapOf h.bs h.rows i)) (fun i => nV i) (ew_rng (ea_cons (ev_eqv (ev_I (C := CMul) (i := (prod h.bs.dropLast : Nat)) (j := (evs h.rows : Nat)) (ev_var rfl) (ev_var rfl) (Or.inr ⟨by omega, by omega⟩)) rfl) ea_nil) (by omega)) (by omega) (fun _ => rfl) ?_) ?_) ?_
    · intro i hi
      refine ⟨et_yes, fun _ => ev_callV (vs := [nV i, .ref a, .ref b]) (ea_cons (ev_var rfl) (ea_cons (ev_var rfl) (ea_cons (ev_var rfl) ea_nil))) (sp_PV ⟨i, a, b, h.bs, h.rows, ls, rfl, ha1, hb1, hls1, ok.n1, by have := ok.n3; omega, fun y hy => ?_, fun r hr => ?_, rfl⟩)⟩
      · have := ok.b y hy
        omega
      · have := ok.r r hr
        exact ⟨this.1, by omega, by omega⟩
    · rw [given_all]
      unfold HM.gaps nL
      rw [List.map_map]
      rfl
    intro p hp
    obtain ⟨hp0, hpx⟩ := upd_none hp
    rw [upd_comm (fun z => hpx z.symm)]
    have e1 : Ex G0 (upd G0 p (.lst (nL h.gaps))) := Ex.new hp0
    have hx1 : upd G0 p (.lst (nL h.gaps)) x = none := by rw [upd_ne (fun z => hpx z.symm)]; exact hx
    generalize hG1 : upd G0 p (.lst (nL h.gaps)) = G1 at e1 hx1 ⊢
    have hgp : G1 p = some (.lst (nL h.gaps)) := by rw [← hG1]; exact upd_same
    have ha2 := ex_t e1 ha
    have hb2 := ex_t e1 hb
    have hlast : atI (nL h.bs) (-1) = some (nV h.last) := by
      rw [atI_last (by intro z; exact ok.ne (List.map_eq_nil_iff.mp z))]
      unfold nL
      rw [List.getLast?_map, List.getLast?_eq_some_getLast ok.ne, ok.last_eq]
      rfl
    refine go_fldO hI (v := .ref a) (ev_var rfl) (ev_var rfl) T.c_House T.n_House_parts (by decide) ?_
    refine go_fldO hI (v := .ref b) (ev_var rfl) (ev_var rfl) T.c_House T.n_House_lots (show (1 : Nat) < 1000 by decide) ?_
    refine go_fldO hI (v := nV h.last) (ev_ixT (ev_var rfl) (ev_neg ev_c) (ex_t (Ex.new hx1) ha2) hlast) (ev_var rfl) T.c_House T.n_House_last (show (2 : Nat) < 1000 by decide) ?_
    refine go_fldO hI (v := nV h.size) (ev_ixN (xs := nL (sizes h.gaps)) (el_eqv (el_lcA (xs := nL (divs h.gaps.length)) (fun i => h.gaps.drop ((divs h.gaps.length).getD i 0) == h.gaps.take (h.gaps.length - (divs h.gaps.length).getD i 0)) (fun i => nV ((divs h.gaps.length).getD i 0)) (ew_listN (el_callP (vs := [nV h.gaps.length]) (ea_cons (ev_eqv (ev_lenL (ev_var rfl) (sq_of (by rw [upd_ne hpx]; exact hgp))) (by rw [nL_len])) ea_nil) ⟨h.gaps.length, rfl, by rw [HM.gaps_len]; omega, by rw [HM.gaps_len]; omega, rfl⟩)) ?_ (fun _ => rfl) ?_) ?_) (fun _ => ev_c) ?_) (ev_var rfl) T.c_House T.n_House_groups (show (3 : Nat) < 1000 by decide) ?_
    · rw [nL_len]
      have : (divs h.gaps.length).length ≤ ((List.range h.gaps.length).map (· + 1)).length := List.length_filter_le _ _
      rw [List.length_map, List.length_range, HM.gaps_len] at this
      rw [HM.gaps_len]
      omega
    · intro i y hy
      have hi : i < (divs h.gaps.length).length := by
        have := (List.getElem?_eq_some_iff.mp hy).1
        rwa [nL_len] at this
      rw [nL_get hi] at hy
      obtain rfl := Option.some.inj hy
      have hd : (divs h.gaps.length).getD i 0 ∈ divs h.gaps.length := by
        rw [List.getD_eq_getElem?_getD, List.getElem?_eq_getElem hi]
        exact List.getElem_mem hi
      obtain ⟨d1, d2, d3⟩ := mem_divs.mp hd
      exact ⟨et_B (ev_callV (vs := [.ref p, nV ((divs h.gaps.length).getD i 0)]) (ea_cons (ev_var rfl) (ea_cons (ev_var rfl) ea_nil)) (sp_PV ⟨p, h.gaps, _, rfl, sq_of (by rw [upd_ne hpx]; exact hgp), d2, by rw [HM.gaps_len]; omega, rfl⟩)), fun _ => ev_var rfl⟩
    · rw [nL_len, given_filter (P := fun k => h.gaps.drop k == h.gaps.take (h.gaps.length - k)), sizes_divs]
    · show atI (nL (sizes h.gaps)) ((0 : Nat) : Int) = _
      rw [atI_nat]
      have := sizes_head (gs := h.gaps) (by rw [HM.gaps_len]; omega)
      unfold HM.size nL
      cases hsz : sizes h.gaps with
      | nil => rw [hsz] at this; cases this
      | cons k l => rfl
    refine go_fldL hI (xs := nL h.sk) (el_sliceL (xs := nL h.gaps) (ev_var rfl) eo_none (eo_some (i := (h.size : Int)) (ev_fld (ev_var rfl) upd_same T.c_House T.n_House_groups rfl)) (sq_of (by rw [upd_ne hpx]; exact hgp)) (by rw [cut_init]; unfold nL HM.sk; rw [List.map_take])) (fun _ => ev_var rfl) T.c_House T.n_House_skips (show (4 : Nat) < 1000 by decide) fun sl hsl hslx => ?_
    refine go_fldLO hI (xs := nL [h.opn 0]) (el_lst (ea_cons ev_c ea_nil) (show (1 : Nat) ≤ 100000 by decide)) (fun _ => ev_var rfl) T.c_House T.n_House_opens (show (5 : Nat) < 1000 by decide) fun ol hol holx => ?_
    obtain ⟨hol1, holsl⟩ := upd_none hol
    generalize hfs : putF "opens" (V.ref ol) _ = fs7
    have hfs7 : fs7 = ([("parts", .ref a), ("lots", .ref b), ("last", nV h.last), ("groups", nV h.size), ("skips", .ref sl), ("opens", .ref ol)] : List (Str × V)) := hfs.symm
    clear hfs
    have cW2 := cl_wl (l := ol) cW
    refine go_forP (α := Option V) (n := (nL h.sk).length) (Gs := hp2 x (.ins (He.ga K "House") dx fs7) sl (.lst (nL h.sk))) (fun i s => [some (.ref x), some (.ref a), some (.ref b), some (nV (prod h.bs.dropLast)), sb, some (nV (evs h.rows)), sr, some (.ref p), s, none, none])
      (fun i _ => upd (upd (upd G1 sl (.lst (nL h.sk))) ol (.lst (nL ((List.range (i + 1)).map h.opn)))) x (.ins (He.ga K "House") dx fs7)) (fun _ _ => True) none rfl rfl trivial cW2 (ek_list (ev_fld (ev_var rfl) (if_pos rfl) T.c_House T.n_House_skips (by rw [hfs7]; rfl)) (sq_of ((if_neg hslx).trans (if_pos rfl)))) (fun i s _ => ex_hp2 upd_same (by rw [upd_ne hslx, upd_ne (fun z => holsl z.symm)]; exact upd_same)) ?_ ?_
    · rintro i s y H H' hi _ eH yy
      obtain ⟨y1, y2, y3⟩ := yat_name (m := 8) (σ' := [some (.ref x), some (.ref a), some (.ref b), some (nV (prod h.bs.dropLast)), sb, some (nV (evs h.rows)), sr, some (.ref p), s, none, none]) yy
      refine ⟨_, y2, y3, ?_⟩
      rw [nL_len] at hi
      rw [nL_get hi] at y1
      obtain rfl := Option.some.inj y1
      have hi2 : i < h.size := by rw [← ok.sk_len]; exact hi
      have hgl : ∀ o, upd (upd (upd G1 sl (.lst (nL h.sk))) ol o) x (.ins (He.ga K "House") dx fs7) ol = some o := fun o => by rw [upd_ne holx]; exact upd_same
      have hlst : atI (nL ((List.range (i + 1)).map h.opn)) (-1) = some (nV (h.opn i)) := by
        rw [atI_last (by simp [nL])]
        unfold nL
        rw [List.range_succ, List.map_append, List.map_append]
        simp
      have hsk := ok.sk_lt i
      refine go_app cW2 (fun H j => wl_upd j) (xs := nL ((List.range (i + 1)).map h.opn)) (v := nV (h.opn (i + 1))) (hgl _) (ev_fld (ev_var rfl) upd_same T.c_House T.n_House_opens (by rw [hfs7]; rfl)) (ev_eqv (ev_I0 (ev_I0 (ev_ixL (ev_fld (ev_var rfl) upd_same T.c_House T.n_House_opens (by rw [hfs7]; rfl)) (ev_neg ev_c) (sq_of (hgl _)) hlst) (ev_fld (v := nV h.last) (ev_var rfl) upd_same T.c_House T.n_House_last (by rw [hfs7]; rfl))) (ev_var rfl)) ?_) ?_ ?_
      · show V.int _ = V.int _
        congr 1
        rw [ok.opn_succ hi2]
        omega
      · rw [nL_len, List.length_map, List.length_range]
        rw [HM.gaps_len] at szb
        omega
      · dsimp only
        refine LN.mk (some (nV (h.sk.getD i 0))) rfl ?_ trivial
        rw [upd_comm (fun z => holx z.symm), upd_upd]
        unfold nL
        rw [List.range_succ (n := i + 1), List.map_append, List.map_append]
        rfl
    rintro ss _
    rw [nL_len, ok.sk_len]
    have hgl : ∀ fs : List (Str × V), upd (upd (upd G1 sl (.lst (nL h.sk))) ol (.lst (nL (opL h)))) x (.ins (He.ga K "House") dx fs) ol = some (.lst (nL (opL h))) := fun fs => by rw [upd_ne holx]; exact upd_same
    have hlst : atI (nL (opL h)) (-1) = some (nV h.F) := by
      rw [atI_last (by simp [nL, opL])]
      unfold nL opL
      rw [List.range_succ, List.map_append, List.map_append, ← ok.opn_F]
      simp
    have pb := ok.P_bd
    show Go (Wl ol (Wl x I)) _ _ _ (upd (upd (upd G1 sl (.lst (nL h.sk))) ol (.lst (nL (opL h)))) x (.ins (He.ga K "House") dx fs7))
    refine go_fldW cW2 (fun _ _ _ j => wl_upd2 (fun z => holx z.symm) (fun _ _ k => wl_upd k) j) (v := nV h.F) (ev_ixL (ev_fld (ev_var rfl) upd_same T.c_House T.n_House_opens (by rw [hfs7]; rfl)) (ev_neg ev_c) (sq_of (hgl _)) hlst) (ev_var rfl) T.c_House T.n_House_frames (by rw [hfs7]; exact (show (6 : Nat) < 1000 by decide)) ?_
    refine go_fldO1 cW2 (fun _ _ _ j => wl_upd2 (fun z => holx z.symm) (fun _ _ k => wl_upd k) j) (v := nV h.P) (ev_eqv (ev_I (C := CMul) (i := (h.size : Int)) (j := (h.last : Int)) (ev_fld (ev_var rfl) upd_same T.c_House T.n_House_groups (by rw [hfs7]; rfl)) (ev_fld (ev_var rfl) upd_same T.c_House T.n_House_last (by rw [hfs7]; rfl)) (Or.inr ⟨by omega, by omega⟩)) rfl) (ev_var rfl) T.c_House T.n_House_places (by rw [hfs7]; exact (show (7 : Nat) < 1000 by decide)) ?_
    refine gov_out cW (gov_out hI (q _ ?_ ?_))
    · exact Ex.mut (Ex.mut (Ex.mut e1 (fresh_back e1 hsl)) (fresh_back e1 hol1)) hx
    · refine ⟨x, dx, a, b, sl, ol, ls, rfl, ⟨?_, ?_, ?_, ?_, ?_⟩, ok⟩
      · rw [upd_same, hfs7]
        rfl
      · exact ex_t (Ex.mut (Ex.mut (Ex.mut e1 (fresh_back e1 hsl)) (fresh_back e1 hol1)) hx) ha
      · exact ex_t (Ex.mut (Ex.mut (Ex.mut e1 (fresh_back e1 hsl)) (fresh_back e1 hol1)) hx) hb
      · exact sq_of (by rw [upd_ne hslx, upd_ne (fun z => holsl z.symm)]; exact upd_same)
      · exact sq_of (hgl _))
end Lm
end
section
set_option Elab.async false
set_option linter.all false
set_option maxRecDepth 100000
set_option maxHeartbeats 2000000
namespace Lm
open PySem PySem.Spec L2 Evl
def Sp1.word : Sp1 → Str
  | .on _ => "on" | .back _ => "back" | .lab _ _ => "label" | .unlab _ _ => "unlabel" | .to _ => "to" | .after _ => "after" | .read _ _ => "read" | .call _ => "call" | .rate _ _ => "rate"
def HsR (K : PySem.W.Frag) (G : Hp) (v : V) (hs : List HM) : Prop := ∃ p xs, v = .ref p ∧ SqT K G p xs ∧ AllR (HouR K G) xs hs ∧ hs.length ≤ 3 ∧ 1 ≤ hs.length
def StsR (K : PySem.W.Frag) (G : Hp) (v : V) (ss : List Sp1) : Prop := ∃ p xs, v = .ref p ∧ SqT K G p xs ∧ AllR (StR K G) xs ss ∧ ss.length ≤ 4
theorem HsR.mono {K : PySem.W.Frag} {G G' : Hp} {v : V} {hs : List HM} (e : Ex G G') : HsR K G v hs → HsR K G' v hs := fun ⟨p, xs, h1, h2, h3, h4⟩ => ⟨p, xs, h1, ex_t e h2, h3.imp fun _ _ => HouR.mono e, h4⟩
theorem StsR.mono {K : PySem.W.Frag} {G G' : Hp} {v : V} {ss : List Sp1} (e : Ex G G') : StsR K G v ss → StsR K G' v ss := fun ⟨p, xs, h1, h2, h3, h4⟩ => ⟨p, xs, h1, ex_t e h2, h3.imp fun _ _ => StR.mono e, h4⟩
section
variable {K : PySem.W.Frag} {I : Hp → Hp → Prop} {σ : St} {G : Hp} {ta tb tc te tv : TE} {tr : TA} {tt : TT} {x y z v : V} {D : Ends} {tu tw tz : TS} {vs xs ys : List V} {p q : Addr} {s : Sp1}
theorem Sp1.at0 (s : Sp1) : atI s.vals 0 = some (.str s.word) := by cases s <;> rfl
theorem ev_word (h : Ev ta σ G (.ref p)) (hp : SqT K G p s.vals) : Ev (tOp (rIxT K) ta (tC (.int 0))) σ G (.str s.word) := ev_ixT h ev_c hp s.at0
theorem et_in2 {w c1 c2 : Str} {b : Bool} (h : Ev ta σ G (.str w)) (e : inV (.str w) [.str c1, .str c2] = b) : EvT (tTest (tOp (rIn K false) ta (tTup (tCons (tC (.str c1)) (tCons (tC (.str c2)) tNil))))) σ G b := by
  subst e
  exact et_test (ev_inU h (eu_tup (ea_cons ev_c (ea_cons ev_c ea_nil)) (show (2 : Nat) ≤ 100000 by decide)) rfl rfl)
theorem et_in3 {w c1 c2 c3 : Str} {b : Bool} (h : Ev ta σ G (.str w)) (e : inV (.str w) [.str c1, .str c2, .str c3] = b) : EvT (tTest (tOp (rIn K false) ta (tTup (tCons (tC (.str c1)) (tCons (tC (.str c2)) (tCons (tC (.str c3)) tNil)))))) σ G b := by
  subst e
  exact et_test (ev_inU h (eu_tup (ea_cons ev_c (ea_cons ev_c (ea_cons ev_c ea_nil))) (show (3 : Nat) ≤ 100000 by decide)) rfl rfl)
theorem et_inL2 {w c1 c2 : Str} {b : Bool} (h : Ev ta σ G (.str w)) (e : inV (.str w) [.str c1, .str c2] = b) : EvT (tTest (tOp (rIn K false) ta (tLst (tCons (tC (.str c1)) (tCons (tC (.str c2)) tNil))))) σ G b := et_test (ev_inLb h (el_lst (ea_cons ev_c (ea_cons ev_c ea_nil)) (show (2 : Nat) ≤ 100000 by decide)) rfl rfl e)
theorem et_inL3 {w c1 c2 c3 : Str} {b : Bool} (h : Ev ta σ G (.str w)) (e : inV (.str w) [.str c1, .str c2, .str c3] = b) : EvT (tTest (tOp (rIn K false) ta (tLst (tCons (tC (.str c1)) (tCons (tC (.str c2)) (tCons (tC (.str c3)) tNil)))))) σ G b := et_test (ev_inLb h (el_lst (ea_cons ev_c (ea_cons ev_c (ea_cons ev_c ea_nil))) (show (3 : Nat) ≤ 100000 by decide)) rfl rfl e)
theorem et_w {w c : Str} {b : Bool} (h : Ev ta σ G (.str w)) (e : decide (V.str w = V.str c) = b) : EvT (tTest (tOp rEq ta (tC (.str c)))) σ G b := et_test (ev_eqB h ev_c rfl e)
/-- a test that holds: A returns -/
theorem go_take (hI : Cl I) (h : EvT tt σ G true) (k : Go I tu { D with nx := tz D } σ G) : Go I (tSeq (tIfS tt tu tNext) tz) D σ G := go_when hI h (fun _ => k) (fun z => by cases z)
theorem ev_kget {w : World} {d : Addr} {es : Array DictEntry} {n : Nat} {zs : Str} {u : Value} (hd : KDict K w d es n) (ha : Ev ta σ G (.str zs)) (hn : PySem.W.nsIn K d zs = some (some u)) (hv : RelV v u) : Ev (tKGet K w (tC (.ref d)) ta (tC x)) σ G v := fun H e Q q =>
  ⟨d, es, n, rfl, hd, ha H e _ fun H1 e1 => ⟨zs, u, v, rfl, hn, hv, q H1 e1⟩⟩
/-! ### == of lists, of tuples of whole numbers -/
def dI (ns : List Nat) : List PyData := ns.map fun n : Nat => PyData.int (n : Int)
theorem dp_nL {H : Hp} : ∀ ns : List Nat, DpAll K H (nL ns) (dI ns)
  | [] => .nil
  | n :: ns => .cons (.int n) (dp_nL ns)
theorem eqv_dI : ∀ a b : List Nat, PyData.eqvAll (dI a) (dI b) = (a == b)
  | [], [] => rfl
  | [], _ :: _ => rfl
  | _ :: _, [] => rfl
  | x :: a, y :: b => by
    show (((x : Int) == (y : Int)) && PyData.eqvAll (dI a) (dI b)) = (x :: a == y :: b)
    rw [eqv_dI a b]
    have : ((x : Int) == (y : Int)) = (x == y) := by
      rw [Bool.eq_iff_iff, beq_iff_eq, beq_iff_eq]
      omega
    rw [this]
    rfl
theorem can_dI : ∀ a : List Nat, PyData.canLayAll0 (dI a) = true ∧ PyData.depthAll (dI a) ≤ 1
  | [] => by simp [dI, PyData.canLayAll0, PyData.depthAll]
  | x :: a => by
    obtain ⟨h1, h2⟩ := can_dI a
    simp only [dI, List.map_cons, PyData.canLayAll0, PyData.depthAll, PyData.canLay0, PyData.depth] at h1 h2 ⊢
    refine ⟨by simpa using h1, ?_⟩
    omega
theorem shaped_L (a : List Nat) : SeqAt.shaped (.list (dI a)) = true ∧ SeqAt.shaped (.tuple (dI a)) = true := by
  obtain ⟨h1, h2⟩ := can_dI a
  unfold SeqAt.shaped
  simp only [PyData.canLay0, PyData.depth, h1, Bool.true_and, decide_eq_true_eq]
  have : PyData.depthAll (dI a) + 1 ≤ 64 := by omega
  exact ⟨decide_eq_true this, decide_eq_true this⟩
theorem rv_eqL {a b : List Nat} (hp : SqL K G p (nL a)) (hq : SqL K G q (nL b)) : RV (rEqD K) (.ref p) (.ref q) G (.bl (a == b)) := fun H1 e Q k => ⟨_, _, .lst (ex_l e hp) (dp_nL a), .lst (ex_l e hq) (dp_nL b), (shaped_L a).1, (shaped_L b).1, by
  show Q (.bl (PyData.eqvAll (dI a) (dI b))) H1
  rw [eqv_dI]
  exact k H1 (Ex.refl H1)⟩
theorem rv_eqT {a b : List Nat} (hp : SqT K G p (nL a)) (hq : SqT K G q (nL b)) : RV (rEqD K) (.ref p) (.ref q) G (.bl (a == b)) := fun H1 e Q k => ⟨_, _, .tup (ex_t e hp) (dp_nL a), .tup (ex_t e hq) (dp_nL b), (shaped_L a).2, (shaped_L b).2, by
  show Q (.bl (PyData.eqvAll (dI a) (dI b))) H1
  rw [eqv_dI]
  exact k H1 (Ex.refl H1)⟩
theorem HsR.at {hs : List HM} {i : Nat} (h : HsR K G v hs) (hi : i < hs.length) : ∃ p xs y, v = .ref p ∧ SqT K G p xs ∧ atI xs (i : Int) = some y ∧ HouR K G y (hat hs i) := by
  obtain ⟨p, xs, e, h1, h2, _⟩ := h
  obtain ⟨y, y1, y2⟩ := h2.to (i := i) (a := hat hs i) (by unfold hat; rw [List.getD_eq_getElem?_getD, List.getElem?_eq_getElem hi]; rfl)
  exact ⟨p, xs, y, e, h1, by rw [atI_nat]; exact y1, y2⟩
end
end Lm
end
section
set_option Elab.async false
set_option linter.all false
set_option maxRecDepth 100000
set_option maxHeartbeats 2000000
namespace Lm
open PySem PySem.Spec L2 Evl
local macro_rules | `(tactic| infer_instance) => `(tactic| first | (with_reducible exact ev_c) | ((with_reducible apply ev_var); exact rfl) | (with_reducible exact ea_nil) | (intro _; infer_instance) | ((with_reducible apply ev_I0) <;> try infer_instance) | ((with_reducible apply ev_I) <;> try infer_instance) | ((with_reducible apply ev_isInt) <;> try infer_instance) | ((with_reducible apply ev_isBool) <;> try infer_instance) | ((with_reducible apply ev_isStr) <;> try infer_instance) | ((with_reducible apply ev_isTup) <;> try infer_instance) | ((with_reducible apply ev_isN) <;> try infer_instance) | ((with_reducible apply ev_notN) <;> try infer_instance) | ((with_reducible apply ev_neg) <;> try infer_instance) | ((with_reducible apply ev_fld) <;> try infer_instance) | ((with_reducible apply ev_ixT) <;> try infer_instance) | ((with_reducible apply ev_ixL) <;> try infer_instance) | ((with_reducible apply ev_andV) <;> try infer_instance) | ((with_reducible apply ev_orV) <;> try infer_instance) | ((with_reducible apply ev_notV) <;> try infer_instance) | ((with_reducible apply ev_callV) <;> try infer_instance) | ((with_reducible apply ea_cons) <;> try infer_instance) | ((with_reducible apply et_test) <;> try infer_instance) | ((with_reducible apply et_B) <;> try infer_instance) | ((with_reducible apply et_not) <;> try infer_instance) | ((with_reducible apply et_and) <;> try infer_instance) | ((with_reducible apply et_or) <;> try infer_instance) | ((with_reducible apply ev_eq) <;> first | infer_instance | exact rfl | skip) | ((with_reducible apply ev_ne) <;> first | infer_instance | exact rfl | skip) | ((with_reducible apply eu_tup) <;> first | infer_instance | decide | skip) | ((with_reducible apply el_lst) <;> first | infer_instance | decide | skip))
def sp_is_step (K : PySem.W.Frag) : Sp := PV 3 fun vs G v => ∃ (p : Addr) (s : Sp1) (xh yh : V) (hm : HM) (hs : List HM), vs = [.ref p, xh, yh] ∧ SqT K G p s.vals ∧ HouR K G xh hm ∧ HsR K G yh hs ∧ s.Ok hs hm ∧ v = .bl true
abbrev N_is_step : List Str := ["step", "house", "houses"]
abbrev P_is_step : List Str := ["step", "house", "houses"]
theorem sc_is_step : FnScope N_is_step P_is_step (defScope s_is_step) := ⟨rfl, rfl, rfl, by decide +kernel, rfl, by decide +kernel, by decide +kernel⟩
theorem F_is_step {P : Program} {w : World} {K : PySem.W.Frag} {mg : Str → Option Value} {base : Heap} (T : Tx K w mg) (F_is_way : Kp P w K mg base 1 "is_way" P_is_way (sp_is_way K)) (F_is_amount : Kp P w K mg base 3 "is_amount" P_is_amount (sp_is_amount K)) (F_is_between : Kp P w K mg base 2 "is_between" P_is_between (sp_is_between K)) : Kp P w K mg base 4 "is_step" P_is_step (sp_is_step K) := by
  obtain ⟨fd, F⟩ := T.d_is_step
  refine ⟨_, fd, T.g_is_step, F.kp, F.bindsN (fun _ _ _ _ _ _ us hl => match us, hl with | [_, _, _], _ => rfl), F.ok (N := N_is_step) sc_is_step len_PV fun cdv A outer s H vs Q E hr hpre => ⟨_, PSs.nox (pss_cons (ps_if (PW.pt (pw_or (pt_not (pt_val (pe_callB call_isi (by rfl) T.f_isinstance (by decide +kernel) (pa_cons (pv 0) (pa_cons (pe_bltn (by rfl) T.f_tuple (v := .ty "tuple") (by decide +kernel) rfl) pa_nil))))) (pw_or (pt_cmpR op_eq (pe_callB call_len_seq (by rfl) T.f_len (by decide +kernel) (pa_cons (pv 0) pa_nil)) pe_int (nomark _)) (pw_or1 (pt_not (pt_val (pe_callB call_isi (by rfl) T.f_isinstance (by decide +kernel) (pa_cons (pe_ix ix_tup (pv 0) pe_int (fun _ _ => rfl)) (pa_cons (pe_bltn (by rfl) T.f_str (v := .ty "str") (by decide +kernel) rfl) pa_nil)))))))))
    (pss_one (ps_ret pe_bl))
    pss_nil)
  (pss_cons (ps_if (pt_cmpR op_ne (pe_kget (pe_glob (by rfl) T.m_FORMS (v := .ref _) rfl) (pe_ix ix_tup (pv 0) pe_int (fun _ _ => rfl)) pe_int ⟨rfl, rfl, rfl, rfl⟩) (pe_callB call_len_seq (by rfl) T.f_len (by decide +kernel) (pa_cons (pv 0) pa_nil)) (nomark _))
    (pss_one (ps_ret pe_bl))
    pss_nil)
  (pss_cons (ps_if (pt_cmpR op_in_seq (pe_ix ix_tup (pv 0) pe_int (fun _ _ => rfl)) (pe_tup (pa_cons pe_str (pa_cons pe_str pa_nil))) (by rfl))
    (pss_one (ps_ret (pe_kall F_is_amount (hr.mono (by decide)) (by rfl) (pa_cons (pe_ix ix_tup (pv 0) pe_int (fun _ _ => rfl)) pa_nil))))
    pss_nil)
  (pss_cons (ps_if (pt_cmpR op_in_seq (pe_ix ix_tup (pv 0) pe_int (fun _ _ => rfl)) (pe_tup (pa_cons pe_str (pa_cons pe_str pa_nil))) (by rfl))
    (pss_one (ps_ret (pe_and (pe_kall F_is_amount (hr.mono (by decide)) (by rfl) (pa_cons (pe_ix ix_tup (pv 0) pe_int (fun _ _ => rfl)) pa_nil)) (pe_one (pe_kall F_is_way (hr.mono (by decide)) (by rfl) (pa_cons (pe_ix ix_tup (pv 0) pe_int (fun _ _ => rfl)) pa_nil))))))
    pss_nil)
  (pss_cons (ps_if (pt_cmpR op_in_seq (pe_ix ix_tup (pv 0) pe_int (fun _ _ => rfl)) (pe_tup (pa_cons pe_str (pa_cons pe_str pa_nil))) (by rfl))
    (pss_one (ps_ret (pe_kall F_is_between (hr.mono (by decide)) (by rfl) (pa_cons (pe_ix ix_tup (pv 0) pe_int (fun _ _ => rfl)) (pa_cons pe_int (pa_cons (pe_op op_sub (pe_callB call_len_seq (by rfl) T.f_len (by decide +kernel) (pa_cons (pe_fld (pv 1) rfl) pa_nil)) pe_int) pa_nil))))))
    pss_nil)
  (pss_cons (ps_if (pt_cmpR op_eq (pe_ix ix_tup (pv 0) pe_int (fun _ _ => rfl)) pe_str (nomark _))
    (pss_one (ps_ret (pe_and (pe_kall F_is_between (hr.mono (by decide)) (by rfl) (pa_cons (pe_ix ix_tup (pv 0) pe_int (fun _ _ => rfl)) (pa_cons pe_int (pa_cons (pe_globI T.m_MOST_RATE) pa_nil)))) (pe_one (pe_kall F_is_between (hr.mono (by decide)) (by rfl) (pa_cons (pe_ix ix_tup (pv 0) pe_int (fun _ _ => rfl)) (pa_cons pe_int (pa_cons (pe_globI T.m_MOST_RATE) pa_nil))))))))
    pss_nil)
  (pss_cons (ps_if (pt_not (pt_val (pe_kall F_is_between (hr.mono (by decide)) (by rfl) (pa_cons (pe_ix ix_tup (pv 0) pe_int (fun _ _ => rfl)) (pa_cons pe_int (pa_cons (pe_op op_sub (pe_callB call_len_seq (by rfl) T.f_len (by decide +kernel) (pa_cons (pv 2) pa_nil)) pe_int) pa_nil))))))
    (pss_one (ps_ret pe_bl))
    pss_nil)
  (pss_one (ps_ret (pe_or (pe_cmpR op_eq (pe_ix ix_tup (pv 0) pe_int (fun _ _ => rfl)) pe_str (nomark _)) (pe_one (pe_and (pe_kall F_is_way (hr.mono (by decide)) (by rfl) (pa_cons (pe_ix ix_tup (pv 0) pe_int (fun _ _ => rfl)) pa_nil)) (pe_one (pe_cmpR (op_eqD hr.units) (pe_fld (pe_ix ix_tup (pv 2) (pe_ix ix_tup (pv 0) pe_int (fun _ _ => rfl)) (fun _ _ => rfl)) rfl) (pe_fld (pv 1) rfl) (nomark _))))))))))))))), ?_⟩⟩
  exact start_PV hpre (by
    rintro G v I Q hI ⟨p, s, xh, yh, hm, hs, rfl, hp, ⟨a, dx, tp, lt, sl, ol, ls, rfl, hF, okh⟩, ⟨hp2, xs, rfl, hxs, hall, hl3, hl1⟩, ok, rfl⟩ q
    have s0 : ∀ {p : Addr} {s : Sp1}, SqT K G p s.vals → Ev (tOp (rIxT K) (tVar 0) (tC (.int 0))) (start N_is_step [.ref p, .ref a, .ref hp2]) G (.str s.word) := fun hp => ev_word (ev_var rfl) hp
    refine go_skip hI (et_eqv (et_or (a := !true) (b := false) (et_not (et_B (ev_isTup (ev_var rfl) hp))) fun _ => et_eqv (et_or (a := false) (b := !true) (et_eqv (et_test (ev_eq (ev_lenT (ev_var rfl) hp) ev_c rfl)) (by cases s <;> rfl)) fun _ => et_not (et_B (ev_isStr (s0 hp)))) rfl) rfl) ?_
    obtain ⟨es, n, hfo⟩ := T.forms
    have hform : Ev (tKGet K w (tC (.ref (He.ga K "FORMS"))) (tOp (rIxT K) (tVar 0) (tC (.int 0))) (tC (.int 0))) (start N_is_step [.ref p, .ref a, .ref hp2]) G (.int (s.vals.length : Int)) := by
      cases s
      · obtain ⟨u, u1, u2⟩ := T.fo_on; exact ev_kget hfo (s0 hp) u1 u2
      · obtain ⟨u, u1, u2⟩ := T.fo_back; exact ev_kget hfo (s0 hp) u1 u2
      · obtain ⟨u, u1, u2⟩ := T.fo_label; exact ev_kget hfo (s0 hp) u1 u2
      · obtain ⟨u, u1, u2⟩ := T.fo_unlabel; exact ev_kget hfo (s0 hp) u1 u2
      · obtain ⟨u, u1, u2⟩ := T.fo_to; exact ev_kget hfo (s0 hp) u1 u2
      · obtain ⟨u, u1, u2⟩ := T.fo_after; exact ev_kget hfo (s0 hp) u1 u2
      · obtain ⟨u, u1, u2⟩ := T.fo_read; exact ev_kget hfo (s0 hp) u1 u2
      · obtain ⟨u, u1, u2⟩ := T.fo_call; exact ev_kget hfo (s0 hp) u1 u2
      · obtain ⟨u, u1, u2⟩ := T.fo_rate; exact ev_kget hfo (s0 hp) u1 u2
    refine go_skip hI (et_eqv (et_test (ev_ne hform (ev_lenT (ev_var rfl) hp) rfl)) (by simp)) ?_
    rcases s with a | a | ⟨a, nx⟩ | ⟨a, nx⟩ | k | k | ⟨i, nx⟩ | i | ⟨a, b⟩
    · refine go_take hI (et_in2 (s0 hp) rfl) (go_retV hI (v := .bl true) (ev_callV (vs := [nV a]) (ea_cons (ev_ixT (ev_var rfl) ev_c hp rfl) ea_nil) (sp_PV ⟨a, rfl, by have := ok; simp only [Sp1.Ok] at this; omega, rfl⟩)) rfl (q G (Ex.refl G)))
    · refine go_take hI (et_in2 (s0 hp) rfl) (go_retV hI (v := .bl true) (ev_callV (vs := [nV a]) (ea_cons (ev_ixT (ev_var rfl) ev_c hp rfl) ea_nil) (sp_PV ⟨a, rfl, by have := ok; simp only [Sp1.Ok] at this; omega, rfl⟩)) rfl (q G (Ex.refl G)))
    · refine go_skip hI (et_in2 (s0 hp) rfl) ?_
      refine go_take hI (et_in2 (s0 hp) rfl) (go_retV hI (v := .bl (true && true)) (ev_andV (ev_callV (vs := [nV a]) (ea_cons (ev_ixT (ev_var rfl) ev_c hp rfl) ea_nil) (sp_PV ⟨a, rfl, by have := ok; simp only [Sp1.Ok] at this; omega, rfl⟩)) fun _ => ev_callV (vs := [nxS nx]) (ea_cons (ev_ixT (ev_var rfl) ev_c hp rfl) ea_nil) (sp_PV ⟨nx, rfl, rfl⟩)) rfl (q G (Ex.refl G)))
    · refine go_skip hI (et_in2 (s0 hp) rfl) ?_
      refine go_take hI (et_in2 (s0 hp) rfl) (go_retV hI (v := .bl (true && true)) (ev_andV (ev_callV (vs := [nV a]) (ea_cons (ev_ixT (ev_var rfl) ev_c hp rfl) ea_nil) (sp_PV ⟨a, rfl, by have := ok; simp only [Sp1.Ok] at this; omega, rfl⟩)) fun _ => ev_callV (vs := [nxS nx]) (ea_cons (ev_ixT (ev_var rfl) ev_c hp rfl) ea_nil) (sp_PV ⟨nx, rfl, rfl⟩)) rfl (q G (Ex.refl G)))
    · refine go_skip hI (et_in2 (s0 hp) rfl) ?_
      refine go_skip hI (et_in2 (s0 hp) rfl) ?_
      refine go_take hI (et_in2 (s0 hp) rfl) (go_retV hI (v := .bl true) (ev_callV (vs := [nV k, .int 0, .int ((hm.bs.length : Int) - 1)]) (ea_cons (ev_ixT (ev_var rfl) ev_c hp rfl) (ea_cons ev_c (ea_cons (ev_eqv (ev_I0 (ev_lenT (ev_fld (ev_var rfl) hF.o T.c_House T.n_House_parts rfl) hF.t) ev_c) (by rw [nL_len])) ea_nil))) (sp_PV ⟨_, _, _, rfl, ?_⟩)) rfl (q G (Ex.refl G)))
      have := ok
      simp only [Sp1.Ok] at this
      exact congrArg V.bl (by symm; simp only [Bool.and_eq_true, decide_eq_true_eq]; omega)
    · refine go_skip hI (et_in2 (s0 hp) rfl) ?_
      refine go_skip hI (et_in2 (s0 hp) rfl) ?_
      refine go_take hI (et_in2 (s0 hp) rfl) (go_retV hI (v := .bl true) (ev_callV (vs := [nV k, .int 0, .int ((hm.bs.length : Int) - 1)]) (ea_cons (ev_ixT (ev_var rfl) ev_c hp rfl) (ea_cons ev_c (ea_cons (ev_eqv (ev_I0 (ev_lenT (ev_fld (ev_var rfl) hF.o T.c_House T.n_House_parts rfl) hF.t) ev_c) (by rw [nL_len])) ea_nil))) (sp_PV ⟨_, _, _, rfl, ?_⟩)) rfl (q G (Ex.refl G)))
      have := ok
      simp only [Sp1.Ok] at this
      exact congrArg V.bl (by symm; simp only [Bool.and_eq_true, decide_eq_true_eq]; omega)
    · refine go_skip hI (et_in2 (s0 hp) rfl) ?_
      refine go_skip hI (et_in2 (s0 hp) rfl) ?_
      refine go_skip hI (et_in2 (s0 hp) rfl) ?_
      refine go_skip hI (et_w (s0 hp) rfl) ?_
      obtain ⟨ok1, ok2⟩ := ok
      refine go_skip hI (et_eqv (et_not (a := true) (et_B (ev_callV (vs := [nV i, .int 0, .int ((hs.length : Int) - 1)]) (ea_cons (ev_ixT (ev_var rfl) ev_c hp rfl) (ea_cons ev_c (ea_cons (ev_eqv (ev_I0 (ev_lenT (ev_var rfl) hxs) ev_c) (by rw [hall.len])) ea_nil))) (sp_PV ⟨_, _, _, rfl, ?_⟩)))) rfl) ?_
      · exact congrArg V.bl (by symm; simp only [Bool.and_eq_true, decide_eq_true_eq]; omega)
      · obtain ⟨y, y1, y2⟩ := hall.to (i := i) (a := hat hs i) (by unfold hat; rw [List.getD_eq_getElem?_getD, List.getElem?_eq_getElem ok1]; rfl)
        obtain ⟨a2, dx2, tp2, lt2, sl2, ol2, ls2, rfl, hF2, okh2⟩ := y2
        refine go_retV hI (v := .bl (false || (true && ((hat hs i).bs == hm.bs)))) (ev_orV (ev_eqB (s0 hp) ev_c rfl rfl) fun _ => ev_andV (ev_callV (vs := [nxS nx]) (ea_cons (ev_ixT (ev_var rfl) ev_c hp rfl) ea_nil) (sp_PV ⟨nx, rfl, rfl⟩)) fun _ => ev_op (ev_fld (ev_ixT (ev_var rfl) (ev_ixT (ev_var rfl) ev_c hp rfl) hxs (by rw [atI_nat]; exact y1)) hF2.o T.c_House T.n_House_parts rfl) (ev_fld (ev_var rfl) hF.o T.c_House T.n_House_parts rfl) (rv_eqT hF2.t hF.t)) (by rw [ok2]; simp) (q G (Ex.refl G))
    · refine go_skip hI (et_in2 (s0 hp) rfl) ?_
      refine go_skip hI (et_in2 (s0 hp) rfl) ?_
      refine go_skip hI (et_in2 (s0 hp) rfl) ?_
      refine go_skip hI (et_w (s0 hp) rfl) ?_
      have ok1 : i < hs.length := ok
      refine go_skip hI (et_eqv (et_not (a := true) (et_B (ev_callV (vs := [nV i, .int 0, .int ((hs.length : Int) - 1)]) (ea_cons (ev_ixT (ev_var rfl) ev_c hp rfl) (ea_cons ev_c (ea_cons (ev_eqv (ev_I0 (ev_lenT (ev_var rfl) hxs) ev_c) (by rw [hall.len])) ea_nil))) (sp_PV ⟨_, _, _, rfl, ?_⟩)))) rfl) ?_
      · exact congrArg V.bl (by symm; simp only [Bool.and_eq_true, decide_eq_true_eq]; omega)
      · refine go_retV hI (v := .bl (true || true)) (ev_orV (b := true) (ev_eqB (s0 hp) ev_c rfl rfl) fun z => by cases z) rfl (q G (Ex.refl G))
    · refine go_skip hI (et_in2 (s0 hp) rfl) ?_
      refine go_skip hI (et_in2 (s0 hp) rfl) ?_
      refine go_skip hI (et_in2 (s0 hp) rfl) ?_
      obtain ⟨o1, o2, o3, o4⟩ := ok
      refine go_take hI (et_w (s0 hp) rfl) (go_retV hI (v := .bl (true && true)) (ev_andV (ev_callV (vs := [nV a, .int 1, .int 100]) (ea_cons (ev_ixT (ev_var rfl) ev_c hp rfl) (ea_cons ev_c (ea_cons ev_c ea_nil))) (sp_PV ⟨_, _, _, rfl, ?_⟩)) fun _ => ev_callV (vs := [nV b, .int 1, .int 100]) (ea_cons (ev_ixT (ev_var rfl) ev_c hp rfl) (ea_cons ev_c (ea_cons ev_c ea_nil))) (sp_PV ⟨_, _, _, rfl, ?_⟩)) rfl (q G (Ex.refl G)))
      · exact congrArg V.bl (by symm; simp only [Bool.and_eq_true, decide_eq_true_eq]; omega)
      · exact congrArg V.bl (by symm; simp only [Bool.and_eq_true, decide_eq_true_eq]; omega))
def sp_house_behind (K : PySem.W.Frag) : Sp := PV 3 fun vs G v => ∃ (p : Addr) (s : Sp1) (xh z : V) (hp2 : Addr) (xs : List V), vs = [.ref p, xh, .ref hp2] ∧ SqT K G p s.vals ∧ SqT K G hp2 xs ∧ (∀ i nx, s = .read i nx → xs[i]? = some z) ∧ (∀ i, s = .call i → xs[i]? = some z) ∧ ((∀ i nx, s ≠ .read i nx) → (∀ i, s ≠ .call i) → z = xh) ∧ v = z
abbrev N_house_behind : List Str := ["step", "house", "houses"]
abbrev P_house_behind : List Str := ["step", "house", "houses"]
theorem sc_house_behind : FnScope N_house_behind P_house_behind (defScope s_house_behind) := ⟨rfl, rfl, rfl, by decide +kernel, rfl, by decide +kernel, by decide +kernel⟩
theorem F_house_behind {P : Program} {w : World} {K : PySem.W.Frag} {mg : Str → Option Value} {base : Heap} (T : Tx K w mg) : Kp P w K mg base 1 "house_behind" P_house_behind (sp_house_behind K) := by
  obtain ⟨fd, F⟩ := T.d_house_behind
  refine ⟨_, fd, T.g_house_behind, F.kp, F.bindsN (fun _ _ _ _ _ _ us hl => match us, hl with | [_, _, _], _ => rfl), F.ok (N := N_house_behind) sc_house_behind len_PV fun cdv A outer s H vs Q E hr hpre => ⟨_, PSs.nox (pss_one (ps_ret (pe_ifExp (pt_cmpR op_in_seq (pe_ix ix_tup (pv 0) pe_int (fun _ _ => rfl)) (pe_tup (pa_cons pe_str (pa_cons pe_str pa_nil))) (by rfl)) (pe_ix ix_tup (pv 2) (pe_ix ix_tup (pv 0) pe_int (fun _ _ => rfl)) (fun _ _ => rfl)) (pv 1)))), ?_⟩⟩
  exact start_PV hpre (by
    rintro G v I Q hI ⟨p, s, xh, z, hp2, xs, rfl, hp, hxs, h1, h1', h2, rfl⟩ q
    have s0 : ∀ {p : Addr} {s : Sp1}, SqT K G p s.vals → Ev (tOp (rIxT K) (tVar 0) (tC (.int 0))) (start N_house_behind [.ref p, xh, .ref hp2]) G (.str s.word) := fun hp => ev_word (ev_var rfl) hp
    rcases s with a | a | ⟨a, nx⟩ | ⟨a, nx⟩ | k | k | ⟨i, nx⟩ | i | ⟨a, b⟩
    · obtain rfl := h2 (fun _ _ z => by cases z) (fun _ z => by cases z)
      exact go_ret hI (ev_if (b := false) (et_in2 (s0 hp) rfl) (fun z => by cases z) fun _ => ev_var rfl) (q G (Ex.refl G))
    · obtain rfl := h2 (fun _ _ z => by cases z) (fun _ z => by cases z)
      exact go_ret hI (ev_if (b := false) (et_in2 (s0 hp) rfl) (fun z => by cases z) fun _ => ev_var rfl) (q G (Ex.refl G))
    · obtain rfl := h2 (fun _ _ z => by cases z) (fun _ z => by cases z)
      exact go_ret hI (ev_if (b := false) (et_in2 (s0 hp) rfl) (fun z => by cases z) fun _ => ev_var rfl) (q G (Ex.refl G))
    · obtain rfl := h2 (fun _ _ z => by cases z) (fun _ z => by cases z)
      exact go_ret hI (ev_if (b := false) (et_in2 (s0 hp) rfl) (fun z => by cases z) fun _ => ev_var rfl) (q G (Ex.refl G))
    · obtain rfl := h2 (fun _ _ z => by cases z) (fun _ z => by cases z)
      exact go_ret hI (ev_if (b := false) (et_in2 (s0 hp) rfl) (fun z => by cases z) fun _ => ev_var rfl) (q G (Ex.refl G))
    · obtain rfl := h2 (fun _ _ z => by cases z) (fun _ z => by cases z)
      exact go_ret hI (ev_if (b := false) (et_in2 (s0 hp) rfl) (fun z => by cases z) fun _ => ev_var rfl) (q G (Ex.refl G))
    · exact go_ret hI (ev_if (b := true) (et_in2 (s0 hp) rfl) (fun _ => ev_ixT (ev_var rfl) (ev_ixT (ev_var rfl) ev_c hp rfl) hxs (by rw [atI_nat]; exact h1 i nx rfl)) fun z => by cases z) (q G (Ex.refl G))
    · exact go_ret hI (ev_if (b := true) (et_in2 (s0 hp) rfl) (fun _ => ev_ixT (ev_var rfl) (ev_ixT (ev_var rfl) ev_c hp rfl) hxs (by rw [atI_nat]; exact h1' i rfl)) fun z => by cases z) (q G (Ex.refl G))
    · obtain rfl := h2 (fun _ _ z => by cases z) (fun _ z => by cases z)
      exact go_ret hI (ev_if (b := false) (et_in2 (s0 hp) rfl) (fun z => by cases z) fun _ => ev_var rfl) (q G (Ex.refl G)))
end Lm
end
section
set_option Elab.async false
set_option linter.all false
set_option maxRecDepth 100000
set_option maxHeartbeats 2000000
namespace Lm
open PySem PySem.Spec L2 Evl
theorem HM.Ok.unit_bd {h : HM} (o : h.Ok) (k : Nat) : 1 ≤ h.unit k ∧ h.unit k ≤ 64 := by
  obtain ⟨h1, h2⟩ := prod_bd (h.bs.drop k) fun b hb => o.b b (List.mem_of_mem_drop hb)
  refine ⟨h1, Nat.le_trans h2 ?_⟩
  have : (h.bs.drop k).length ≤ 3 := by rw [List.length_drop]; have := o.n3; omega
  exact Nat.pow_le_pow_right (n := 4) (by decide) this
theorem lcm_div {a b : Nat} (ha : 0 < a) (hb : 0 < b) : 1 ≤ lcmN a b / a ∧ lcmN a b / a ≤ b := by
  have hl := lcmN_eq a b
  have h1 : a ∣ lcmN a b := by rw [hl]; exact Nat.dvd_lcm_left a b
  have h2 : 0 < lcmN a b := by rw [hl]; exact Nat.lcm_pos ha hb
  obtain ⟨c, hc⟩ := h1
  have h3 : lcmN a b ≤ a * b := by rw [hl]; exact Nat.le_of_dvd (Nat.mul_pos ha hb) (Nat.lcm_dvd_mul a b)
  rw [hc, Nat.mul_div_cancel_left _ ha]
  rw [hc] at h2 h3
  exact ⟨Nat.pos_of_mul_pos_left h2 |> fun h => h, Nat.le_of_mul_le_mul_left h3 ha⟩
theorem lcm_div2 {a b : Nat} (ha : 0 < a) (hb : 0 < b) : 1 ≤ lcmN a b / b ∧ lcmN a b / b ≤ a := by
  have := lcm_div hb ha
  rw [lcmN_eq, Nat.lcm_comm, ← lcmN_eq]
  exact this
def HsOk (hs : List HM) : Prop := ∀ i, i < hs.length → (hat hs i).Ok
theorem round_bd {hs : List HM} {h : HM} {s : Sp1} (o : h.Ok) (oh : HsOk hs) (ok : s.Ok hs h) : 1 ≤ (roundS hs h s).1 ∧ (roundS hs h s).1 < 2 ^ 20 ∧ 1 ≤ (roundS hs h s).2 ∧ (roundS hs h s).2 < 2 ^ 20 := by
  have F1 := o.F_bd
  have P1 := o.P_bd
  have two : ∀ F c m, 1 ≤ F → F ≤ 768 → 1 ≤ c → c ≤ m → m ≤ 768 → 1 ≤ F * c ∧ F * c < 2 ^ 20 := fun F c m h1 h2 h3 h4 h5 => by
    refine ⟨Nat.mul_pos h1 h3, ?_⟩
    have : F * c ≤ 768 * 768 := Nat.mul_le_mul h2 (by omega)
    omega
  cases s with
  | on a => simp [roundS]
  | back a => simp [roundS]
  | call i => simp [roundS]
  | lab a nx => simp only [roundS]; omega
  | unlab a nx => simp only [roundS]; omega
  | to k =>
    have U := o.unit_bd k
    have L := lcm_div (a := h.P) (b := h.unit k) (by omega) (by omega)
    have := two h.F _ _ (by omega) (by omega) L.1 L.2 (by omega)
    exact ⟨this.1, this.2, this.1, this.2⟩
  | after k =>
    have U := o.unit_bd k
    have L := lcm_div (a := h.P) (b := h.unit k) (by omega) (by omega)
    have := two h.F _ _ (by omega) (by omega) L.1 L.2 (by omega)
    exact ⟨this.1, this.2, this.1, this.2⟩
  | read i nx =>
    have o2 := oh i ok.1
    have F2 := o2.F_bd
    have P2 := o2.P_bd
    have L := lcm_div (a := h.P) (b := (hat hs i).P) (by omega) (by omega)
    have L2 := lcm_div2 (a := h.P) (b := (hat hs i).P) (by omega) (by omega)
    have t1 := two h.F _ _ (by omega) (by omega) L.1 L.2 (by omega)
    have t2 := two (hat hs i).F _ _ (by omega) (by omega) L2.1 L2.2 (by omega)
    exact ⟨t1.1, t1.2, t2.1, t2.2⟩
  | rate a b =>
    obtain ⟨a1, a2, a3, a4⟩ := ok
    have g : 0 < Nat.gcd a b := Nat.gcd_pos_of_pos_left _ a1
    have q1 : 1 ≤ b / Nat.gcd a b := Nat.div_pos (Nat.gcd_le_right _ a3) g
    have q2 : 1 ≤ a / Nat.gcd a b := Nat.div_pos (Nat.gcd_le_left _ a1) g
    have q3 := Nat.div_le_self b (Nat.gcd a b)
    have q4 := Nat.div_le_self a (Nat.gcd a b)
    simp only [roundS]
    omega
section
variable {K : PySem.W.Frag} {G : Hp} {σ : St} {ts : TA}
theorem ev_behindE {G0 : Hp} (e0 : Ex G0 G) {p : Addr} {s : Sp1} {xh yh : V} {hm : HM} {hs : List HM} (hx : HouR K G0 xh hm) (hy : HsR K G0 yh hs) (ok : s.Ok hs hm) (hp : SqT K G0 p s.vals) (h : EvA ts σ G [.ref p, xh, yh]) : ∃ z, HouR K G0 z (nextH hs hm s) ∧ Ev (tCall (sp_house_behind K) [] E0 ts) σ G z := by
  obtain ⟨q, xs, rfl, hq, hall, _⟩ := id hy
  have key : ∀ i, i < hs.length → ∃ z, xs[i]? = some z ∧ HouR K G0 z (hat hs i) := fun i hi => hall.to (by unfold hat; rw [List.getD_eq_getElem?_getD, List.getElem?_eq_getElem hi]; rfl)
  have plain : (∀ i nx, s ≠ .read i nx) → (∀ i, s ≠ .call i) → nextH hs hm s = hm → ∃ z, HouR K G0 z (nextH hs hm s) ∧ Ev (tCall (sp_house_behind K) [] E0 ts) σ G z := fun n1 n2 e =>
    ⟨xh, by rw [e]; exact hx, ev_callV h (sp_PV ⟨p, s, xh, xh, q, xs, rfl, ex_t e0 hp, ex_t e0 hq, fun i nx z => absurd z (n1 i nx), fun i z => absurd z (n2 i), fun _ _ => rfl, rfl⟩)⟩
  cases s with
  | read i nx =>
    obtain ⟨z, z1, z2⟩ := key i ok.1
    exact ⟨z, z2, ev_callV h (sp_PV ⟨p, _, xh, z, q, xs, rfl, ex_t e0 hp, ex_t e0 hq, fun j _ e => (by cases e; exact z1), fun _ e => (by cases e), fun n _ => absurd rfl (n i nx), rfl⟩)⟩
  | call i =>
    obtain ⟨z, z1, z2⟩ := key i ok
    exact ⟨z, z2, ev_callV h (sp_PV ⟨p, _, xh, z, q, xs, rfl, ex_t e0 hp, ex_t e0 hq, fun _ _ e => (by cases e), fun j e => (by cases e; exact z1), fun _ n => absurd rfl (n i), rfl⟩)⟩
  | on a => exact plain (fun _ _ z => by cases z) (fun _ z => by cases z) rfl
  | back a => exact plain (fun _ _ z => by cases z) (fun _ z => by cases z) rfl
  | lab a nx => exact plain (fun _ _ z => by cases z) (fun _ z => by cases z) rfl
  | unlab a nx => exact plain (fun _ _ z => by cases z) (fun _ z => by cases z) rfl
  | to k => exact plain (fun _ _ z => by cases z) (fun _ z => by cases z) rfl
  | after k => exact plain (fun _ _ z => by cases z) (fun _ z => by cases z) rfl
  | rate a b => exact plain (fun _ _ z => by cases z) (fun _ z => by cases z) rfl
theorem ev_behind {p : Addr} {s : Sp1} {xh yh : V} {hm : HM} {hs : List HM} (hx : HouR K G xh hm) (hy : HsR K G yh hs) (ok : s.Ok hs hm) (hp : SqT K G p s.vals) (h : EvA ts σ G [.ref p, xh, yh]) : ∃ z, HouR K G z (nextH hs hm s) ∧ Ev (tCall (sp_house_behind K) [] E0 ts) σ G z := ev_behindE (Ex.refl G) hx hy ok hp h
end
end Lm
end
section
set_option Elab.async false
set_option linter.all false
set_option maxRecDepth 100000
set_option maxHeartbeats 2000000
namespace Lm
open PySem PySem.Spec L2 Evl
local macro_rules | `(tactic| infer_instance) => `(tactic| first | (with_reducible exact ev_c) | ((with_reducible apply ev_var); exact rfl) | (with_reducible exact ea_nil) | (intro _; infer_instance) | ((with_reducible apply ev_I0) <;> try infer_instance) | ((with_reducible apply ev_I) <;> try infer_instance) | ((with_reducible apply ev_isInt) <;> try infer_instance) | ((with_reducible apply ev_isBool) <;> try infer_instance) | ((with_reducible apply ev_isStr) <;> try infer_instance) | ((with_reducible apply ev_isTup) <;> try infer_instance) | ((with_reducible apply ev_isN) <;> try infer_instance) | ((with_reducible apply ev_notN) <;> try infer_instance) | ((with_reducible apply ev_neg) <;> try infer_instance) | ((with_reducible apply ev_fld) <;> try infer_instance) | ((with_reducible apply ev_ixT) <;> try infer_instance) | ((with_reducible apply ev_ixL) <;> try infer_instance) | ((with_reducible apply ev_andV) <;> try infer_instance) | ((with_reducible apply ev_orV) <;> try infer_instance) | ((with_reducible apply ev_notV) <;> try infer_instance) | ((with_reducible apply ev_callV) <;> try infer_instance) | ((with_reducible apply ea_cons) <;> try infer_instance) | ((with_reducible apply et_test) <;> try infer_instance) | ((with_reducible apply et_B) <;> try infer_instance) | ((with_reducible apply et_not) <;> try infer_instance) | ((with_reducible apply et_and) <;> try infer_instance) | ((with_reducible apply et_or) <;> try infer_instance) | ((with_reducible apply ev_eq) <;> first | infer_instance | exact rfl | skip) | ((with_reducible apply ev_ne) <;> first | infer_instance | exact rfl | skip) | ((with_reducible apply eu_tup) <;> first | infer_instance | decide | skip) | ((with_reducible apply el_lst) <;> first | infer_instance | decide | skip))
def sp_wrong_step (K : PySem.W.Frag) : Sp := PV 2 fun vs G v => ∃ (xh yh : V) (ss : List Sp1) (hs : List HM), vs = [xh, yh] ∧ StsR K G xh ss ∧ HsR K G yh hs ∧ OkS hs ss (hat hs 0) ∧ v = .int (-1)
abbrev N_wrong_step : List Str := ["steps", "houses", "house", "index", "step"]
abbrev P_wrong_step : List Str := ["steps", "houses"]
theorem sc_wrong_step : FnScope N_wrong_step P_wrong_step (defScope s_wrong_step) := ⟨rfl, rfl, rfl, by decide +kernel, rfl, by decide +kernel, by decide +kernel⟩
theorem F_wrong_step {P : Program} {w : World} {K : PySem.W.Frag} {mg : Str → Option Value} {base : Heap} (T : Tx K w mg) (F_house_behind : Kp P w K mg base 1 "house_behind" P_house_behind (sp_house_behind K)) (F_is_step : Kp P w K mg base 4 "is_step" P_is_step (sp_is_step K)) : Kp P w K mg base 5 "wrong_step" P_wrong_step (sp_wrong_step K) := by
  obtain ⟨fd, F⟩ := T.d_wrong_step
  refine ⟨_, fd, T.g_wrong_step, F.kp, F.bindsN (fun _ _ _ _ _ _ us hl => match us, hl with | [_, _], _ => rfl), F.ok (N := N_wrong_step) sc_wrong_step len_PV fun cdv A outer s H vs Q E hr hpre => ⟨_, PSs.nox (pss_cons (ps_set (i := 2) sc_wrong_step.nd rfl (.inl rfl) (pe_ix ix_tup (pv 1) pe_int (fun _ _ => rfl)))
  (pss_cons (ps_for PassesOwn.never rfl (pi_enumT (by rfl) T.f_enumerate (pa_cons (pv 0) pa_nil)) (pg_tup (n := 2) rfl (pgs_cons (pg_name (i := 3) sc_wrong_step.nd rfl (Or.inl rfl)) (pgs_cons (pg_name (i := 4) sc_wrong_step.nd rfl (Or.inl rfl)) pgs_nil)))
    (pss_cons (ps_if (pt_not (pt_val (pe_kall F_is_step (hr.mono (by decide)) (by rfl) (pa_cons (pv 4) (pa_cons (pv 2) (pa_cons (pv 1) pa_nil))))))
    (pss_one (ps_ret (pv 3)))
    pss_nil)
  (pss_one (ps_set (i := 2) sc_wrong_step.nd rfl (.inl rfl) (pe_kall F_house_behind (hr.mono (by decide)) (by rfl) (pa_cons (pv 4) (pa_cons (pv 2) (pa_cons (pv 1) pa_nil))))))))
  (pss_one (ps_ret (pe_un un_neg pe_int))))), ?_⟩⟩
  exact start_PV hpre (by
    rintro G v I Q hI ⟨xh, yh, ss, hs, rfl, ⟨sp, sxs, rfl, hss, hsall, hs4⟩, hR, ok, rfl⟩ q
    obtain ⟨hp, hxs, hx0, e1, hh, hat0, h0⟩ := hR.at (i := 0) (by obtain ⟨_, _, _, _, _, _, z⟩ := hR; omega)
    subst e1
    refine go_asg hI (v := hx0) (ev_ixT (ev_var rfl) ev_c hh hat0) ?_
    refine go_forS (α := V × HM × Option V × Option V) (fun i x => [some (.ref sp), some (.ref hp), some x.1, x.2.2.1, x.2.2.2]) (fun i x => HouR K G x.1 x.2.1 ∧ OkS hs (ss.drop i) x.2.1) (hx0, hat hs 0, none, none) rfl ⟨h0, ok⟩ hI (ek_enumT (ev_var rfl) hss) ?_ ?_
    · rintro i ⟨z, m, s1, s2⟩ x H H' hi ⟨w1, w2⟩ eH y
      dsimp only at w1 w2
      obtain ⟨x1, x2, y1, y2, y3, y4⟩ := ypair_names (K := K) (m := 3) (l := 4) (σ' := [some (.ref sp), some (.ref hp), some z, s1, s2]) y
      refine ⟨_, y3, y4, ?_⟩
      obtain rfl : nV i = x1 := Option.some.inj y1
      obtain ⟨st, hst, p, rfl, hpv⟩ := hsall.at y2
      have hlt := (List.getElem?_eq_some_iff.mp hst).1
      have hdr : ss.drop i = st :: ss.drop (i + 1) := by
        rw [List.drop_eq_getElem_cons hlt]
        congr 1
        rw [List.getElem?_eq_getElem hlt] at hst
        exact Option.some.inj hst
      rw [hdr] at w2
      obtain ⟨w3, w4⟩ := w2
      refine go_skip hI (et_eqv (et_not (a := true) (et_B (ev_callV (vs := [.ref p, z, .ref hp]) (ea_cons (ev_var rfl) (ea_cons (ev_var rfl) (ea_cons (ev_var rfl) ea_nil))) (sp_PV ⟨p, st, z, .ref hp, m, hs, rfl, hpv, w1, hR, w3, rfl⟩)))) rfl) ?_
      obtain ⟨z2, z3, z4⟩ := ev_behind (ts := tCons (tVar 4) (tCons (tVar 2) (tCons (tVar 1) tNil))) (σ := [some (.ref sp), some (.ref hp), some z, some (nV i), some (.ref p)]) w1 hR w3 hpv (ea_cons (ev_var rfl) (ea_cons (ev_var rfl) (ea_cons (ev_var rfl) ea_nil)))
      refine go_asg1 hI z4 ?_
      dsimp only
      exact LN.mk (z2, nextH hs m st, some (nV i), some (.ref p)) rfl rfl ⟨z3, w4⟩
    · rintro ⟨z, m, s1, s2⟩ _
      exact go_retV hI (ev_neg ev_c) rfl (q G (Ex.refl G)))
def sp_value_of (K : PySem.W.Frag) : Sp := PV 4 fun vs G v => ∃ (p : Addr) (s : Sp1) (xh yh : V) (h : HM) (hs : List HM) (n : Nat), vs = [.ref p, xh, yh, nV n] ∧ SqT K G p s.vals ∧ HouR K G xh h ∧ HsR K G yh hs ∧ s.Ok hs h ∧ v = .int (stepV hs h s n)
abbrev N_value_of : List Str := ["step", "house", "houses", "frame", "word", "place", "size"]
abbrev P_value_of : List Str := ["step", "house", "houses", "frame"]
theorem sc_value_of : FnScope N_value_of P_value_of (defScope s_value_of) := ⟨rfl, rfl, rfl, by decide +kernel, rfl, by decide +kernel, by decide +kernel⟩
theorem F_value_of {P : Program} {w : World} {K : PySem.W.Frag} {mg : Str → Option Value} {base : Heap} (T : Tx K w mg) (M_near : Mp P w K mg base 1 (He.ga K "House") "near" P_House_near (sp_House_near K)) (M_place_of : Mp P w K mg base 2 (He.ga K "House") "place_of" P_House_place_of (sp_House_place_of K)) (M_unit : Mp P w K mg base 1 (He.ga K "House") "unit" P_House_unit (sp_House_unit K)) : Kp P w K mg base 3 "value_of" P_value_of (sp_value_of K) := by
  obtain ⟨fd, F⟩ := T.d_value_of
  refine ⟨_, fd, T.g_value_of, F.kp, F.bindsN (fun _ _ _ _ _ _ us hl => match us, hl with | [_, _, _, _], _ => rfl), F.ok (N := N_value_of) sc_value_of len_PV fun cdv A outer s H vs Q E hr hpre => ⟨_, PSs.nox (pss_cons (ps_set (i := 4) sc_value_of.nd rfl (.inl rfl) (pe_ix ix_tup (pv 0) pe_int (fun _ _ => rfl)))
  (pss_cons (ps_if (pt_cmpR op_in_seq (pv 4) (pe_tup (pa_cons pe_str (pa_cons pe_str pa_nil))) (by rfl))
    (pss_one (ps_ret (pe_op op_add (pv 3) (pe_ifExp (pt_cmpR op_eq (pv 4) pe_str (nomark _)) (pe_ix ix_tup (pv 0) pe_int (fun _ _ => rfl)) (pe_op op_sub pe_int (pe_ix ix_tup (pv 0) pe_int (fun _ _ => rfl)))))))
    pss_nil)
  (pss_cons (ps_if (pt_cmpR op_eq (pv 4) pe_str (nomark _))
    (pss_one (ps_ret (pe_op op_fdiv (pe_op op_mul (pv 3) (pe_ix ix_tup (pv 0) pe_int (fun _ _ => rfl))) (pe_ix ix_tup (pv 0) pe_int (fun _ _ => rfl)))))
    pss_nil)
  (pss_cons (ps_if (pt_cmpR op_eq (pv 4) pe_str (nomark _))
    (pss_one (ps_ret (pv 3)))
    pss_nil)
  (pss_cons (ps_set (i := 5) sc_value_of.nd rfl (.inl rfl) (pe_km M_place_of (hr.mono (by decide)) (pv 1) (pa_cons (pv 3) pa_nil)))
  (pss_cons (ps_if (pt_cmpR op_eq (pv 4) pe_str (nomark _))
    (pss_one (ps_ret (pe_km M_near (hr.mono (by decide)) (pe_ix ix_tup (pv 2) (pe_ix ix_tup (pv 0) pe_int (fun _ _ => rfl)) (fun _ _ => rfl)) (pa_cons (pv 5) (pa_cons (pe_ix ix_tup (pv 0) pe_int (fun _ _ => rfl)) pa_nil)))))
    pss_nil)
  (pss_cons (ps_if (pt_cmpR op_in_seq (pv 4) (pe_tup (pa_cons pe_str (pa_cons pe_str pa_nil))) (by rfl))
    (pss_cons (ps_aug (i := 5) sc_value_of.nd rfl (.inl rfl) (pe_ifExp (pt_cmpR op_eq (pv 4) pe_str (nomark _)) (pe_ix ix_tup (pv 0) pe_int (fun _ _ => rfl)) (pe_op op_sub pe_int (pe_ix ix_tup (pv 0) pe_int (fun _ _ => rfl)))) ip_add)
  (pss_one (ps_ret (pe_ifExp (pt_cmpR op_ge (pv 5) pe_int (nomark _)) (pe_km M_near (hr.mono (by decide)) (pv 1) (pa_cons (pv 5) (pa_cons (pe_ix ix_tup (pv 0) pe_int (fun _ _ => rfl)) pa_nil))) (pe_un un_neg pe_int)))))
    pss_nil)
  (pss_cons (ps_set (i := 6) sc_value_of.nd rfl (.inl rfl) (pe_km M_unit (hr.mono (by decide)) (pv 1) (pa_cons (pe_ix ix_tup (pv 0) pe_int (fun _ _ => rfl)) pa_nil)))
  (pss_one (ps_ret (pe_km M_near (hr.mono (by decide)) (pv 1) (pa_cons (pe_op op_add (pe_op op_mul (pe_op op_fdiv (pv 5) (pv 6)) (pv 6)) (pe_ifExp (pt_cmpR op_eq (pv 4) pe_str (nomark _)) (pv 6) pe_int)) (pa_cons pe_str pa_nil))))))))))))), ?_⟩⟩
  exact start_PV hpre (by
    rintro G v I Q hI ⟨p, s, xh, yh, h, hs, n, rfl, hp, hR, hH, ok, rfl⟩ q
    obtain ⟨a, dx, tp, lt, sl, ol, ls, rfl, hF, okh⟩ := id hR
    refine go_asg hI (v := .str (Sp1.word _)) (ev_word (ev_var rfl) hp) ?_
    rcases s with c | c | ⟨c, nx⟩ | ⟨c, nx⟩ | k | k | ⟨i, nx⟩ | i | ⟨c, b⟩
    · refine go_take hI (et_in2 (ev_var rfl) rfl) ?_
      refine go_retV hI (ev_I0 (i := (n : Int)) (j := (c : Int)) (ev_var rfl) (ev_if (b := true) (et_w (ev_var rfl) rfl) (fun _ => ev_ixT (v := nV c) (ev_var rfl) ev_c hp rfl) fun z => by cases z)) ?_ (q G (Ex.refl G))
      show V.int _ = V.int _
      congr 1
    · refine go_take hI (et_in2 (ev_var rfl) rfl) ?_
      refine go_retV hI (ev_I0 (i := (n : Int)) (j := 0 - (c : Int)) (ev_var rfl) (ev_if (b := false) (et_w (ev_var rfl) rfl) (fun z => by cases z) fun _ => ev_I0 ev_c (ev_ixT (v := nV c) (ev_var rfl) ev_c hp rfl))) ?_ (q G (Ex.refl G))
      show V.int _ = V.int _
      congr 1
      simp only [stepV]
      omega
    · refine go_skip hI (et_in2 (ev_var rfl) rfl) ?_
      refine go_skip hI (et_w (ev_var rfl) rfl) ?_
      refine go_skip hI (et_w (ev_var rfl) rfl) ?_
      refine go_asg hI (v := nV (h.place n)) (ev_meth (dvs := []) (vs := [nV n]) (ev_var rfl) hF.o rfl (ea_cons (ev_var rfl) ea_nil) (sp_PV ⟨_, h, n, rfl, hR, rfl⟩)) ?_
      refine go_skip hI (et_w (ev_var rfl) rfl) ?_
      refine go_take hI (et_in2 (ev_var rfl) rfl) ?_
      refine go_aug hI (x := nV (h.place n)) (y := .int ((c : Int))) (z := .int ((h.place n : Nat) + ((c : Int) : Int))) rfl (ev_if (b := true) (et_w (ev_var rfl) rfl) (fun _ => ev_ixT (v := nV c) (ev_var rfl) ev_c hp rfl) fun z => by cases z) rv_ip ?_
      refine go_retV hI (ev_if (b := true) (et_eqv (et_test (ev_I0 (ev_var rfl) ev_c)) (by rw [decide_eq_true_iff]; omega)) (fun _ => ev_meth (dvs := []) (vs := [nV (h.place n + c), nxS nx]) (z := .int (h.near (h.place n + c) nx)) (ev_var rfl) hF.o rfl (ea_cons (ev_var rfl) (ea_cons (ev_ixT (ev_var rfl) ev_c hp rfl) ea_nil)) (sp_PV ⟨_, h, h.place n + c, nx, rfl, hR, rfl⟩)) fun z => by cases z) rfl (q G (Ex.refl G))
    · refine go_skip hI (et_in2 (ev_var rfl) rfl) ?_
      refine go_skip hI (et_w (ev_var rfl) rfl) ?_
      refine go_skip hI (et_w (ev_var rfl) rfl) ?_
      refine go_asg hI (v := nV (h.place n)) (ev_meth (dvs := []) (vs := [nV n]) (ev_var rfl) hF.o rfl (ea_cons (ev_var rfl) ea_nil) (sp_PV ⟨_, h, n, rfl, hR, rfl⟩)) ?_
      refine go_skip hI (et_w (ev_var rfl) rfl) ?_
      refine go_take hI (et_in2 (ev_var rfl) rfl) ?_
      refine go_aug hI (x := nV (h.place n)) (y := .int (0 - (c : Int))) (z := .int ((h.place n : Nat) + (0 - (c : Int) : Int))) rfl (ev_if (b := false) (et_w (ev_var rfl) rfl) (fun z => by cases z) fun _ => ev_I0 ev_c (ev_ixT (v := nV c) (ev_var rfl) ev_c hp rfl)) rv_ip ?_
      by_cases hc : c ≤ h.place n
      · have e : ((h.place n : Nat) : Int) + (0 - (c : Int)) = ((h.place n - c : Nat) : Int) := by omega
        rw [e]
        refine go_retV hI (ev_if (b := true) (et_eqv (et_test (ev_I0 (ev_var rfl) ev_c)) (by rw [decide_eq_true_iff]; omega)) (fun _ => ev_meth (dvs := []) (vs := [nV (h.place n - c), nxS nx]) (z := .int (h.near (h.place n - c) nx)) (ev_var rfl) hF.o rfl (ea_cons (ev_var rfl) (ea_cons (ev_ixT (ev_var rfl) ev_c hp rfl) ea_nil)) (sp_PV ⟨_, h, h.place n - c, nx, rfl, hR, rfl⟩)) fun z => by cases z) (by simp only [stepV, if_pos hc]) (q G (Ex.refl G))
      · refine go_retV hI (ev_if (b := false) (et_eqv (et_test (ev_I0 (ev_var rfl) ev_c)) (by rw [decide_eq_false_iff_not]; omega)) (fun z => by cases z) fun _ => ev_neg ev_c) (by simp only [stepV, if_neg hc]) (q G (Ex.refl G))
    · refine go_skip hI (et_in2 (ev_var rfl) rfl) ?_
      refine go_skip hI (et_w (ev_var rfl) rfl) ?_
      refine go_skip hI (et_w (ev_var rfl) rfl) ?_
      refine go_asg hI (v := nV (h.place n)) (ev_meth (dvs := []) (vs := [nV n]) (ev_var rfl) hF.o rfl (ea_cons (ev_var rfl) ea_nil) (sp_PV ⟨_, h, n, rfl, hR, rfl⟩)) ?_
      refine go_skip hI (et_w (ev_var rfl) rfl) ?_
      refine go_skip hI (et_in2 (ev_var rfl) rfl) ?_
      have U := okh.unit_bd k
      refine go_asg hI (v := nV (h.unit k)) (ev_meth (dvs := []) (vs := [nV k]) (ev_var rfl) hF.o rfl (ea_cons (ev_ixT (ev_var rfl) ev_c hp rfl) ea_nil) (sp_PV ⟨_, h, k, rfl, hR, rfl⟩)) ?_
      refine go_retV hI (ev_meth (dvs := []) (vs := [nV (h.place n / h.unit k * h.unit k), nxS true]) (z := .int (h.near (h.place n / h.unit k * h.unit k) true)) (ev_var rfl) hF.o rfl (ea_cons (ev_eqv (ev_I0 (ev_I (i := (h.place n : Int) / (h.unit k : Int)) (j := (h.unit k : Int)) (ev_I (i := (h.place n : Int)) (j := (h.unit k : Int)) (ev_var rfl) (ev_var rfl) ⟨by omega, by omega⟩) (ev_var rfl) (Or.inr ⟨by omega, by omega⟩)) (ev_if (v := .int 0) (b := false) (et_w (ev_var rfl) rfl) (fun z => by cases z) fun _ => ev_c)) ?_) (ea_cons ev_c ea_nil)) (sp_PV ⟨_, h, _, true, rfl, hR, rfl⟩)) rfl (q G (Ex.refl G))
      show V.int _ = V.int _
      congr 1
    · refine go_skip hI (et_in2 (ev_var rfl) rfl) ?_
      refine go_skip hI (et_w (ev_var rfl) rfl) ?_
      refine go_skip hI (et_w (ev_var rfl) rfl) ?_
      refine go_asg hI (v := nV (h.place n)) (ev_meth (dvs := []) (vs := [nV n]) (ev_var rfl) hF.o rfl (ea_cons (ev_var rfl) ea_nil) (sp_PV ⟨_, h, n, rfl, hR, rfl⟩)) ?_
      refine go_skip hI (et_w (ev_var rfl) rfl) ?_
      refine go_skip hI (et_in2 (ev_var rfl) rfl) ?_
      have U := okh.unit_bd k
      refine go_asg hI (v := nV (h.unit k)) (ev_meth (dvs := []) (vs := [nV k]) (ev_var rfl) hF.o rfl (ea_cons (ev_ixT (ev_var rfl) ev_c hp rfl) ea_nil) (sp_PV ⟨_, h, k, rfl, hR, rfl⟩)) ?_
      refine go_retV hI (ev_meth (dvs := []) (vs := [nV (h.place n / h.unit k * h.unit k + h.unit k), nxS true]) (z := .int (h.near (h.place n / h.unit k * h.unit k + h.unit k) true)) (ev_var rfl) hF.o rfl (ea_cons (ev_eqv (ev_I0 (ev_I (i := (h.place n : Int) / (h.unit k : Int)) (j := (h.unit k : Int)) (ev_I (i := (h.place n : Int)) (j := (h.unit k : Int)) (ev_var rfl) (ev_var rfl) ⟨by omega, by omega⟩) (ev_var rfl) (Or.inr ⟨by omega, by omega⟩)) (ev_if (v := nV (h.unit k)) (b := true) (et_w (ev_var rfl) rfl) (fun _ => ev_var rfl) fun z => by cases z)) ?_) (ea_cons ev_c ea_nil)) (sp_PV ⟨_, h, _, true, rfl, hR, rfl⟩)) rfl (q G (Ex.refl G))
      show V.int _ = V.int _
      congr 1
    · refine go_skip hI (et_in2 (ev_var rfl) rfl) ?_
      refine go_skip hI (et_w (ev_var rfl) rfl) ?_
      refine go_skip hI (et_w (ev_var rfl) rfl) ?_
      refine go_asg hI (v := nV (h.place n)) (ev_meth (dvs := []) (vs := [nV n]) (ev_var rfl) hF.o rfl (ea_cons (ev_var rfl) ea_nil) (sp_PV ⟨_, h, n, rfl, hR, rfl⟩)) ?_
      obtain ⟨hp2, hxs, y, e1, hh, hat, h0⟩ := hH.at (i := i) ok.1
      subst e1
      obtain ⟨a2, dx2, tp2, lt2, sl2, ol2, ls2, rfl, hF2, okh2⟩ := id h0
      refine go_take hI (et_w (ev_var rfl) rfl) ?_
      refine go_retV hI (ev_meth (dvs := []) (vs := [nV (h.place n), nxS nx]) (z := .int ((Lm.hat hs i).near (h.place n) nx)) (ev_ixT (ev_var rfl) (ev_ixT (v := nV i) (ev_var rfl) ev_c hp rfl) hh hat) hF2.o rfl (ea_cons (ev_var rfl) (ea_cons (ev_ixT (ev_var rfl) ev_c hp rfl) ea_nil)) (sp_PV ⟨_, _, h.place n, nx, rfl, h0, rfl⟩)) rfl (q G (Ex.refl G))
    · refine go_skip hI (et_in2 (ev_var rfl) rfl) ?_
      refine go_skip hI (et_w (ev_var rfl) rfl) ?_
      refine go_take hI (et_w (ev_var rfl) rfl) ?_
      exact go_retV hI (ev_var rfl) rfl (q G (Ex.refl G))
    · refine go_skip hI (et_in2 (ev_var rfl) rfl) ?_
      refine go_take hI (et_w (ev_var rfl) rfl) ?_
      obtain ⟨o1, o2, o3, o4⟩ := ok
      refine go_retV hI (ev_I (i := (n : Int) * (c : Int)) (j := (b : Int)) (ev_I (i := (n : Int)) (j := (c : Int)) (ev_var rfl) (ev_ixT (v := nV c) (ev_var rfl) ev_c hp rfl) (Or.inr ⟨by omega, by omega⟩)) (ev_ixT (v := nV b) (ev_var rfl) ev_c hp rfl) ⟨by omega, by omega⟩) rfl (q G (Ex.refl G)))
end Lm
end
section
set_option Elab.async false
set_option linter.all false
set_option maxRecDepth 100000
set_option maxHeartbeats 2000000
namespace Lm
open PySem PySem.Spec L2 Evl
local macro_rules | `(tactic| infer_instance) => `(tactic| first | (with_reducible exact ev_c) | ((with_reducible apply ev_var); exact rfl) | (with_reducible exact ea_nil) | (intro _; infer_instance) | ((with_reducible apply ev_I0) <;> try infer_instance) | ((with_reducible apply ev_I) <;> try infer_instance) | ((with_reducible apply ev_isInt) <;> try infer_instance) | ((with_reducible apply ev_isBool) <;> try infer_instance) | ((with_reducible apply ev_isStr) <;> try infer_instance) | ((with_reducible apply ev_isTup) <;> try infer_instance) | ((with_reducible apply ev_isN) <;> try infer_instance) | ((with_reducible apply ev_notN) <;> try infer_instance) | ((with_reducible apply ev_neg) <;> try infer_instance) | ((with_reducible apply ev_fld) <;> try infer_instance) | ((with_reducible apply ev_ixT) <;> try infer_instance) | ((with_reducible apply ev_ixL) <;> try infer_instance) | ((with_reducible apply ev_andV) <;> try infer_instance) | ((with_reducible apply ev_orV) <;> try infer_instance) | ((with_reducible apply ev_notV) <;> try infer_instance) | ((with_reducible apply ev_callV) <;> try infer_instance) | ((with_reducible apply ea_cons) <;> try infer_instance) | ((with_reducible apply et_test) <;> try infer_instance) | ((with_reducible apply et_B) <;> try infer_instance) | ((with_reducible apply et_not) <;> try infer_instance) | ((with_reducible apply et_and) <;> try infer_instance) | ((with_reducible apply et_or) <;> try infer_instance) | ((with_reducible apply ev_eq) <;> first | infer_instance | exact rfl | skip) | ((with_reducible apply ev_ne) <;> first | infer_instance | exact rfl | skip) | ((with_reducible apply eu_tup) <;> first | infer_instance | decide | skip) | ((with_reducible apply el_lst) <;> first | infer_instance | decide | skip))
def sp_round_of (K : PySem.W.Frag) : Sp := PU 3 fun vs G xs => ∃ (p : Addr) (s : Sp1) (xh yh : V) (h : HM) (hs : List HM), vs = [.ref p, xh, yh] ∧ SqT K G p s.vals ∧ HouR K G xh h ∧ HsR K G yh hs ∧ s.Ok hs h ∧ xs = [nV (roundS hs h s).1, nV (roundS hs h s).2]
abbrev N_round_of : List Str := ["step", "house", "houses", "divisor", "other", "whole"]
abbrev P_round_of : List Str := ["step", "house", "houses"]
theorem sc_round_of : FnScope N_round_of P_round_of (defScope s_round_of) := ⟨rfl, rfl, rfl, by decide +kernel, rfl, by decide +kernel, by decide +kernel⟩
theorem F_round_of {P : Program} {w : World} {K : PySem.W.Frag} {mg : Str → Option Value} {base : Heap} (T : Tx K w mg) (F_common_divisor : Kp P w K mg base 1 "common_divisor" P_common_divisor (sp_common_divisor K)) (F_common_multiple : Kp P w K mg base 2 "common_multiple" P_common_multiple (sp_common_multiple K)) (M_unit : Mp P w K mg base 1 (He.ga K "House") "unit" P_House_unit (sp_House_unit K)) : Kp P w K mg base 3 "round_of" P_round_of (sp_round_of K) := by
  obtain ⟨fd, F⟩ := T.d_round_of
  refine ⟨_, fd, T.g_round_of, F.kp, F.bindsN (fun _ _ _ _ _ _ us hl => match us, hl with | [_, _, _], _ => rfl), F.ok (N := N_round_of) sc_round_of len_PU fun cdv A outer s H vs Q E hr hpre => ⟨_, PSs.nox (pss_cons (ps_if (pt_cmpR op_in_seq (pe_ix ix_tup (pv 0) pe_int (fun _ _ => rfl)) (pe_tup (pa_cons pe_str (pa_cons pe_str (pa_cons pe_str pa_nil)))) (by rfl))
    (pss_one (ps_ret (pe_tup (pa_cons pe_int (pa_cons pe_int pa_nil)))))
    pss_nil)
  (pss_cons (ps_if (pt_cmpR op_eq (pe_ix ix_tup (pv 0) pe_int (fun _ _ => rfl)) pe_str (nomark _))
    (pss_cons (ps_set (i := 3) sc_round_of.nd rfl (.inl rfl) (pe_kall F_common_divisor (hr.mono (by decide)) (by rfl) (pa_cons (pe_ix ix_tup (pv 0) pe_int (fun _ _ => rfl)) (pa_cons (pe_ix ix_tup (pv 0) pe_int (fun _ _ => rfl)) pa_nil))))
  (pss_one (ps_ret (pe_tup (pa_cons (pe_op op_fdiv (pe_ix ix_tup (pv 0) pe_int (fun _ _ => rfl)) (pv 3)) (pa_cons (pe_op op_fdiv (pe_ix ix_tup (pv 0) pe_int (fun _ _ => rfl)) (pv 3)) pa_nil))))))
    pss_nil)
  (pss_cons (ps_if (pt_cmpR op_in_seq (pe_ix ix_tup (pv 0) pe_int (fun _ _ => rfl)) (pe_tup (pa_cons pe_str (pa_cons pe_str pa_nil))) (by rfl))
    (pss_one (ps_ret (pe_tup (pa_cons (pe_fld (pv 1) rfl) (pa_cons (pe_fld (pv 1) rfl) pa_nil)))))
    pss_nil)
  (pss_cons (ps_if (pt_cmpR op_eq (pe_ix ix_tup (pv 0) pe_int (fun _ _ => rfl)) pe_str (nomark _))
    (pss_cons (ps_set (i := 4) sc_round_of.nd rfl (.inl rfl) (pe_ix ix_tup (pv 2) (pe_ix ix_tup (pv 0) pe_int (fun _ _ => rfl)) (fun _ _ => rfl)))
  (pss_cons (ps_set (i := 5) sc_round_of.nd rfl (.inl rfl) (pe_kall F_common_multiple (hr.mono (by decide)) (by rfl) (pa_cons (pe_fld (pv 1) rfl) (pa_cons (pe_fld (pv 4) rfl) pa_nil))))
  (pss_one (ps_ret (pe_tup (pa_cons (pe_op op_mul (pe_fld (pv 1) rfl) (pe_op op_fdiv (pv 5) (pe_fld (pv 1) rfl))) (pa_cons (pe_op op_mul (pe_fld (pv 4) rfl) (pe_op op_fdiv (pv 5) (pe_fld (pv 4) rfl))) pa_nil)))))))
    pss_nil)
  (pss_cons (ps_set (i := 5) sc_round_of.nd rfl (.inl rfl) (pe_kall F_common_multiple (hr.mono (by decide)) (by rfl) (pa_cons (pe_fld (pv 1) rfl) (pa_cons (pe_km M_unit (hr.mono (by decide)) (pv 1) (pa_cons (pe_ix ix_tup (pv 0) pe_int (fun _ _ => rfl)) pa_nil)) pa_nil))))
  (pss_one (ps_ret (pe_tup (pa_cons (pe_op op_mul (pe_fld (pv 1) rfl) (pe_op op_fdiv (pv 5) (pe_fld (pv 1) rfl))) (pa_cons (pe_op op_mul (pe_fld (pv 1) rfl) (pe_op op_fdiv (pv 5) (pe_fld (pv 1) rfl))) pa_nil)))))))))), ?_⟩⟩
  exact start_PU hpre (by
    rintro G xs I Q hI ⟨p, s, xh, yh, h, hs, rfl, hp, hR, hH, ok, rfl⟩ q
    obtain ⟨a, dx, tp, lt, sl, ol, ls, rfl, hF, okh⟩ := id hR
    have P1 := okh.P_bd
    have F1 := okh.F_bd
    have s0 : ∀ {p : Addr} {s : Sp1}, SqT K G p s.vals → Ev (tOp (rIxT K) (tVar 0) (tC (.int 0))) (start N_round_of [.ref p, .ref a, yh]) G (.str s.word) := fun hp => ev_word (ev_var rfl) hp
    rcases s with c | c | ⟨c, nx⟩ | ⟨c, nx⟩ | k | k | ⟨i, nx⟩ | i | ⟨c, b⟩
    · refine go_take hI (et_in3 (s0 hp) rfl) ?_
      refine go_retU hI (xs := [nV (roundS hs h _).1, nV (roundS hs h _).2]) (eu_tup (ea_cons (ev_c) (ea_cons (ev_c) ea_nil)) (show (2 : Nat) ≤ 100000 by decide)) fun r hr => q r _ (Ex.new hr) hr upd_same
    · refine go_take hI (et_in3 (s0 hp) rfl) ?_
      refine go_retU hI (xs := [nV (roundS hs h _).1, nV (roundS hs h _).2]) (eu_tup (ea_cons (ev_c) (ea_cons (ev_c) ea_nil)) (show (2 : Nat) ≤ 100000 by decide)) fun r hr => q r _ (Ex.new hr) hr upd_same
    · refine go_skip hI (et_in3 (s0 hp) rfl) ?_
      refine go_skip hI (et_w (s0 hp) rfl) ?_
      refine go_take hI (et_in2 (s0 hp) rfl) ?_
      refine go_retU hI (xs := [nV (roundS hs h _).1, nV (roundS hs h _).2]) (eu_tup (ea_cons (ev_fld (ev_var rfl) hF.o T.c_House T.n_House_frames rfl) (ea_cons (ev_fld (ev_var rfl) hF.o T.c_House T.n_House_frames rfl) ea_nil)) (show (2 : Nat) ≤ 100000 by decide)) fun r hr => q r _ (Ex.new hr) hr upd_same
    · refine go_skip hI (et_in3 (s0 hp) rfl) ?_
      refine go_skip hI (et_w (s0 hp) rfl) ?_
      refine go_take hI (et_in2 (s0 hp) rfl) ?_
      refine go_retU hI (xs := [nV (roundS hs h _).1, nV (roundS hs h _).2]) (eu_tup (ea_cons (ev_fld (ev_var rfl) hF.o T.c_House T.n_House_frames rfl) (ea_cons (ev_fld (ev_var rfl) hF.o T.c_House T.n_House_frames rfl) ea_nil)) (show (2 : Nat) ≤ 100000 by decide)) fun r hr => q r _ (Ex.new hr) hr upd_same
    · refine go_skip hI (et_in3 (s0 hp) rfl) ?_
      refine go_skip hI (et_w (s0 hp) rfl) ?_
      refine go_skip hI (et_in2 (s0 hp) rfl) ?_
      refine go_skip hI (et_w (s0 hp) rfl) ?_
      have U := okh.unit_bd k
      refine go_asg hI (v := nV (lcmN h.P (h.unit k))) (ev_callV (vs := [nV (h.P), nV (h.unit k)]) (ea_cons (ev_fld (ev_var rfl) hF.o T.c_House T.n_House_places rfl) (ea_cons (ev_meth (dvs := []) (vs := [nV k]) (ev_var rfl) hF.o rfl (ea_cons (ev_ixT (ev_var rfl) ev_c hp rfl) ea_nil) (sp_PV ⟨_, h, k, rfl, hR, rfl⟩)) ea_nil)) (sp_PV ⟨_, _, rfl, by omega, by omega, by omega, rfl⟩)) ?_
      refine go_retU hI (xs := [nV (roundS hs h _).1, nV (roundS hs h _).2]) (eu_tup (ea_cons (ev_eqv (ev_I (i := (h.F : Int)) (j := (lcmN h.P (h.unit k) : Nat) / (h.P : Int)) (ev_fld (ev_var rfl) hF.o T.c_House T.n_House_frames rfl) (ev_I (i := ((lcmN h.P (h.unit k) : Nat) : Int)) (j := (h.P : Int)) (ev_var rfl) (ev_fld (ev_var rfl) hF.o T.c_House T.n_House_places rfl) ⟨by omega, by omega⟩) (Or.inl ⟨by omega, by omega⟩)) rfl) (ea_cons (ev_eqv (ev_I (i := (h.F : Int)) (j := (lcmN h.P (h.unit k) : Nat) / (h.P : Int)) (ev_fld (ev_var rfl) hF.o T.c_House T.n_House_frames rfl) (ev_I (i := ((lcmN h.P (h.unit k) : Nat) : Int)) (j := (h.P : Int)) (ev_var rfl) (ev_fld (ev_var rfl) hF.o T.c_House T.n_House_places rfl) ⟨by omega, by omega⟩) (Or.inl ⟨by omega, by omega⟩)) rfl) ea_nil)) (show (2 : Nat) ≤ 100000 by decide)) fun r hr => q r _ (Ex.new hr) hr upd_same
    · refine go_skip hI (et_in3 (s0 hp) rfl) ?_
      refine go_skip hI (et_w (s0 hp) rfl) ?_
      refine go_skip hI (et_in2 (s0 hp) rfl) ?_
      refine go_skip hI (et_w (s0 hp) rfl) ?_
      have U := okh.unit_bd k
      refine go_asg hI (v := nV (lcmN h.P (h.unit k))) (ev_callV (vs := [nV (h.P), nV (h.unit k)]) (ea_cons (ev_fld (ev_var rfl) hF.o T.c_House T.n_House_places rfl) (ea_cons (ev_meth (dvs := []) (vs := [nV k]) (ev_var rfl) hF.o rfl (ea_cons (ev_ixT (ev_var rfl) ev_c hp rfl) ea_nil) (sp_PV ⟨_, h, k, rfl, hR, rfl⟩)) ea_nil)) (sp_PV ⟨_, _, rfl, by omega, by omega, by omega, rfl⟩)) ?_
      refine go_retU hI (xs := [nV (roundS hs h _).1, nV (roundS hs h _).2]) (eu_tup (ea_cons (ev_eqv (ev_I (i := (h.F : Int)) (j := (lcmN h.P (h.unit k) : Nat) / (h.P : Int)) (ev_fld (ev_var rfl) hF.o T.c_House T.n_House_frames rfl) (ev_I (i := ((lcmN h.P (h.unit k) : Nat) : Int)) (j := (h.P : Int)) (ev_var rfl) (ev_fld (ev_var rfl) hF.o T.c_House T.n_House_places rfl) ⟨by omega, by omega⟩) (Or.inl ⟨by omega, by omega⟩)) rfl) (ea_cons (ev_eqv (ev_I (i := (h.F : Int)) (j := (lcmN h.P (h.unit k) : Nat) / (h.P : Int)) (ev_fld (ev_var rfl) hF.o T.c_House T.n_House_frames rfl) (ev_I (i := ((lcmN h.P (h.unit k) : Nat) : Int)) (j := (h.P : Int)) (ev_var rfl) (ev_fld (ev_var rfl) hF.o T.c_House T.n_House_places rfl) ⟨by omega, by omega⟩) (Or.inl ⟨by omega, by omega⟩)) rfl) ea_nil)) (show (2 : Nat) ≤ 100000 by decide)) fun r hr => q r _ (Ex.new hr) hr upd_same
    · refine go_skip hI (et_in3 (s0 hp) rfl) ?_
      refine go_skip hI (et_w (s0 hp) rfl) ?_
      refine go_skip hI (et_in2 (s0 hp) rfl) ?_
      obtain ⟨hp2, hxs, y, e1, hh, hat, h0⟩ := hH.at (i := i) ok.1
      subst e1
      obtain ⟨a2, dx2, tp2, lt2, sl2, ol2, ls2, rfl, hF2, okh2⟩ := id h0
      have P2 := okh2.P_bd
      have F2 := okh2.F_bd
      refine go_take hI (et_w (s0 hp) rfl) ?_
      refine go_asg hI (v := .ref a2) (ev_ixT (ev_var rfl) (ev_ixT (v := nV i) (ev_var rfl) ev_c hp rfl) hh hat) ?_
      refine go_asg hI (v := nV (lcmN h.P (Lm.hat hs i).P)) (ev_callV (vs := [nV (h.P), nV ((Lm.hat hs i).P)]) (ea_cons (ev_fld (ev_var rfl) hF.o T.c_House T.n_House_places rfl) (ea_cons (ev_fld (ev_var rfl) hF2.o T.c_House T.n_House_places rfl) ea_nil)) (sp_PV ⟨_, _, rfl, by omega, by omega, by omega, rfl⟩)) ?_
      refine go_retU hI (xs := [nV (roundS hs h _).1, nV (roundS hs h _).2]) (eu_tup (ea_cons (ev_eqv (ev_I (i := (h.F : Int)) (j := (lcmN h.P (Lm.hat hs i).P : Nat) / (h.P : Int)) (ev_fld (ev_var rfl) hF.o T.c_House T.n_House_frames rfl) (ev_I (i := ((lcmN h.P (Lm.hat hs i).P : Nat) : Int)) (j := (h.P : Int)) (ev_var rfl) (ev_fld (ev_var rfl) hF.o T.c_House T.n_House_places rfl) ⟨by omega, by omega⟩) (Or.inl ⟨by omega, by omega⟩)) rfl) (ea_cons (ev_eqv (ev_I (i := ((Lm.hat hs i).F : Int)) (j := (lcmN h.P (Lm.hat hs i).P : Nat) / ((Lm.hat hs i).P : Int)) (ev_fld (ev_var rfl) hF2.o T.c_House T.n_House_frames rfl) (ev_I (i := ((lcmN h.P (Lm.hat hs i).P : Nat) : Int)) (j := ((Lm.hat hs i).P : Int)) (ev_var rfl) (ev_fld (ev_var rfl) hF2.o T.c_House T.n_House_places rfl) ⟨by omega, by omega⟩) (Or.inl ⟨by omega, by omega⟩)) rfl) ea_nil)) (show (2 : Nat) ≤ 100000 by decide)) fun r hr => q r _ (Ex.new hr) hr upd_same
    · refine go_take hI (et_in3 (s0 hp) rfl) ?_
      refine go_retU hI (xs := [nV (roundS hs h _).1, nV (roundS hs h _).2]) (eu_tup (ea_cons (ev_c) (ea_cons (ev_c) ea_nil)) (show (2 : Nat) ≤ 100000 by decide)) fun r hr => q r _ (Ex.new hr) hr upd_same
    · refine go_skip hI (et_in3 (s0 hp) rfl) ?_
      obtain ⟨o1, o2, o3, o4⟩ := ok
      have hg : 0 < Nat.gcd c b := Nat.gcd_pos_of_pos_left _ o1
      have hg2 : Nat.gcd c b ≤ c := Nat.gcd_le_left _ o1
      refine go_take hI (et_w (s0 hp) rfl) ?_
      refine go_asg hI (v := nV (Nat.gcd c b)) (ev_callV (vs := [nV c, nV b]) (ea_cons (ev_ixT (ev_var rfl) ev_c hp rfl) (ea_cons (ev_ixT (ev_var rfl) ev_c hp rfl) ea_nil)) (sp_PV ⟨_, _, rfl, by omega, rfl⟩)) ?_
      refine go_retU hI (xs := [nV (roundS hs h _).1, nV (roundS hs h _).2]) (eu_tup (ea_cons (ev_eqv (ev_I (i := (b : Int)) (j := (Nat.gcd c b : Nat)) (ev_ixT (v := nV b) (ev_var rfl) ev_c hp rfl) (ev_var rfl) ⟨by omega, by omega⟩) rfl) (ea_cons (ev_eqv (ev_I (i := (c : Int)) (j := (Nat.gcd c b : Nat)) (ev_ixT (v := nV c) (ev_var rfl) ev_c hp rfl) (ev_var rfl) ⟨by omega, by omega⟩) rfl) ea_nil)) (show (2 : Nat) ≤ 100000 by decide)) fun r hr => q r _ (Ex.new hr) hr upd_same)
def sp_least_through (K : PySem.W.Frag) : Sp := PU 2 fun vs G xs => ∃ (xh yh : V) (ss : List Sp1) (hs : List HM), vs = [xh, yh] ∧ StsR K G xh ss ∧ HsR K G yh hs ∧ OkS hs ss (hat hs 0) ∧ HsOk hs ∧ xs = [nV (thr hs ss (hat hs 0) 1 1).1, nV (thr hs ss (hat hs 0) 1 1).2]
abbrev N_least_through : List Str := ["steps", "houses", "house", "found", "behind", "step", "part", "whole", "times"]
abbrev P_least_through : List Str := ["steps", "houses"]
theorem sc_least_through : FnScope N_least_through P_least_through (defScope s_least_through) := ⟨rfl, rfl, rfl, by decide +kernel, rfl, by decide +kernel, by decide +kernel⟩
theorem F_least_through {P : Program} {w : World} {K : PySem.W.Frag} {mg : Str → Option Value} {base : Heap} (T : Tx K w mg) (F_house_behind : Kp P w K mg base 1 "house_behind" P_house_behind (sp_house_behind K)) (F_round_of : Kp P w K mg base 3 "round_of" P_round_of (sp_round_of K)) (F_common_divisor : Kp P w K mg base 1 "common_divisor" P_common_divisor (sp_common_divisor K)) : Kp P w K mg base 4 "least_through" P_least_through (sp_least_through K) := by
  obtain ⟨fd, F⟩ := T.d_least_through
  refine ⟨_, fd, T.g_least_through, F.kp, F.bindsN (fun _ _ _ _ _ _ us hl => match us, hl with | [_, _], _ => rfl), F.ok (N := N_least_through) sc_least_through len_PU fun cdv A outer s H vs Q E hr hpre => ⟨_, PSs.nox (pss_cons (ps_par3 (i := 2) (j := 3) (l := 4) rfl sc_least_through.nd rfl rfl rfl (by decide) (by decide) (by decide) rfl rfl rfl (pa_cons (pe_ix ix_tup (pv 1) pe_int (fun _ _ => rfl)) (pa_cons pe_int (pa_cons pe_int pa_nil))) (by rfl))
  (pss_cons (ps_for PassesOwn.never rfl (pi_tup (pv 0)) (pg_name (i := 5) sc_least_through.nd rfl (Or.inl rfl))
    (pss_cons (ps_asg (pe_kall F_round_of (hr.mono (by decide)) (by rfl) (pa_cons (pv 5) (pa_cons (pv 2) (pa_cons (pv 1) pa_nil)))) (pg_tup (n := 2) rfl (pgs_cons (pg_name (i := 6) sc_least_through.nd rfl (Or.inl rfl)) (pgs_cons (pg_name (i := 7) sc_least_through.nd rfl (Or.inl rfl)) pgs_nil))))
  (pss_cons (ps_set (i := 8) sc_least_through.nd rfl (.inl rfl) (pe_op op_fdiv (pv 6) (pe_kall F_common_divisor (hr.mono (by decide)) (by rfl) (pa_cons (pv 4) (pa_cons (pv 6) pa_nil)))))
  (pss_cons (ps_par (i := 3) (j := 4) rfl sc_least_through.nd rfl rfl (by decide) rfl rfl (pa_cons (pe_op op_mul (pv 3) (pv 8)) (pa_cons (pe_op op_mul (pe_op op_fdiv (pe_op op_mul (pv 4) (pv 8)) (pv 6)) (pv 7)) pa_nil)) (by rfl))
  (pss_one (ps_set (i := 2) sc_least_through.nd rfl (.inl rfl) (pe_kall F_house_behind (hr.mono (by decide)) (by rfl) (pa_cons (pv 5) (pa_cons (pv 2) (pa_cons (pv 1) pa_nil))))))))))
  (pss_one (ps_ret (pe_tup (pa_cons (pv 3) (pa_cons (pv 4) pa_nil))))))), ?_⟩⟩
  exact start_PU hpre (by
    rintro G xs I Q hI ⟨xh, yh, ss, hs, rfl, ⟨sp, sxs, rfl, hss, hsall, hs4⟩, hR, ok, oh, rfl⟩ q
    obtain ⟨hp, hxs, hx0, e1, hh, hat0, h0⟩ := hR.at (i := 0) (by obtain ⟨_, _, _, _, _, _, z⟩ := hR; omega)
    subst e1
    refine go_par3 hI (x := hx0) (y := nV 1) (z := nV 1) (ea_cons (ev_ixT (ev_var rfl) ev_c hh hat0) (ea_cons ev_c (ea_cons ev_c ea_nil))) ?_
    refine go_forS (α := V × HM × Nat × Nat × Option V × Option V × Option V × Option V) (fun i x => [some (.ref sp), some (.ref hp), some x.1, some (nV x.2.2.1), some (nV x.2.2.2.1), x.2.2.2.2.1, x.2.2.2.2.2.1, x.2.2.2.2.2.2.1, x.2.2.2.2.2.2.2]) (fun i x => HouR K G x.1 x.2.1 ∧ OkS hs (ss.drop i) x.2.1 ∧ thr hs ss (hat hs 0) 1 1 = thr hs (ss.drop i) x.2.1 x.2.2.1 x.2.2.2.1) (hx0, hat hs 0, 1, 1, none, none, none, none) rfl ⟨h0, ok, rfl⟩ hI (ek_tup (ev_var rfl) hss) ?_ ?_
    · rintro i ⟨z, m, f, b, s1, s2, s3, s4⟩ x H H' hi ⟨w1, w2, w3⟩ eH y
      dsimp only at w1 w2 w3
      obtain ⟨y1, y2, y3⟩ := yat_name (m := 5) (σ' := [some (.ref sp), some (.ref hp), some z, some (nV f), some (nV b), s1, s2, s3, s4]) y
      refine ⟨_, y2, y3, ?_⟩
      obtain ⟨st, hst, p, rfl, hpv⟩ := hsall.at y1
      have hlt := (List.getElem?_eq_some_iff.mp hst).1
      have hdr : ss.drop i = st :: ss.drop (i + 1) := by
        rw [List.drop_eq_getElem_cons hlt]
        congr 1
        rw [List.getElem?_eq_getElem hlt] at hst
        exact Option.some.inj hst
      rw [hdr] at w2 w3
      obtain ⟨w4, w5⟩ := w2
      have okm : m.Ok := by obtain ⟨_, _, _, _, _, _, _, _, _, z⟩ := w1; exact z
      obtain ⟨r1, r2, r3, r4⟩ := round_bd okm oh w4
      have hg : 0 < Nat.gcd b (roundS hs m st).1 := Nat.gcd_pos_of_pos_right _ r1
      have hg2 : Nat.gcd b (roundS hs m st).1 ≤ (roundS hs m st).1 := Nat.gcd_le_right _ r1
      have ht := Nat.div_le_self (roundS hs m st).1 (Nat.gcd b (roundS hs m st).1)
      refine go_un2 hI (x := nV (roundS hs m st).1) (y := nV (roundS hs m st).2) (eu_callP (vs := [.ref p, z, .ref hp]) (ea_cons (ev_var rfl) (ea_cons (ev_var rfl) (ea_cons (ev_var rfl) ea_nil))) ⟨p, st, z, .ref hp, m, hs, rfl, hpv, w1, hR, w4, rfl⟩) ?_
      refine go_asg hI (v := nV ((roundS hs m st).1 / Nat.gcd b (roundS hs m st).1)) (ev_eqv (ev_I (i := ((roundS hs m st).1 : Int)) (j := (Nat.gcd b (roundS hs m st).1 : Nat)) (ev_var rfl) (ev_callV (vs := [nV b, nV (roundS hs m st).1]) (ea_cons (ev_var rfl) (ea_cons (ev_var rfl) ea_nil)) (sp_PV ⟨_, _, rfl, by omega, rfl⟩)) ⟨by omega, by omega⟩) rfl) ?_
      generalize ht2 : (roundS hs m st).1 / Nat.gcd b (roundS hs m st).1 = t at ht ⊢
      refine go_par hI (x := nV (f * t)) (y := nV (b * t / (roundS hs m st).1 * (roundS hs m st).2)) (ea_cons (ev_eqv (ev_I (i := (f : Int)) (j := (t : Int)) (ev_var rfl) (ev_var rfl) (Or.inr ⟨by omega, by omega⟩)) rfl) (ea_cons (ev_eqv (ev_I (i := (b : Int) * (t : Int) / ((roundS hs m st).1 : Int)) (j := ((roundS hs m st).2 : Int)) (ev_I (i := (b : Int) * (t : Int)) (j := ((roundS hs m st).1 : Int)) (ev_I (i := (b : Int)) (j := (t : Int)) (ev_var rfl) (ev_var rfl) (Or.inr ⟨by omega, by omega⟩)) (ev_var rfl) ⟨by omega, by omega⟩) (ev_var rfl) (Or.inr ⟨by omega, by omega⟩)) rfl) ea_nil)) ?_
      obtain ⟨z2, z3, z4⟩ := ev_behind (ts := tCons (tVar 5) (tCons (tVar 2) (tCons (tVar 1) tNil))) (σ := [some (.ref sp), some (.ref hp), some z, some (nV (f * t)), some (nV (b * t / (roundS hs m st).1 * (roundS hs m st).2)), some (.ref p), some (nV (roundS hs m st).1), some (nV (roundS hs m st).2), some (nV t)]) w1 hR w4 hpv (ea_cons (ev_var rfl) (ea_cons (ev_var rfl) (ea_cons (ev_var rfl) ea_nil)))
      refine go_asg1 hI z4 ?_
      dsimp only
      refine LN.mk (z2, nextH hs m st, f * t, b * t / (roundS hs m st).1 * (roundS hs m st).2, some (.ref p), some (nV (roundS hs m st).1), some (nV (roundS hs m st).2), some (nV t)) rfl rfl ⟨z3, w5, ?_⟩
      rw [w3, ← ht2]
      rfl
    · rintro ⟨z, m, f, b, s1, s2, s3, s4⟩ ⟨_, _, w3⟩
      dsimp only at w3
      rw [hsall.len, List.drop_length] at w3
      rw [w3] at q
      exact go_retU hI (xs := [nV f, nV b]) (eu_tup (ea_cons (ev_var rfl) (ea_cons (ev_var rfl) ea_nil)) (show (2 : Nat) ≤ 100000 by decide)) fun r hr => q r _ (Ex.new hr) hr upd_same)
def sp_led_to (K : PySem.W.Frag) : Sp := PV 3 fun vs G v => ∃ (xh yh : V) (ss : List Sp1) (hs : List HM) (n : Nat), vs = [xh, yh, nV n] ∧ StsR K G xh ss ∧ HsR K G yh hs ∧ OkS hs ss (hat hs 0) ∧ v = oV (val hs ss (hat hs 0) n)
abbrev N_led_to : List Str := ["steps", "houses", "frame", "house", "found", "step"]
abbrev P_led_to : List Str := ["steps", "houses", "frame"]
theorem sc_led_to : FnScope N_led_to P_led_to (defScope s_led_to) := ⟨rfl, rfl, rfl, by decide +kernel, rfl, by decide +kernel, by decide +kernel⟩
theorem F_led_to {P : Program} {w : World} {K : PySem.W.Frag} {mg : Str → Option Value} {base : Heap} (T : Tx K w mg) (F_house_behind : Kp P w K mg base 1 "house_behind" P_house_behind (sp_house_behind K)) (F_value_of : Kp P w K mg base 3 "value_of" P_value_of (sp_value_of K)) : Kp P w K mg base 4 "led_to" P_led_to (sp_led_to K) := by
  obtain ⟨fd, F⟩ := T.d_led_to
  refine ⟨_, fd, T.g_led_to, F.kp, F.bindsN (fun _ _ _ _ _ _ us hl => match us, hl with | [_, _, _], _ => rfl), F.ok (N := N_led_to) sc_led_to len_PV fun cdv A outer s H vs Q E hr hpre => ⟨_, PSs.nox (pss_cons (ps_par (i := 3) (j := 4) rfl sc_led_to.nd rfl rfl (by decide) rfl rfl (pa_cons (pe_ix ix_tup (pv 1) pe_int (fun _ _ => rfl)) (pa_cons (pv 2) pa_nil)) (by rfl))
  (pss_cons (ps_for PassesOwn.never rfl (pi_tup (pv 0)) (pg_name (i := 5) sc_led_to.nd rfl (Or.inl rfl))
    (pss_cons (ps_set (i := 4) sc_led_to.nd rfl (.inl rfl) (pe_kall F_value_of (hr.mono (by decide)) (by rfl) (pa_cons (pv 5) (pa_cons (pv 3) (pa_cons (pv 1) (pa_cons (pv 4) pa_nil))))))
  (pss_cons (ps_if (pt_cmpR op_lt (pv 4) pe_int (nomark _))
    (pss_one (ps_ret pe_non))
    pss_nil)
  (pss_one (ps_set (i := 3) sc_led_to.nd rfl (.inl rfl) (pe_kall F_house_behind (hr.mono (by decide)) (by rfl) (pa_cons (pv 5) (pa_cons (pv 3) (pa_cons (pv 1) pa_nil)))))))))
  (pss_one (ps_ret (pv 4))))), ?_⟩⟩
  exact start_PV hpre (by
    rintro G v I Q hI ⟨xh, yh, ss, hs, n, rfl, ⟨sp, sxs, rfl, hss, hsall, hs4⟩, hR, ok, rfl⟩ q
    obtain ⟨hp, hxs, hx0, e1, hh, hat0, h0⟩ := hR.at (i := 0) (by obtain ⟨_, _, _, _, _, _, z⟩ := hR; omega)
    subst e1
    refine go_par hI (x := hx0) (y := nV n) (ea_cons (ev_ixT (ev_var rfl) ev_c hh hat0) (ea_cons (ev_var rfl) ea_nil)) ?_
    refine go_forS (α := V × HM × Nat × Option V) (fun i x => [some (.ref sp), some (.ref hp), some (nV n), some x.1, some (nV x.2.2.1), x.2.2.2]) (fun i x => HouR K G x.1 x.2.1 ∧ OkS hs (ss.drop i) x.2.1 ∧ val hs ss (hat hs 0) n = val hs (ss.drop i) x.2.1 x.2.2.1) (hx0, hat hs 0, n, none) rfl ⟨h0, ok, rfl⟩ hI (ek_tup (ev_var rfl) hss) ?_ ?_
    · rintro i ⟨z, m, f, s1⟩ x H H' hi ⟨w1, w2, w3⟩ eH y
      dsimp only at w1 w2 w3
      obtain ⟨y1, y2, y3⟩ := yat_name (m := 5) (σ' := [some (.ref sp), some (.ref hp), some (nV n), some z, some (nV f), s1]) y
      refine ⟨_, y2, y3, ?_⟩
      obtain ⟨st, hst, p, rfl, hpv⟩ := hsall.at y1
      have hlt := (List.getElem?_eq_some_iff.mp hst).1
      have hdr : ss.drop i = st :: ss.drop (i + 1) := by
        rw [List.drop_eq_getElem_cons hlt]
        congr 1
        rw [List.getElem?_eq_getElem hlt] at hst
        exact Option.some.inj hst
      rw [hdr] at w2 w3
      obtain ⟨w4, w5⟩ := w2
      refine go_asg hI (v := .int (stepV hs m st f)) (ev_callV (vs := [.ref p, z, .ref hp, nV f]) (ea_cons (ev_var rfl) (ea_cons (ev_var rfl) (ea_cons (ev_var rfl) (ea_cons (ev_var rfl) ea_nil)))) (sp_PV ⟨p, st, z, .ref hp, m, hs, f, rfl, hpv, w1, hR, w4, rfl⟩)) ?_
      cases hsv : stepV hs m st f with
      | ofNat k =>
        have w3' : val hs ss (hat hs 0) n = val hs (ss.drop (i + 1)) (nextH hs m st) k := by
          rw [w3]
          show (match stepV hs m st f with
            | .ofNat j => val hs (ss.drop (i + 1)) (nextH hs m st) j
            | .negSucc _ => none) = _
          rw [hsv]
        refine go_skip hI (et_eqv (et_test (ev_I0 (ev_var rfl) ev_c)) (by rw [decide_eq_false_iff_not]; exact Int.not_lt.mpr (Int.natCast_nonneg k))) ?_
        obtain ⟨z2, z3, z4⟩ := ev_behind (ts := tCons (tVar 5) (tCons (tVar 3) (tCons (tVar 1) tNil))) (σ := [some (.ref sp), some (.ref hp), some (nV n), some z, some (nV k), some (.ref p)]) w1 hR w4 hpv (ea_cons (ev_var rfl) (ea_cons (ev_var rfl) (ea_cons (ev_var rfl) ea_nil)))
        refine go_asg1 hI z4 ?_
        dsimp only
        exact LN.mk (z2, nextH hs m st, k, some (.ref p)) rfl rfl ⟨z3, w5, w3'⟩
      | negSucc k =>
        have w3' : val hs ss (hat hs 0) n = none := by
          rw [w3]
          show (match stepV hs m st f with
            | .ofNat j => val hs (ss.drop (i + 1)) (nextH hs m st) j
            | .negSucc _ => none) = _
          rw [hsv]
        rw [w3'] at q
        exact go_take hI (et_eqv (et_test (ev_I0 (ev_var rfl) ev_c)) (by rw [decide_eq_true_iff]; exact Int.negSucc_lt_zero k)) (go_ret hI ev_c (q G (Ex.refl G)))
    · rintro ⟨z, m, f, s1⟩ ⟨_, _, w3⟩
      dsimp only at w3
      rw [hsall.len, List.drop_length] at w3
      rw [w3] at q
      exact go_ret hI (ev_var rfl) (q G (Ex.refl G)))
def sp_first_kept (K : PySem.W.Frag) : Sp := PV 2 fun vs G v => ∃ (xh yh : V) (ss : List Sp1) (hs : List HM) (s : Nat), vs = [xh, yh] ∧ StsR K G xh ss ∧ HsR K G yh hs ∧ OkS hs ss (hat hs 0) ∧ (∀ n, (val hs ss (hat hs 0) n = none) ↔ n < s) ∧ v = nV s
abbrev N_first_kept : List Str := ["steps", "houses", "low", "high", "middle"]
abbrev P_first_kept : List Str := ["steps", "houses"]
theorem sc_first_kept : FnScope N_first_kept P_first_kept (defScope s_first_kept) := ⟨rfl, rfl, rfl, by decide +kernel, rfl, by decide +kernel, by decide +kernel⟩
theorem F_first_kept {P : Program} {w : World} {K : PySem.W.Frag} {mg : Str → Option Value} {base : Heap} (T : Tx K w mg) (F_led_to : Kp P w K mg base 4 "led_to" P_led_to (sp_led_to K)) : Kp P w K mg base 5 "first_kept" P_first_kept (sp_first_kept K) := by
  obtain ⟨fd, F⟩ := T.d_first_kept
  refine ⟨_, fd, T.g_first_kept, F.kp, F.bindsN (fun _ _ _ _ _ _ us hl => match us, hl with | [_, _], _ => rfl), F.ok (N := N_first_kept) sc_first_kept len_PV fun cdv A outer s H vs Q E hr hpre => ⟨_, PSs.nox (pss_cons (ps_if (pt_cmpR op_notN (pe_kall F_led_to (hr.mono (by decide)) (by rfl) (pa_cons (pv 0) (pa_cons (pv 1) (pa_cons pe_int pa_nil)))) pe_non (nomark _))
    (pss_one (ps_ret pe_int))
    pss_nil)
  (pss_cons (ps_asg (pe_tup (pa_cons pe_int (pa_cons pe_int pa_nil))) (pg_tup (n := 2) rfl (pgs_cons (pg_name (i := 2) sc_first_kept.nd rfl (Or.inl rfl)) (pgs_cons (pg_name (i := 3) sc_first_kept.nd rfl (Or.inl rfl)) pgs_nil))))
  (pss_cons (ps_while PassesOwn.never (pt_cmpR op_isN (pe_kall F_led_to (hr.mono (by decide)) (by rfl) (pa_cons (pv 0) (pa_cons (pv 1) (pa_cons (pv 3) pa_nil)))) pe_non (nomark _))
    (pss_one (ps_par (i := 2) (j := 3) rfl sc_first_kept.nd rfl rfl (by decide) rfl rfl (pa_cons (pv 3) (pa_cons (pe_op op_mul pe_int (pv 3)) pa_nil)) (by rfl))))
  (pss_cons (ps_while PassesOwn.never (pt_cmpR op_gt (pe_op op_sub (pv 3) (pv 2)) pe_int (nomark _))
    (pss_cons (ps_set (i := 4) sc_first_kept.nd rfl (.inl rfl) (pe_op op_fdiv (pe_op op_add (pv 2) (pv 3)) pe_int))
  (pss_one (ps_if (pt_cmpR op_isN (pe_kall F_led_to (hr.mono (by decide)) (by rfl) (pa_cons (pv 0) (pa_cons (pv 1) (pa_cons (pv 4) pa_nil)))) pe_non (nomark _))
    (pss_one (ps_set (i := 2) sc_first_kept.nd rfl (.inl rfl) (pv 4)))
    (pss_one (ps_set (i := 3) sc_first_kept.nd rfl (.inl rfl) (pv 4)))))))
  (pss_one (ps_ret (pv 3))))))), ?_⟩⟩
  exact start_PV hpre (by
    rintro G v I Q hI ⟨xh, yh, ss, hs, s, rfl, hS, hR, ok, hn, rfl⟩ q
    have led : ∀ (σ : St) (i n : Nat), σ[0]? = some (some xh) → σ[1]? = some (some yh) → ∀ te : TE, Ev te σ G (nV n) → Ev (tCall (sp_led_to K) [] E0 (tCons (tVar 0) (tCons (tVar 1) (tCons te tNil)))) σ G (oV (val hs ss (hat hs 0) n)) := fun σ i n h0 h1 te hte =>
      ev_callV (vs := [xh, yh, nV n]) (ea_cons (ev_var h0) (ea_cons (ev_var h1) (ea_cons hte ea_nil))) (sp_PV ⟨xh, yh, ss, hs, n, rfl, hS, hR, ok, rfl⟩)
    have isn : ∀ n, decide (oV (val hs ss (hat hs 0) n) = .non) = decide (n < s) := fun n => by
      rw [Bool.eq_iff_iff, decide_eq_true_iff, decide_eq_true_iff, ← hn n]
      cases val hs ss (hat hs 0) n with
      | none => simp [oV]
      | some k => simp [oV, nV]
    refine go_when (b := !decide (0 < s)) hI (et_eqv (et_test (ev_notN (led _ 0 0 rfl rfl _ ev_c))) (by rw [isn 0])) (fun hz => ?_) fun hz => ?_
    · have : s = 0 := by
        have : ¬ 0 < s := by simpa using hz
        omega
      subst this
      exact go_ret hI ev_c (q G (Ex.refl G))
    have h0 : 0 < s := by simpa using hz
    refine go_un2 hI (x := nV 0) (y := nV 1) (eu_tup (ea_cons ev_c (ea_cons ev_c ea_nil)) (show (2 : Nat) ≤ 100000 by decide)) ?_
    refine go_while (α := Nat × Nat) (fun p => [some xh, some yh, some (nV p.1), some (nV p.2), none]) (fun _ => G) (fun p => p.1 < p.2 ∧ p.1 < s) (fun p => s - p.2) (0, 1) rfl rfl ⟨Nat.zero_lt_one, h0⟩ hI (fun p => decide (p.2 < s)) ?_
    rintro ⟨lo, hi⟩ ⟨w1, w2⟩
    dsimp only at w1 w2
    refine ⟨et_eqv (et_test (ev_isN (led _ 0 hi rfl rfl _ (ev_var rfl)))) (isn hi), fun hz => ?_, fun hz => ?_⟩
    · have hz' : hi < s := by simpa using hz
      refine go_par1 hI (x := nV hi) (y := nV (2 * hi)) (ea_cons (ev_var rfl) (ea_cons (ev_eqv (ev_I (C := CMul) (i := 2) (j := (hi : Int)) ev_c (ev_var rfl) (Or.inl ⟨by decide, by decide⟩)) rfl) ea_nil)) (WN.mk (hi, 2 * hi) rfl rfl ⟨?_, hz'⟩ ?_)
      · dsimp only; omega
      · dsimp only; omega
    have hz1 : s ≤ hi := by
      have : ¬ hi < s := by simpa using hz
      omega
    refine go_while (α := Nat × Nat × Option V) (fun p => [some xh, some yh, some (nV p.1), some (nV p.2.1), p.2.2]) (fun _ => G) (fun p => p.1 < s ∧ s ≤ p.2.1) (fun p => p.2.1 - p.1) (lo, hi, none) rfl rfl ⟨w2, hz1⟩ hI (fun p => decide (1 < p.2.1 - p.1)) ?_
    rintro ⟨lo, hi, s1⟩ ⟨v1, v2⟩
    dsimp only at v1 v2
    refine ⟨?_, fun hz => ?_, fun hz => ?_⟩
    · refine et_eqv (et_test (ev_I0 (ev_I0 (i := (hi : Int)) (j := (lo : Int)) (ev_var rfl) (ev_var rfl)) ev_c)) ?_
      rw [Bool.eq_iff_iff, decide_eq_true_iff, decide_eq_true_iff]
      dsimp only
      omega
    · have hz' : 1 < hi - lo := by simpa using hz
      refine go_asg2 hI (ev_I (C := CDiv) (i := (lo : Int) + (hi : Int)) (j := 2) (ev_I0 (ev_var rfl) (ev_var rfl)) ev_c ⟨by decide, by decide⟩) (w := nV ((lo + hi) / 2)) rfl ?_
      refine go_if (b := decide ((lo + hi) / 2 < s)) hI (et_eqv (et_test (ev_isN (led _ 0 ((lo + hi) / 2) rfl rfl _ (ev_var rfl)))) (isn _)) (fun hb => ?_) fun hb => ?_
      · have hb' : (lo + hi) / 2 < s := by simpa using hb
        refine go_asg1 hI (ev_var rfl) ?_
        dsimp only
        refine WN.mk ((lo + hi) / 2, hi, some (nV ((lo + hi) / 2))) rfl rfl ⟨?_, ?_⟩ ?_ <;> dsimp only <;> omega
      · have hb' : ¬ (lo + hi) / 2 < s := by simpa using hb
        refine go_asg1 hI (ev_var rfl) ?_
        dsimp only
        refine WN.mk (lo, (lo + hi) / 2, some (nV ((lo + hi) / 2))) rfl rfl ⟨?_, ?_⟩ ?_ <;> dsimp only <;> omega
    · have hz' : ¬ 1 < hi - lo := by simpa using hz
      refine go_retV hI (ev_var rfl) ?_ (q G (Ex.refl G))
      rw [show s = hi by omega])
end Lm
end
section
set_option Elab.async false
set_option linter.all false
set_option maxRecDepth 100000
set_option maxHeartbeats 2000000
namespace Lm
open PySem PySem.Spec L2 Evl
def rnd (vs : List Nat) (w p : Nat) : Bool := if w * p % vs.length = 0 then (List.range vs.length).all fun i => decide (vs.getD i 0 + w * p / vs.length = (vs.drop p ++ (vs.take p).map (· + w)).getD i 0) else false
theorem rnd_all {vs : List Nat} {w : Nat} (h : 0 < vs.length) : rnd vs w vs.length = true := by
  unfold rnd
  rw [if_pos (by rw [Nat.mul_mod_left]), List.all_eq_true]
  intro i hi
  rw [List.mem_range] at hi
  rw [decide_eq_true_iff, Nat.mul_div_cancel _ h, List.drop_length, List.take_length, List.nil_append, List.getD_eq_getElem?_getD, List.getD_eq_getElem?_getD, List.getElem?_map, List.getElem?_eq_getElem hi]
  rfl
structure MovF (K : PySem.W.Frag) (G : Hp) (a dx : Addr) (T U s : Nat) (tb : List Nat) (hp sp tl tn : Addr) (gl : V) : Prop where
  o : G a = some (.ins (He.ga K "Move") dx [("through", nV T), ("becomes", nV U), ("homes", .ref hp), ("path", .ref sp), ("start", nV s), ("table", .ref tl), ("turn", .ref tn), ("goal", gl)])
  t : SqL K G tl (nL tb)
def MovR (K : PySem.W.Frag) (G : Hp) (v : V) (T U s : Nat) (tb : List Nat) : Prop := ∃ a dx hp sp tl tn gl, v = .ref a ∧ MovF K G a dx T U s tb hp sp tl tn gl
theorem MovR.mono {K : PySem.W.Frag} {G G' : Hp} {v : V} {T U s : Nat} {tb : List Nat} (e : Ex G G') : MovR K G v T U s tb → MovR K G' v T U s tb := fun ⟨a, dx, hp, sp, tl, tn, gl, h1, h2⟩ => ⟨a, dx, hp, sp, tl, tn, gl, h1, e _ _ h2.o, ex_l e h2.t⟩
section
variable {K : PySem.W.Frag} {I : Hp → Hp → Prop} {σ : St} {G : Hp} {ta tb tc te tv : TE} {tr : TA} {tt : TT} {x y z v : V} {D : Ends} {tu tw tz : TS} {R : V → Hp → Prop} {vs xs : List V} {C : Addr} {a dx : Addr} {fs : List (Str × V)} {f f2 : Str} {G1 : Hp}
/-- the field a new tuple -/
theorem go_fldU (c : Cl I) (hv : EvU tv σ (upd G1 a (.ins C dx fs)) xs) (ha : ∀ G', Ev ta σ G' (.ref a)) (hc : Cls K C) (hn : NoAttr K C f) (hl : fs.length < 1000)
    (k : ∀ p, G1 p = none → p ≠ a → Go (Wl a I) tz D σ (upd (upd G1 p (.tup xs)) a (.ins C dx (putF f (.ref p) fs)))) : Go (Wl a I) (tSeq (sFld K ta tv f) tz) D σ (upd G1 a (.ins C dx fs)) := fun H e i =>
  hv H e _ fun p H1 hp e1 h1 => by
    have s := Stp.take e hp e1 h1
    obtain ⟨g1, g2⟩ := upd_none (fresh_back e hp)
    have i1 := cl_wl c _ _ _ _ s i
    have e1' := s.2.2.1
    rw [upd_comm (fun z => g2 z.symm)] at i1 e1'
    refine (ha H1) H1 (Ex.refl _) _ fun H2 e2 => ?_
    have e3 := e1'.trans e2
    refine ⟨a, C, dx, fs, rfl, e3 a _ upd_same, hc, hn, hl, k p g1 g2 _ ?_ ?_⟩
    · intro b o hb
      by_cases z : b = a
      · subst z
        rw [upd_same] at hb ⊢
        exact hb
      · rw [upd_ne z] at hb ⊢
        exact e3 b o (by rw [upd_ne z]; exact hb)
    · have := wl_upd (o := .ins C dx (putF f (.ref p) fs)) (o' := .ins C dx (putF f (.ref p) fs)) (cl_wl c _ _ _ _ (Stp.ex e1' e2) i1)
      rw [upd_upd] at this
      exact this
/-- self.f, self.f2 = a new pair -/
theorem go_fldT (c : Cl I) (hv : EvU tv σ (upd G1 a (.ins C dx fs)) [x, y]) (ha : ∀ G', Ev ta σ G' (.ref a)) (hc : Cls K C) (hn : NoAttr K C f) (hn2 : NoAttr K C f2) (hl : fs.length < 900)
    (hl2 : (putF f x fs).length < 1000) (k : Go (Wl a I) tz D σ (upd G1 a (.ins C dx (putF f2 y (putF f x fs))))) : Go (Wl a I) (tSeq (tAsg tv (gTup K 2 (gCons (gFld K ta f) (gCons (gFld K ta f2) gNil)))) tz) D σ (upd G1 a (.ins C dx fs)) := fun H e i =>
  hv H e _ fun p H1 hp e1 h1 => by
    refine ⟨p, [x, y], rfl, st_of h1, rfl, x, [y], rfl, (ha H1) H1 (Ex.refl _) _ fun H2 e2 => ?_⟩
    have e12 := e1.trans e2
    refine ⟨a, C, dx, fs, rfl, e12 a _ (e a _ upd_same), hc, hn, by omega, y, [], rfl, (ha _) _ (Ex.refl _) _ fun H3 e3 => ?_⟩
    refine ⟨a, C, dx, putF f x fs, rfl, e3 a _ upd_same, hc, hn2, hl2, rfl, k _ ?_ ?_⟩
    · intro b o hb
      by_cases z : b = a
      · subst z
        rw [upd_same] at hb ⊢
        exact hb
      · rw [upd_ne z] at hb ⊢
        exact e3 b o (by rw [upd_ne z]; exact e12 b o (e b o (by rw [upd_ne z]; exact hb)))
    · have i2 := cl_wl c _ _ _ _ (Stp.ex e e12) i
      have i3 := wl_upd (o := .ins C dx (putF f x fs)) (o' := .ins C dx (putF f x fs)) i2
      rw [upd_upd] at i3
      have e4 : Ex (upd G1 a (.ins C dx (putF f x fs))) (upd H2 a (.ins C dx (putF f x fs))) := fun b o hb => by
        by_cases z : b = a
        · subst z
          rw [upd_same] at hb ⊢
          exact hb
        · rw [upd_ne z] at hb ⊢
          exact e12 b o (e b o (by rw [upd_ne z]; exact hb))
      have i4 := cl_wl c _ _ _ _ (Stp.ex e4 e3) i3
      have i5 := wl_upd (o := .ins C dx (putF f2 y (putF f x fs))) (o' := .ins C dx (putF f2 y (putF f x fs))) i4
      rw [upd_upd] at i5
      exact i5
theorem ea_nilE : EvA tNil σ G [] := ea_nil
theorem go_fldE (c : Cl I) (hv : Ev tv σ (upd G1 a (.ins C dx fs)) v) (ha : Ev ta σ (upd G1 a (.ins C dx fs)) (.ref a)) (hc : Cls K C) (hn : NoAttr K C f) (hl : fs.length < 1000)
    (k : GoN (Wl a I) D.nx σ (upd G1 a (.ins C dx (putF f v fs)))) : Go (Wl a I) (sFld K ta tv f) D σ (upd G1 a (.ins C dx fs)) := go_fldO1 (cl_wl c) (fun _ _ _ i => wl_upd i) hv ha hc hn hl k
/-- for at the end of a body -/
theorem go_forP1 {α : Type} {wi : TI} {g : TG} {n : Nat} {Y : Nat → Hp → V → Hp → Prop} {Gs : Hp} (S : Nat → α → St) (P : Nat → α → Hp) (W : Nat → α → Prop) (a0 : α) (hσ : σ = S 0 a0) (hG : G = P 0 a0) (w0 : W 0 a0) (hI : Cl I) (h : EvK wi σ Gs n Y) (hE : ∀ i a, W i a → Ex Gs (P i a))
    (hs : ∀ i a x H H', i < n → W i a → Ex (P i a) H → Y i H x H' → ∃ σ2, Ex H H' ∧ (∀ Q : St → Hp → Prop, Q σ2 H' → g x (S i a) H' Q) ∧ Go I tu { D with nx := LN I S P W (i + 1), ct := LN I S P W (i + 1), bk := D.nx } σ2 (P i a))
    (hd : ∀ a, W n a → GoN I D.nx (S n a) (P n a)) : Go I (tFor wi g tu) D σ G := go_forP (tz := fun _ => D.nx) S P W a0 hσ hG w0 hI h hE hs hd
end
theorem isHouse {K : PySem.W.Frag} {w : World} {mg : Str → Option Value} (T : Tx K w mg) {σ : St} {G : Hp} {ta : TE} {v : V} {h : HM} (hv : Ev ta σ G v) (hR : HouR K G v h) : Ev (tCB (rIsi K) (tCons ta (tCons (tC (.ref (He.ga K "House"))) tNil))) σ G (.bl true) := by
  obtain ⟨a, dx, tp, lt, sl, ol, ls, rfl, hF, _⟩ := hR
  refine ev_isi hv ev_c (.own _) (fun H e => .base (.ins (e _ _ hF.o) T.c_House T.ty_House.1 T.tyo.1 T.tyo.2 T.ty_House.2)) (if_pos (beq_self_eq_true _))
theorem isMove {K : PySem.W.Frag} {w : World} {mg : Str → Option Value} (T : Tx K w mg) {σ : St} {G : Hp} {ta : TE} {v : V} {TT U s : Nat} {tb : List Nat} (hv : Ev ta σ G v) (hR : MovR K G v TT U s tb) : Ev (tCB (rIsi K) (tCons ta (tCons (tC (.ref (He.ga K "Move"))) tNil))) σ G (.bl true) := by
  obtain ⟨a, dx, hp, sp, tl, tn, gl, rfl, hF⟩ := hR
  refine ev_isi hv ev_c (.own _) (fun H e => .base (.ins (e _ _ hF.o) T.c_Move T.ty_Move.1 T.tyo.1 T.tyo.2 T.ty_Move.2)) (if_pos (beq_self_eq_true _))
end Lm
end
section
set_option Elab.async false
set_option linter.all false
set_option maxRecDepth 100000
set_option maxHeartbeats 2000000
namespace Lm
open PySem PySem.Spec L2 Evl
local macro_rules | `(tactic| infer_instance) => `(tactic| first | (with_reducible exact ev_c) | ((with_reducible apply ev_var); exact rfl) | (with_reducible exact ea_nil) | (intro _; infer_instance) | ((with_reducible apply ev_I0) <;> try infer_instance) | ((with_reducible apply ev_I) <;> try infer_instance) | ((with_reducible apply ev_isInt) <;> try infer_instance) | ((with_reducible apply ev_isBool) <;> try infer_instance) | ((with_reducible apply ev_isStr) <;> try infer_instance) | ((with_reducible apply ev_isTup) <;> try infer_instance) | ((with_reducible apply ev_isN) <;> try infer_instance) | ((with_reducible apply ev_notN) <;> try infer_instance) | ((with_reducible apply ev_neg) <;> try infer_instance) | ((with_reducible apply ev_fld) <;> try infer_instance) | ((with_reducible apply ev_ixT) <;> try infer_instance) | ((with_reducible apply ev_ixL) <;> try infer_instance) | ((with_reducible apply ev_andV) <;> try infer_instance) | ((with_reducible apply ev_orV) <;> try infer_instance) | ((with_reducible apply ev_notV) <;> try infer_instance) | ((with_reducible apply ev_callV) <;> try infer_instance) | ((with_reducible apply ea_cons) <;> try infer_instance) | ((with_reducible apply et_test) <;> try infer_instance) | ((with_reducible apply et_B) <;> try infer_instance) | ((with_reducible apply et_not) <;> try infer_instance) | ((with_reducible apply et_and) <;> try infer_instance) | ((with_reducible apply et_or) <;> try infer_instance) | ((with_reducible apply ev_eq) <;> first | infer_instance | exact rfl | skip) | ((with_reducible apply ev_ne) <;> first | infer_instance | exact rfl | skip) | ((with_reducible apply eu_tup) <;> first | infer_instance | decide | skip) | ((with_reducible apply el_lst) <;> first | infer_instance | decide | skip))
def sp_is_round (K : PySem.W.Frag) : Sp := PV 3 fun vs G v => ∃ (a : Addr) (tb : List Nat) (u p : Nat), vs = [.ref a, nV u, nV p] ∧ SqL K G a (nL tb) ∧ 0 < tb.length ∧ tb.length ≤ 20000 ∧ p ≤ tb.length ∧ v = .bl (rnd tb u p)
abbrev N_is_round : List Str := ["values", "whole", "part", "size", "step", "later", "value", "next_value"]
abbrev P_is_round : List Str := ["values", "whole", "part"]
theorem sc_is_round : FnScope N_is_round P_is_round (defScope s_is_round) := ⟨rfl, rfl, rfl, by decide +kernel, rfl, by decide +kernel, by decide +kernel⟩
theorem F_is_round {P : Program} {w : World} {K : PySem.W.Frag} {mg : Str → Option Value} {base : Heap} (T : Tx K w mg) : Kp P w K mg base 1 "is_round" P_is_round (sp_is_round K) := by
  obtain ⟨fd, F⟩ := T.d_is_round
  refine ⟨_, fd, T.g_is_round, F.kp, F.bindsN (fun _ _ _ _ _ _ us hl => match us, hl with | [_, _, _], _ => rfl), F.ok (N := N_is_round) sc_is_round len_PV fun cdv A outer s H vs Q E hr hpre => ⟨_, PSs.nox (pss_cons (ps_set (i := 3) sc_is_round.nd rfl (.inl rfl) (pe_callB call_len_seq (by rfl) T.f_len (by decide +kernel) (pa_cons (pv 0) pa_nil)))
  (pss_cons (ps_if (pt_cmpR op_ne (pe_op op_mul (pe_op op_fdiv (pe_op op_mul (pv 1) (pv 2)) (pv 3)) (pv 3)) (pe_op op_mul (pv 1) (pv 2)) (nomark _))
    (pss_one (ps_ret pe_bl))
    pss_nil)
  (pss_cons (ps_set (i := 4) sc_is_round.nd rfl (.inr rfl) (pe_op op_fdiv (pe_op op_mul (pv 1) (pv 2)) (pv 3)))
  (pss_cons (ps_set (i := 5) sc_is_round.nd rfl (.inl rfl) (pe_lst (StX.pa_star (pe_slice sl_list (pv 0) (po_some (pv 2)) po_none) (StX.pa_star (pe_lc (own := [("value", 6)]) rfl sc_is_round.nd (pi_list (pe_slice sl_list (pv 0) po_none (po_some (pv 2)))) (blkOk_by (own := [("value", 6)]) (N := N_is_round) (sc := defScope s_is_round) (by decide +kernel)) (fun _ _ _ _ _ => (pg_name (i := 6) sc_is_round.nd rfl (Or.inl rfl))) (fun _ _ _ _ _ => pts_nil) (fun _ _ _ _ _ => (pe_op op_add (pv 6) (pv 1)))) pa_nil))))
  (pss_one (ps_ret (pe_callB (cr_all rfl) (by rfl) T.f_all (by decide +kernel) (pa_cons (pe_lc (own := [("value", 6), ("next_value", 7)]) rfl sc_is_round.nd (pi_zip (by rfl) T.f_zip (pa_cons (pv 0) (pa_cons (pv 5) pa_nil))) (blkOk_by (own := [("value", 6), ("next_value", 7)]) (N := N_is_round) (sc := defScope s_is_round) (by decide +kernel)) (fun _ _ _ _ _ => (pg_tupK (K := K) rfl (n := 2) rfl (pgs_cons (pg_name (i := 6) sc_is_round.nd rfl (Or.inl rfl)) (pgs_cons (pg_name (i := 7) sc_is_round.nd rfl (Or.inl rfl)) pgs_nil)))) (fun _ _ _ _ _ => pts_nil) (fun _ _ _ _ _ => (pe_cmpR op_eq (pe_op op_add (pv 6) (pv 4)) (pv 7) (nomark _)))) pa_nil)))))))), ?_⟩⟩
  exact start_PV hpre (by
    rintro G v I Q hI ⟨a, tb, u, p, rfl, ha, h0, h2, hp, rfl⟩ q
    refine go_asg hI (v := nV tb.length) (ev_eqv (ev_lenL (ev_var rfl) ha) (by rw [nL_len])) ?_
    have hmul : ∀ σ : St, σ[1]? = some (some (nV u)) → σ[2]? = some (some (nV p)) → Ev (tOp (rI CMul fun i j => V.int (i * j)) (tVar 1) (tVar 2)) σ G (nV (u * p)) := fun σ h1 h2 => ev_eqv (ev_I (i := (u : Int)) (j := (p : Int)) (ev_var h1) (ev_var h2) (Or.inr ⟨by omega, by omega⟩)) (by rw [← Int.natCast_mul])
    refine go_when (b := !(u * p % tb.length == 0)) hI (et_eqv (et_test (ev_ne (ev_I (i := ((u * p : Nat) : Int) / (tb.length : Int)) (j := (tb.length : Int)) (ev_I (i := ((u * p : Nat) : Int)) (j := (tb.length : Int)) (hmul _ rfl rfl) (ev_var rfl) ⟨by omega, by omega⟩) (ev_var rfl) (Or.inr ⟨by omega, by omega⟩)) (hmul _ rfl rfl) rfl)) (by rw [quot_eq h0])) (fun hz => ?_) fun hz => ?_
    · refine go_retV hI ev_c ?_ (q G (Ex.refl G))
      have : ¬ u * p % tb.length = 0 := by simpa using hz
      unfold rnd
      rw [if_neg this]
    have hz' : u * p % tb.length = 0 := by simpa using hz
    refine go_asg hI (v := nV (u * p / tb.length)) (ev_eqv (ev_I (i := ((u * p : Nat) : Int)) (j := (tb.length : Int)) (hmul _ rfl rfl) (ev_var rfl) ⟨by omega, by omega⟩) rfl) ?_
    refine go_asgL hI (xs := nL (tb.drop p ++ (tb.take p).map (· + u))) (el_eqv (el_lst (ea_starN (el_sliceL (ys := nL (tb.drop p)) (ev_var rfl) (eo_some (ev_var rfl)) eo_none ha (by rw [cut_tail]; unfold nL; rw [List.map_drop])) (ea_starN (el_lcA (xs := nL (tb.take p)) (fun _ => true) (fun i => nV ((tb.take p).getD i 0 + u)) (ew_listN (el_sliceL (ev_var rfl) eo_none (eo_some (ev_var rfl)) ha (by rw [cut_init]; unfold nL; rw [List.map_take]))) ?_ (fun _ => rfl) ?_) ea_nil)) ?_) ?_) fun t ht => ?_
    · rw [nL_len, List.length_take]; omega
    · intro i y hy
      have hi : i < (tb.take p).length := by
        have := (List.getElem?_eq_some_iff.mp hy).1
        rwa [nL_len] at this
      rw [nL_get hi] at hy
      obtain rfl := Option.some.inj hy
      exact ⟨et_yes, fun _ => ev_eqv (ev_I0 (ev_var rfl) (ev_var rfl)) rfl⟩
    · rw [given_all]
      simp [nL]
      omega
    · rw [given_all, nL_len]
      unfold nL
      rw [List.append_nil, List.map_append, List.map_map]
      congr 1
      apply List.ext_getElem
      · simp
      · intro i h1 h2
        have hi : i < (tb.take p).length := by simpa using h1
        simp [List.getD, hi]
        simp at hi
        simp [hi]
    have e1 : Ex G (upd G t (.lst (nL (tb.drop p ++ (tb.take p).map (· + u))))) := Ex.new ht
    have hl : (tb.drop p ++ (tb.take p).map (· + u)).length = tb.length := by simp; omega
    refine go_retV hI (ev_all (bs := (List.range tb.length).map fun i => decide (tb.getD i 0 + u * p / tb.length = (tb.drop p ++ (tb.take p).map (· + u)).getD i 0)) (el_eqv (el_lcP (n := tb.length) (fun _ => true) (fun i => .bl (decide (tb.getD i 0 + u * p / tb.length = (tb.drop p ++ (tb.take p).map (· + u)).getD i 0))) (ew_zip (ev_var rfl) (ex_l e1 ha) (ev_var rfl) (sq_of upd_same) (by rw [nL_len, nL_len, hl]; omega)) (by omega) (fun _ _ => rfl) ?_) ?_)) ?_ (q _ e1)
    · intro i x y hi h1 h2
      rw [nL_get hi] at h1
      rw [nL_get (by omega)] at h2
      obtain rfl := Option.some.inj h1
      obtain rfl := Option.some.inj h2
      exact ⟨et_yes, fun _ => ev_eqv (ev_eq (x := nV (tb.getD i 0 + u * p / tb.length)) (ev_eqv (ev_I0 (ev_var rfl) (ev_var rfl)) rfl) (ev_var rfl) rfl) (congrArg V.bl dec_nV)⟩
    · rw [given_all, List.map_map]
      rfl
    · unfold rnd
      rw [if_pos hz', List.all_map]
      rfl)
def sp_check_houses (K : PySem.W.Frag) : Sp := PV 1 fun vs G v => ∃ (yh : V) (hs : List HM), vs = [yh] ∧ HsR K G yh hs ∧ v = .non
abbrev N_check_houses : List Str := ["houses", "index", "house"]
abbrev P_check_houses : List Str := ["houses"]
theorem sc_check_houses : FnScope N_check_houses P_check_houses (defScope s_check_houses) := ⟨rfl, rfl, rfl, by decide +kernel, rfl, by decide +kernel, by decide +kernel⟩
theorem F_check_houses {P : Program} {w : World} {K : PySem.W.Frag} {mg : Str → Option Value} {base : Heap} (T : Tx K w mg) : Kp P w K mg base 1 "check_houses" P_check_houses (sp_check_houses K) := by
  obtain ⟨fd, F⟩ := T.d_check_houses
  refine ⟨_, fd, T.g_check_houses, F.kp, F.bindsN (fun _ _ _ _ _ _ us hl => match us, hl with | [_], _ => rfl), F.ok (N := N_check_houses) sc_check_houses len_PV fun cdv A outer s H vs Q E hr hpre => ⟨_, PSs.nox (pss_cons (ps_if (PW.pt (pw_or (pt_not (pt_val (pe_callB call_isi (by rfl) T.f_isinstance (by decide +kernel) (pa_cons (pv 0) (pa_cons (pe_bltn (by rfl) T.f_tuple (v := .ty "tuple") (by decide +kernel) rfl) pa_nil))))) (pw_or1 (pt_not (pt_chain op_le op_le pe_int (pe_callB call_len_seq (by rfl) T.f_len (by decide +kernel) (pa_cons (pv 0) pa_nil)) (pe_globI T.m_MOST_HOUSES))))))
    (pss_one ps_never)
    pss_nil)
  (pss_one (ps_for PassesOwn.never rfl (pi_enumT (by rfl) T.f_enumerate (pa_cons (pv 0) pa_nil)) (pg_tup (n := 2) rfl (pgs_cons (pg_name (i := 1) sc_check_houses.nd rfl (Or.inl rfl)) (pgs_cons (pg_name (i := 2) sc_check_houses.nd rfl (Or.inl rfl)) pgs_nil)))
    (pss_one (ps_if (pt_not (pt_val (pe_callB call_isi (by rfl) T.f_isinstance (by decide +kernel) (pa_cons (pv 2) (pa_cons (pe_glob (by rfl) T.m_House (v := .ref _) rfl) pa_nil)))))
    (pss_one ps_never)
    pss_nil))))), ?_⟩⟩
  exact start_PV hpre (by
    rintro G v I Q hI ⟨yh, hs, rfl, ⟨p, xs, rfl, hx, hall, h3, h1⟩, rfl⟩ q
    refine go_skip hI (et_eqv (et_or (a := !true) (b := !(decide ((1 : Int) ≤ xs.length) && decide ((xs.length : Int) ≤ 3))) (et_not (et_B (ev_isTup (ev_var rfl) hx))) fun _ => et_not (et_test (ev_chain (x := .int 1) (y := .int xs.length) (z := .int 3) ev_c (ev_lenT (ev_var rfl) hx) rv_I0 fun _ => ⟨ev_c, rv_I0⟩))) ?_) ?_
    · rw [hall.len]
      have e1 : (1 : Int) ≤ (hs.length : Int) := by omega
      have e2 : (hs.length : Int) ≤ 3 := by omega
      simp only [e1, e2, decide_true]
      rfl
    · refine go_forS1 (α := Option V × Option V) (fun i x => [some (.ref p), x.1, x.2]) (fun _ _ => True) (none, none) rfl trivial hI (ek_enumT (ev_var rfl) hx) ?_ ?_
      · rintro i ⟨s1, s2⟩ x H H' hi _ eH y
        obtain ⟨x1, x2, y1, y2, y3, y4⟩ := ypair_names (K := K) (m := 1) (l := 2) (σ' := [some (.ref p), s1, s2]) y
        refine ⟨_, y3, y4, ?_⟩
        obtain ⟨h, hr1, hR⟩ := hall.at y2
        refine go_if (b := false) hI (et_eqv (et_not (a := true) (et_B (isHouse T (ev_var rfl) hR))) rfl) (fun z => by cases z) fun _ => go_next ?_
        dsimp only
        exact LN.mk (some x1, some x2) rfl rfl trivial
      · rintro ⟨s1, s2⟩ _
        exact fun H e i => q G (Ex.refl G) H e i)
def sp_check_steps (K : PySem.W.Frag) : Sp := PV 2 fun vs G v => ∃ (xh yh : V) (ss : List Sp1) (hs : List HM), vs = [xh, yh] ∧ StsR K G xh ss ∧ HsR K G yh hs ∧ OkS hs ss (hat hs 0) ∧ v = .non
abbrev N_check_steps : List Str := ["steps", "houses", "wrong"]
abbrev P_check_steps : List Str := ["steps", "houses"]
theorem sc_check_steps : FnScope N_check_steps P_check_steps (defScope s_check_steps) := ⟨rfl, rfl, rfl, by decide +kernel, rfl, by decide +kernel, by decide +kernel⟩
theorem F_check_steps {P : Program} {w : World} {K : PySem.W.Frag} {mg : Str → Option Value} {base : Heap} (T : Tx K w mg) (F_wrong_step : Kp P w K mg base 5 "wrong_step" P_wrong_step (sp_wrong_step K)) : Kp P w K mg base 6 "check_steps" P_check_steps (sp_check_steps K) := by
  obtain ⟨fd, F⟩ := T.d_check_steps
  refine ⟨_, fd, T.g_check_steps, F.kp, F.bindsN (fun _ _ _ _ _ _ us hl => match us, hl with | [_, _], _ => rfl), F.ok (N := N_check_steps) sc_check_steps len_PV fun cdv A outer s H vs Q E hr hpre => ⟨_, PSs.nox (pss_cons (ps_if (PW.pt (pw_or (pt_not (pt_val (pe_callB call_isi (by rfl) T.f_isinstance (by decide +kernel) (pa_cons (pv 0) (pa_cons (pe_bltn (by rfl) T.f_tuple (v := .ty "tuple") (by decide +kernel) rfl) pa_nil))))) (pw_or1 (pt_cmpR op_gt (pe_callB call_len_seq (by rfl) T.f_len (by decide +kernel) (pa_cons (pv 0) pa_nil)) (pe_globI T.m_MOST_STEPS) (nomark _)))))
    (pss_one ps_never)
    pss_nil)
  (pss_cons (ps_set (i := 2) sc_check_steps.nd rfl (.inl rfl) (pe_kall F_wrong_step (hr.mono (by decide)) (by rfl) (pa_cons (pv 0) (pa_cons (pv 1) pa_nil))))
  (pss_one (ps_if (pt_cmpR op_ge (pv 2) pe_int (nomark _))
    (pss_one ps_never)
    pss_nil)))), ?_⟩⟩
  exact start_PV hpre (by
    rintro G v I Q hI ⟨xh, yh, ss, hs, rfl, hS, hR, ok, rfl⟩ q
    obtain ⟨sp, sxs, rfl, hss, hsall, hs4⟩ := id hS
    refine go_skip hI (et_eqv (et_or (a := !true) (b := decide ((8 : Int) < (sxs.length : Int))) (et_not (et_B (ev_isTup (ev_var rfl) hss))) fun _ => et_test (ev_I0 (ev_lenT (ev_var rfl) hss) ev_c)) ?_) ?_
    · have := hsall.len
      have e : ¬ (8 : Int) < (sxs.length : Int) := by omega
      simp only [e, decide_false]
      rfl
    refine go_asg hI (v := .int (-1)) (ev_callV (vs := [.ref sp, yh]) (ea_cons (ev_var rfl) (ea_cons (ev_var rfl) ea_nil)) (sp_PV ⟨.ref sp, yh, ss, hs, rfl, hS, hR, ok, rfl⟩)) ?_
    refine go_if (b := false) hI (et_eqv (et_test (ev_I0 (ev_var rfl) ev_c)) rfl) (fun z => by cases z) fun _ => go_next (fun H e i => q G (Ex.refl G) H e i))
def sp_Move_value (K : PySem.W.Frag) : Sp := PV 2 fun vs G v => ∃ (x : V) (T1 U s n : Nat) (tb : List Nat), vs = [x, nV n] ∧ MovR K G x T1 U s tb ∧ 0 < T1 ∧ T1 < 2 ^ 30 ∧ tb.length = T1 ∧ s ≤ n ∧ n < 2 ^ 400 ∧ U < 2 ^ 400 ∧ v = nV (tb.getD ((n - s) % T1) 0 + (n - s) / T1 * U)
abbrev N_Move_value : List Str := ["self", "frame", "turns", "inner"]
abbrev P_Move_value : List Str := ["self", "frame"]
theorem sc_Move_value : FnScope N_Move_value P_Move_value (defScope s_Move_value) := ⟨rfl, rfl, rfl, by decide +kernel, rfl, by decide +kernel, by decide +kernel⟩
theorem M_value {P : Program} {w : World} {K : PySem.W.Frag} {mg : Str → Option Value} {base : Heap} (T : Tx K w mg) : Mp P w K mg base 1 (He.ga K "Move") "value" P_Move_value (sp_Move_value K) := by
  obtain ⟨fd, F⟩ := T.d_Move_value
  refine ⟨T.c_Move, _, fd, T.me_Move_value, F.bindsN (fun _ _ _ _ _ _ us hl => match us, hl with | [_, _], _ => rfl), F.ok (N := N_Move_value) sc_Move_value len_PV fun cdv A outer s H vs Q E hr hpre => ⟨_, PSs.nox (pss_cons (ps_if (pt_cmpR op_lt (pv 1) (pe_fld (pv 0) rfl) (nomark _))
    (pss_one (ps_ret pe_non))
    pss_nil)
  (pss_cons (ps_asg (pe_callB call_divmod (by rfl) T.f_divmod (by decide +kernel) (pa_cons (pe_op op_sub (pv 1) (pe_fld (pv 0) rfl)) (pa_cons (pe_fld (pv 0) rfl) pa_nil))) (pg_tup (n := 2) rfl (pgs_cons (pg_name (i := 2) sc_Move_value.nd rfl (Or.inl rfl)) (pgs_cons (pg_name (i := 3) sc_Move_value.nd rfl (Or.inl rfl)) pgs_nil))))
  (pss_one (ps_ret (pe_op op_add (pe_ix ix_list (pe_fld (pv 0) rfl) (pv 3) (fun _ _ => rfl)) (pe_op op_mulW (pv 2) (pe_fld (pv 0) rfl))))))), ?_⟩⟩
  exact start_PV hpre (by
    rintro G v I Q hI ⟨x, T1, U, s, n, tb, rfl, ⟨a, dx, hp, sp, tl, tn, gl, rfl, hF⟩, hT0, hT1, hl, hs, hn, hU, rfl⟩ q
    refine go_skip hI (et_eqv (et_test (ev_I0 (i := (n : Int)) (j := (s : Int)) (ev_var rfl) (ev_fld (ev_var rfl) hF.o T.c_Move T.n_Move_start rfl))) (by rw [decide_eq_false_iff_not]; omega)) ?_
    refine go_un2 hI (x := nV ((n - s) / T1)) (y := nV ((n - s) % T1)) (eu_eqv (eu_divmod (i := (n : Int) - (s : Int)) (j := (T1 : Int)) (ea_cons (ev_I0 (ev_var rfl) (ev_fld (ev_var rfl) hF.o T.c_Move T.n_Move_start rfl)) (ea_cons (ev_fld (ev_var rfl) hF.o T.c_Move T.n_Move_through rfl) ea_nil)) ⟨by omega, by omega⟩) ?_) ?_
    · rw [show (n : Int) - (s : Int) = ((n - s : Nat) : Int) by omega]
      rfl
    have hm : (n - s) % T1 < tb.length := by rw [hl]; exact Nat.mod_lt _ hT0
    refine go_retV hI (ev_I0 (ev_ixL (ev_fld (ev_var rfl) hF.o T.c_Move T.n_Move_table rfl) (ev_var rfl) hF.t (by rw [atI_nat, nL_get hm])) (ev_I (C := CMulW) (i := ((n - s) / T1 : Nat)) (j := (U : Int)) (ev_var rfl) (ev_fld (ev_var rfl) hF.o T.c_Move T.n_Move_becomes rfl) ?_)) rfl (q G (Ex.refl G))
    refine wide_mul (a := 400) (b := 400) ?_ ?_ (by decide) (by decide) (by decide)
    · rw [Int.natAbs_natCast]
      exact Nat.lt_of_le_of_lt (Nat.div_le_self _ _) (by omega)
    · rw [Int.natAbs_natCast]
      exact hU)
def sp_check_move (K : PySem.W.Frag) : Sp := PV 1 fun vs G v => ∃ (x : V) (T1 U s : Nat) (tb : List Nat), vs = [x] ∧ MovR K G x T1 U s tb ∧ v = .non
abbrev N_check_move : List Str := ["move"]
abbrev P_check_move : List Str := ["move"]
theorem sc_check_move : FnScope N_check_move P_check_move (defScope s_check_move) := ⟨rfl, rfl, rfl, by decide +kernel, rfl, by decide +kernel, by decide +kernel⟩
theorem F_check_move {P : Program} {w : World} {K : PySem.W.Frag} {mg : Str → Option Value} {base : Heap} (T : Tx K w mg) : Kp P w K mg base 1 "check_move" P_check_move (sp_check_move K) := by
  obtain ⟨fd, F⟩ := T.d_check_move
  refine ⟨_, fd, T.g_check_move, F.kp, F.bindsN (fun _ _ _ _ _ _ us hl => match us, hl with | [_], _ => rfl), F.ok (N := N_check_move) sc_check_move len_PV fun cdv A outer s H vs Q E hr hpre => ⟨_, PSs.nox (pss_one (ps_if (pt_not (pt_val (pe_callB call_isi (by rfl) T.f_isinstance (by decide +kernel) (pa_cons (pv 0) (pa_cons (pe_glob (by rfl) T.m_Move (v := .ref _) rfl) pa_nil)))))
    (pss_one ps_never)
    pss_nil)), ?_⟩⟩
  exact start_PV hpre (by
    rintro G v I Q hI ⟨x, T1, U, s, tb, rfl, hR, rfl⟩ q
    exact go_if (b := false) hI (et_eqv (et_not (a := true) (et_B (isMove T (ev_var rfl) hR))) rfl) (fun z => by cases z) fun _ => go_next (fun H e i => q G (Ex.refl G) H e i))
def tval (tb : List Nat) (T U s n : Nat) : Nat := tb.getD ((n - s) % T) 0 + (n - s) / T * U
def strI (tb : List Nat) (T U s e : Nat) : List Int := (List.range T).map fun t => (tval tb T U s (s + t + e) : Int) - (tb.getD t 0 : Nat)
def sp_stretches (K : PySem.W.Frag) : Sp := PL 2 fun vs G xs => ∃ (x : V) (T1 U s e : Nat) (tb : List Nat), vs = [x, nV e] ∧ MovR K G x T1 U s tb ∧ 0 < T1 ∧ T1 < 20000 ∧ tb.length = T1 ∧ s + T1 + e < 2 ^ 400 ∧ U < 2 ^ 400 ∧ xs = (strI tb T1 U s e).map V.int
abbrev N_stretches : List Str := ["move", "many", "turn", "known"]
abbrev P_stretches : List Str := ["move", "many"]
theorem sc_stretches : FnScope N_stretches P_stretches (defScope s_stretches) := ⟨rfl, rfl, rfl, by decide +kernel, rfl, by decide +kernel, by decide +kernel⟩
theorem F_stretches {P : Program} {w : World} {K : PySem.W.Frag} {mg : Str → Option Value} {base : Heap} (T : Tx K w mg) (M_value : Mp P w K mg base 1 (He.ga K "Move") "value" P_Move_value (sp_Move_value K)) : Kp P w K mg base 2 "stretches" P_stretches (sp_stretches K) := by
  obtain ⟨fd, F⟩ := T.d_stretches
  refine ⟨_, fd, T.g_stretches, F.kp, F.bindsN (fun _ _ _ _ _ _ us hl => match us, hl with | [_, _], _ => rfl), F.ok (N := N_stretches) sc_stretches len_PL fun cdv A outer s H vs Q E hr hpre => ⟨_, PSs.nox (pss_one (ps_ret (pe_lc (own := [("turn", 2), ("known", 3)]) rfl sc_stretches.nd (pi_enum (by rfl) T.f_enumerate (pa_cons (pe_fld (pv 0) rfl) pa_nil)) (blkOk_by (own := [("turn", 2), ("known", 3)]) (N := N_stretches) (sc := defScope s_stretches) (by decide +kernel)) (fun _ _ _ _ _ => (pg_tupK (K := K) rfl (n := 2) rfl (pgs_cons (pg_name (i := 2) sc_stretches.nd rfl (Or.inl rfl)) (pgs_cons (pg_name (i := 3) sc_stretches.nd rfl (Or.inl rfl)) pgs_nil)))) (fun _ _ _ _ _ => pts_nil) (fun _ _ _ _ _ => (pe_op op_sub (pe_km M_value (hr.mono (by decide)) (pv 0) (pa_cons (pe_op op_add (pe_op op_add (pe_fldK (K := K) rfl (pv 0) rfl) (pv 2)) (pv 1)) pa_nil)) (pv 3)))))), ?_⟩⟩
  exact start_PL hpre (by
    rintro G xs I Q hI ⟨x, T1, U, s, e, tb, rfl, hR, hT0, hT1, hl, hn, hU, rfl⟩ q
    obtain ⟨a, dx, hp, sp, tl, tn, gl, rfl, hF⟩ := id hR
    refine go_retL hI (xs := (strI tb T1 U s e).map V.int) (el_eqv (el_lcP (n := (nL tb).length) (fun _ => true) (fun i => .int ((tval tb T1 U s (s + i + e) : Int) - (tb.getD i 0 : Nat))) (ew_enum (ev_fld (ev_var rfl) hF.o T.c_Move T.n_Move_table rfl) hF.t) (by rw [nL_len]; omega) (fun _ _ => rfl) ?_) ?_) fun r hr => q r _ (Ex.new hr) hr upd_same
    · intro i x y hi h1 h2
      obtain rfl : nV i = x := Option.some.inj h1
      rw [nL_len] at hi
      rw [nL_get hi] at h2
      obtain rfl := Option.some.inj h2
      refine ⟨et_yes, fun _ => ev_I0 (i := (tval tb T1 U s (s + i + e) : Int)) (j := (tb.getD i 0 : Nat)) (ev_meth (dvs := []) (vs := [nV (s + i + e)]) (z := nV (tval tb T1 U s (s + i + e))) (ev_var rfl) hF.o rfl (ea_cons (ev_eqv (ev_I0 (ev_I0 (i := (s : Int)) (j := (i : Int)) (ev_fld (ev_var rfl) hF.o T.c_Move T.n_Move_start rfl) (ev_var rfl)) (ev_var rfl)) rfl) ea_nil) (sp_PV ⟨_, T1, U, s, s + i + e, tb, rfl, hR, hT0, by omega, hl, by omega, by omega, hU, rfl⟩)) (ev_var rfl)⟩
    · rw [given_all, nL_len, hl]
      unfold strI
      rw [List.map_map]
      rfl)
def sp_stretch (K : PySem.W.Frag) : Sp := PU 2 fun vs G xs => ∃ (x : V) (T1 U s e : Nat) (tb : List Nat) (lo hi : Int), vs = [x, nV e] ∧ MovR K G x T1 U s tb ∧ 0 < T1 ∧ T1 < 20000 ∧ tb.length = T1 ∧ s + T1 + e < 2 ^ 400 ∧ U < 2 ^ 400 ∧ (lo ∈ strI tb T1 U s e ∧ ∀ y ∈ strI tb T1 U s e, lo ≤ y) ∧ (hi ∈ strI tb T1 U s e ∧ ∀ y ∈ strI tb T1 U s e, y ≤ hi) ∧ xs = [.int lo, .int hi]
abbrev N_stretch : List Str := ["move", "many", "found"]
abbrev P_stretch : List Str := ["move", "many"]
theorem sc_stretch : FnScope N_stretch P_stretch (defScope s_stretch) := ⟨rfl, rfl, rfl, by decide +kernel, rfl, by decide +kernel, by decide +kernel⟩
theorem F_stretch {P : Program} {w : World} {K : PySem.W.Frag} {mg : Str → Option Value} {base : Heap} (T : Tx K w mg) (F_check_move : Kp P w K mg base 1 "check_move" P_check_move (sp_check_move K)) (F_check_number : Kp P w K mg base 3 "check_number" P_check_number (sp_check_number K)) (F_stretches : Kp P w K mg base 2 "stretches" P_stretches (sp_stretches K)) : Kp P w K mg base 4 "stretch" P_stretch (sp_stretch K) := by
  obtain ⟨fd, F⟩ := T.d_stretch
  refine ⟨_, fd, T.g_stretch, F.kp, F.bindsN (fun _ _ _ _ _ _ us hl => match us, hl with | [_, _], _ => rfl), F.ok (N := N_stretch) sc_stretch len_PU fun cdv A outer s H vs Q E hr hpre => ⟨_, PSs.nox (pss_cons (ps_expr (pe_kall F_check_move (hr.mono (by decide)) (by rfl) (pa_cons (pv 0) pa_nil)))
  (pss_cons (ps_expr (pe_kall F_check_number (hr.mono (by decide)) (by rfl) (pa_cons (pv 1) pa_nil)))
  (pss_cons (ps_set (i := 2) sc_stretch.nd rfl (.inl rfl) (pe_kall F_stretches (hr.mono (by decide)) (by rfl) (pa_cons (pv 0) (pa_cons (pv 1) pa_nil))))
  (pss_one (ps_ret (pe_tup (pa_cons (pe_callB (cr_min rfl) (by rfl) T.f_min (by decide +kernel) (pa_cons (pv 2) pa_nil)) (pa_cons (pe_callB (cr_max rfl) (by rfl) T.f_max (by decide +kernel) (pa_cons (pv 2) pa_nil)) pa_nil)))))))), ?_⟩⟩
  exact start_PU hpre (by
    rintro G xs I Q hI ⟨x, T1, U, s, e, tb, lo, hi, rfl, hR, hT0, hT1, hl, hn, hU, hlo, hhi, rfl⟩ q
    refine go_drop hI (ev_callV (vs := [x]) (ea_cons (ev_var rfl) ea_nil) (sp_PV ⟨x, T1, U, s, tb, rfl, hR, rfl⟩)) ?_
    refine go_drop hI (ev_callV (vs := [nV e]) (ea_cons (ev_var rfl) ea_nil) (sp_PV ⟨(e : Int), rfl, by omega, rfl⟩)) ?_
    refine go_asgL hI (xs := (strI tb T1 U s e).map V.int) (el_callP (vs := [x, nV e]) (ea_cons (ev_var rfl) (ea_cons (ev_var rfl) ea_nil)) ⟨x, T1, U, s, e, tb, rfl, hR, hT0, hT1, hl, hn, hU, rfl⟩) fun p hp => ?_
    have hne : 0 < (strI tb T1 U s e).length := List.length_pos_of_mem hlo.1
    refine go_retU hI (xs := [.int lo, .int hi]) (eu_tup (ea_cons (ev_cb (vs := [.ref p]) (ea_cons (ev_var rfl) ea_nil) fun H1 e1 Q k => ⟨p, _, rfl, ex_l e1 (sq_of upd_same), hne, fun m m1 m2 => ?_⟩) (ea_cons (ev_cb (vs := [.ref p]) (ea_cons (ev_var rfl) ea_nil) fun H1 e1 Q k => ⟨p, _, rfl, ex_l e1 (sq_of upd_same), hne, fun m m1 m2 => ?_⟩) ea_nil)) (show (2 : Nat) ≤ 100000 by decide)) fun r hr => ?_
    · have : m = lo := by
        have a1 := m2 lo hlo.1
        have a2 := hlo.2 m m1
        omega
      rw [this]
      exact k H1 (Ex.refl _)
    · have : m = hi := by
        have a1 := m2 hi hhi.1
        have a2 := hhi.2 m m1
        omega
      rw [this]
      exact k H1 (Ex.refl _)
    · obtain ⟨r1, r2⟩ := upd_none hr
      exact q r _ (Ex.mut (Ex.new hp) r1) r1 upd_same)
end Lm
end
section
set_option Elab.async false
set_option linter.all false
set_option maxRecDepth 100000
set_option maxHeartbeats 2000000
namespace Lm
open PySem PySem.Spec L2 Evl
local macro_rules | `(tactic| infer_instance) => `(tactic| first | (with_reducible exact ev_c) | ((with_reducible apply ev_var); exact rfl) | (with_reducible exact ea_nil) | (intro _; infer_instance) | ((with_reducible apply ev_I0) <;> try infer_instance) | ((with_reducible apply ev_I) <;> try infer_instance) | ((with_reducible apply ev_isInt) <;> try infer_instance) | ((with_reducible apply ev_isBool) <;> try infer_instance) | ((with_reducible apply ev_isStr) <;> try infer_instance) | ((with_reducible apply ev_isTup) <;> try infer_instance) | ((with_reducible apply ev_isN) <;> try infer_instance) | ((with_reducible apply ev_notN) <;> try infer_instance) | ((with_reducible apply ev_neg) <;> try infer_instance) | ((with_reducible apply ev_fld) <;> try infer_instance) | ((with_reducible apply ev_ixT) <;> try infer_instance) | ((with_reducible apply ev_ixL) <;> try infer_instance) | ((with_reducible apply ev_andV) <;> try infer_instance) | ((with_reducible apply ev_orV) <;> try infer_instance) | ((with_reducible apply ev_notV) <;> try infer_instance) | ((with_reducible apply ev_callV) <;> try infer_instance) | ((with_reducible apply ea_cons) <;> try infer_instance) | ((with_reducible apply et_test) <;> try infer_instance) | ((with_reducible apply et_B) <;> try infer_instance) | ((with_reducible apply et_not) <;> try infer_instance) | ((with_reducible apply et_and) <;> try infer_instance) | ((with_reducible apply et_or) <;> try infer_instance) | ((with_reducible apply ev_eq) <;> first | infer_instance | exact rfl | skip) | ((with_reducible apply ev_ne) <;> first | infer_instance | exact rfl | skip) | ((with_reducible apply eu_tup) <;> first | infer_instance | decide | skip) | ((with_reducible apply el_lst) <;> first | infer_instance | decide | skip))
def sp_Move___init__ (K : PySem.W.Frag) : Sp := PN (He.ga K "Move") 3 fun args G R => ∃ (xh yh : V) (ss : List Sp1) (hs : List HM) (s : Nat) (tb : List Nat), args = [yh, xh] ∧ StsR K G xh ss ∧ HsR K G yh hs ∧ OkS hs ss (hat hs 0) ∧ HsOk hs ∧ (∀ n, (val hs ss (hat hs 0) n = none) ↔ n < s) ∧
  0 < (thr hs ss (hat hs 0) 1 1).1 ∧ (thr hs ss (hat hs 0) 1 1).1 ≤ 60 ∧ tb.length = (thr hs ss (hat hs 0) 1 1).1 ∧ (∀ i, i < tb.length → val hs ss (hat hs 0) (s + i) = some (tb.getD i 0)) ∧ R = fun x G' => MovR K G' (.ref x) (thr hs ss (hat hs 0) 1 1).1 (thr hs ss (hat hs 0) 1 1).2 s tb
abbrev N_Move___init__ : List Str := ["self", "houses", "steps", "parts", "step", "turn", "part"]
abbrev P_Move___init__ : List Str := ["self", "houses", "steps"]
theorem sc_Move___init__ : FnScope N_Move___init__ P_Move___init__ (defScope s_Move___init__) := ⟨rfl, rfl, rfl, by decide +kernel, rfl, by decide +kernel, by decide +kernel⟩
theorem F_Move {P : Program} {w : World} {K : PySem.W.Frag} {mg : Str → Option Value} {base : Heap} (T : Tx K w mg) (F_house_behind : Kp P w K mg base 1 "house_behind" P_house_behind (sp_house_behind K)) (F_check_houses : Kp P w K mg base 1 "check_houses" P_check_houses (sp_check_houses K)) (F_check_steps : Kp P w K mg base 6 "check_steps" P_check_steps (sp_check_steps K)) (F_least_through : Kp P w K mg base 4 "least_through" P_least_through (sp_least_through K)) (F_first_kept : Kp P w K mg base 5 "first_kept" P_first_kept (sp_first_kept K)) (F_led_to : Kp P w K mg base 4 "led_to" P_led_to (sp_led_to K)) (F_divisors_of : Kp P w K mg base 1 "divisors_of" P_divisors_of (sp_divisors_of K)) (F_is_round : Kp P w K mg base 1 "is_round" P_is_round (sp_is_round K)) : Np P w K mg base 7 (He.ga K "Move") "Move" P_Move___init__ (sp_Move___init__ K) := by
  obtain ⟨fd, F⟩ := T.d_Move___init__
  obtain ⟨ds, hds, hb⟩ := F.binds1 (ps := P_Move___init__) 3 1 (by intro z; cases z) (by rfl) (fun _ _ _ _ _ _ _ us its hl hi => match us, its, hl, hi with | [_, _, _], [_], _, _ => ⟨_, rfl, rfl⟩)
  obtain rfl : ds = [] := by cases hds; rfl
  refine ⟨_, fd, T.mk_Move, T.m_Move, hb, F.ok (N := N_Move___init__) sc_Move___init__ len_PN fun cdv A outer s H vs Q E hr hpre => ⟨_, PSs.nox (pss_cons (ps_expr (pe_kall F_check_houses (hr.mono (by decide)) (by rfl) (pa_cons (pv 1) pa_nil)))
  (pss_cons (ps_expr (pe_kall F_check_steps (hr.mono (by decide)) (by rfl) (pa_cons (pv 2) (pa_cons (pv 1) pa_nil))))
  (pss_cons (ps_asg (pe_kall F_least_through (hr.mono (by decide)) (by rfl) (pa_cons (pv 2) (pa_cons (pv 1) pa_nil))) (pg_tup (n := 2) rfl (pgs_cons (pg_fld (pv 0)) (pgs_cons (pg_fld (pv 0)) pgs_nil))))
  (pss_cons (ps_if (pt_cmpR op_gt (pe_fld (pv 0) rfl) (pe_globI T.m_MOST_ROUND) (nomark _))
    (pss_one ps_never)
    pss_nil)
  (pss_cons (ps_fld (pv 0) (pv 1) rfl)
  (pss_cons (ps_fld (pv 0) (pv 2) rfl)
  (pss_cons (ps_fld (pv 0) (pe_kall F_first_kept (hr.mono (by decide)) (by rfl) (pa_cons (pv 2) (pa_cons (pv 1) pa_nil))) rfl)
  (pss_cons (ps_fld (pv 0) (pe_lc (own := [("turn", 5)]) rfl sc_Move___init__.nd (pi_range1 (by rfl) T.f_range (pa_cons (pe_fld (pv 0) rfl) pa_nil)) (blkOk_by (own := [("turn", 5)]) (N := N_Move___init__) (sc := defScope s_Move___init__) (by decide +kernel)) (fun _ _ _ _ _ => (pg_name (i := 5) sc_Move___init__.nd rfl (Or.inl rfl))) (fun _ _ _ _ _ => pts_nil) (fun _ _ _ _ _ => (pe_kall F_led_to (hr.mono (by decide)) (by rfl) (pa_cons (pv 2) (pa_cons (pv 1) (pa_cons (pe_op op_add (pe_fldK (K := K) rfl (pv 0) rfl) (pv 5)) pa_nil)))))) rfl)
  (pss_cons (ps_setLc (i := 3) (own := [("part", 6)]) rfl sc_Move___init__.nd rfl rfl (sw_true rfl rfl rfl (by decide +kernel)) (pi_list (pe_kall F_divisors_of (hr.mono (by decide)) (by rfl) (pa_cons (pe_fld (pv 0) rfl) pa_nil))) (blkOk_by (own := [("part", 6)]) (N := N_Move___init__) (sc := defScope s_Move___init__) (by decide +kernel)) (fun _ _ _ _ _ => (pg_name (i := 6) sc_Move___init__.nd rfl (Or.inl rfl))) (fun _ _ _ _ _ => (pts_one (pt_val (pe_kall F_is_round (hr.mono (by decide)) (by rfl) (pa_cons (pe_fldK (K := K) rfl (pv 0) rfl) (pa_cons (pe_fldK (K := K) rfl (pv 0) rfl) (pa_cons (pv 6) pa_nil))))))) (fun _ _ _ _ _ => (pv 6)))
  (pss_cons (ps_fld (pv 0) (pe_tup (pa_cons (pe_ix ix_list (pv 3) pe_int (fun _ _ => rfl)) (pa_cons (pe_op op_fdiv (pe_op op_mul (pe_fld (pv 0) rfl) (pe_ix ix_list (pv 3) pe_int (fun _ _ => rfl))) (pe_fld (pv 0) rfl)) pa_nil))) rfl)
  (pss_cons (ps_fld (pv 0) (pe_ix ix_tup (pv 1) pe_int (fun _ _ => rfl)) rfl)
  (pss_one (ps_for PassesOwn.never rfl (pi_tup (pv 2)) (pg_name (i := 4) sc_Move___init__.nd rfl (Or.inl rfl))
    (pss_one (ps_fld (pv 0) (pe_kall F_house_behind (hr.mono (by decide)) (by rfl) (pa_cons (pv 4) (pa_cons (pe_fld (pv 0) rfl) (pa_cons (pv 1) pa_nil)))) rfl))))))))))))))), ?_⟩⟩
  exact start_PN hpre (by
    rintro G0 R I Q x dx args hI hx rfl ⟨xh, yh, ss, hs, s, tb, rfl, hS, hR, ok, oh, hn, hT0, hT1, htl, htb, rfl⟩ q
    obtain ⟨sp, sxs, rfl, hss, hsall, hs4⟩ := id hS
    obtain ⟨hp, hxs, hx0, e1, hh, hat0, h0⟩ := hR.at (i := 0) (by obtain ⟨_, _, _, _, _, _, z⟩ := hR; omega)
    subst e1
    generalize hT : (thr hs ss (hat hs 0) 1 1).1 = T1 at hT0 hT1 htl q
    generalize hU : (thr hs ss (hat hs 0) 1 1).2 = U at q
    have e0 : ∀ o, Ex G0 (upd G0 x o) := fun o => Ex.new hx
    have cW := cl_wl (l := x) hI
    refine go_drop cW (ev_callV (vs := [.ref hp]) (ea_cons (ev_var rfl) ea_nil) (sp_PV ⟨_, hs, rfl, hR.mono (e0 _), rfl⟩)) ?_
    refine go_drop cW (ev_callV (vs := [.ref sp, .ref hp]) (ea_cons (ev_var rfl) (ea_cons (ev_var rfl) ea_nil)) (sp_PV ⟨_, _, ss, hs, rfl, hS.mono (e0 _), hR.mono (e0 _), ok, rfl⟩)) ?_
    refine go_fldT hI (x := nV T1) (y := nV U) (eu_callP (vs := [.ref sp, .ref hp]) (ea_cons (ev_var rfl) (ea_cons (ev_var rfl) ea_nil)) ⟨_, _, ss, hs, rfl, hS.mono (e0 _), hR.mono (e0 _), ok, oh, by rw [hT, hU]⟩) (fun _ => ev_var rfl) T.c_Move T.n_Move_through T.n_Move_becomes (show (0 : Nat) < 900 by decide) (show (1 : Nat) < 1000 by decide) ?_
    refine go_skip cW (et_eqv (et_test (ev_I0 (i := (T1 : Int)) (ev_fld (ev_var rfl) upd_same T.c_Move T.n_Move_through rfl) ev_c)) (by rw [decide_eq_false_iff_not]; omega)) ?_
    refine go_fldO hI (v := .ref hp) (ev_var rfl) (ev_var rfl) T.c_Move T.n_Move_homes (show (2 : Nat) < 1000 by decide) ?_
    refine go_fldO hI (v := .ref sp) (ev_var rfl) (ev_var rfl) T.c_Move T.n_Move_path (show (3 : Nat) < 1000 by decide) ?_
    refine go_fldO hI (v := nV s) (ev_callV (vs := [.ref sp, .ref hp]) (ea_cons (ev_var rfl) (ea_cons (ev_var rfl) ea_nil)) (sp_PV ⟨_, _, ss, hs, s, rfl, hS.mono (e0 _), hR.mono (e0 _), ok, hn, rfl⟩)) (ev_var rfl) T.c_Move T.n_Move_start (show (4 : Nat) < 1000 by decide) ?_
    refine go_fldL hI (xs := nL tb) (el_eqv (el_lcF (n := T1) (fun _ => true) (fun i => nV (tb.getD i 0)) (fun i => nV i) (ew_rng (ea_cons (ev_fld (ev_var rfl) upd_same T.c_Move T.n_Move_through rfl) ea_nil) (by omega)) (by omega) (fun _ => rfl) ?_) ?_) (fun _ => ev_var rfl) T.c_Move T.n_Move_table (show (5 : Nat) < 1000 by decide) fun tl htl1 htlx => ?_
    · intro i hi
      refine ⟨et_yes, fun _ => ev_callV (vs := [.ref sp, .ref hp, nV (s + i)]) (ea_cons (ev_var rfl) (ea_cons (ev_var rfl) (ea_cons (ev_eqv (ev_I0 (i := (s : Int)) (j := (i : Int)) (ev_fld (ev_var rfl) upd_same T.c_Move T.n_Move_start rfl) (ev_var rfl)) rfl) ea_nil))) (sp_PV ⟨_, _, ss, hs, s + i, rfl, hS.mono (e0 _), hR.mono (e0 _), ok, ?_⟩)⟩
      rw [htb i (by omega)]
      rfl
    · rw [given_all, ← htl]
      unfold nL
      apply List.ext_getElem
      · simp
      · intro i h1 h2
        have hi : i < tb.length := by simpa using h1
        simp [List.getD, hi]
    have e1 : Ex G0 (upd G0 tl (.lst (nL tb))) := Ex.new htl1
    have hx1 : upd G0 tl (.lst (nL tb)) x = none := by rw [upd_ne (fun z => htlx z.symm)]; exact hx
    have htl2 : upd G0 tl (.lst (nL tb)) tl = some (.lst (nL tb)) := upd_same
    generalize upd G0 tl (.lst (nL tb)) = G1 at e1 hx1 htl2 ⊢
    refine go_asgL cW (xs := nL ((divs T1).filter (rnd tb U))) (el_eqv (el_lcA (xs := nL (divs T1)) (fun i => rnd tb U ((divs T1).getD i 0)) (fun i => nV ((divs T1).getD i 0)) (ew_listN (el_callP (vs := [nV T1]) (ea_cons (ev_fld (ev_var rfl) upd_same T.c_Move T.n_Move_through rfl) ea_nil) ⟨T1, rfl, hT0, by omega, rfl⟩)) ?_ (fun _ => rfl) ?_) ?_) fun pl hpl => ?_
    · rw [nL_len]
      have : (divs T1).length ≤ ((List.range T1).map (· + 1)).length := List.length_filter_le _ _
      rw [List.length_map, List.length_range] at this
      omega
    · intro i y hy
      have hi : i < (divs T1).length := by
        have := (List.getElem?_eq_some_iff.mp hy).1
        rwa [nL_len] at this
      rw [nL_get hi] at hy
      obtain rfl := Option.some.inj hy
      have hd : (divs T1).getD i 0 ∈ divs T1 := by
        rw [List.getD_eq_getElem?_getD, List.getElem?_eq_getElem hi]
        exact List.getElem_mem hi
      obtain ⟨d1, d2, d3⟩ := mem_divs.mp hd
      exact ⟨et_B (ev_callV (vs := [.ref tl, nV U, nV ((divs T1).getD i 0)]) (ea_cons (ev_fld (ev_var rfl) upd_same T.c_Move T.n_Move_table rfl) (ea_cons (ev_fld (ev_var rfl) upd_same T.c_Move T.n_Move_becomes rfl) (ea_cons (ev_var rfl) ea_nil))) (sp_PV ⟨tl, tb, U, _, rfl, sq_of (by rw [upd_ne htlx]; exact htl2), by omega, by omega, by omega, rfl⟩)), fun _ => ev_var rfl⟩
    · rw [nL_len, given_filter]
    obtain ⟨hpl0, hplx⟩ := upd_none hpl
    rw [upd_comm (fun z => hplx z.symm)]
    have hTm : T1 ∈ (divs T1).filter (rnd tb U) := List.mem_filter.mpr ⟨mem_divs.mpr ⟨hT0, Nat.le_refl _, Nat.mod_self _⟩, by rw [← htl]; exact rnd_all (by omega)⟩
    obtain ⟨d, ds, hd⟩ : ∃ d ds, (divs T1).filter (rnd tb U) = d :: ds := by
      cases e : (divs T1).filter (rnd tb U) with
      | nil => rw [e] at hTm; cases hTm
      | cons d ds => exact ⟨d, ds, rfl⟩
    have hdm : d ∈ divs T1 := (List.mem_filter.mp (show d ∈ (divs T1).filter (rnd tb U) by rw [hd]; exact List.mem_cons_self ..)).1
    obtain ⟨d1, d2, d3⟩ := mem_divs.mp hdm
    rw [hd]
    have e2 : Ex G0 (upd G1 pl (.lst (nL (d :: ds)))) := Ex.mut e1 (fresh_back e1 hpl0)
    have hx2 : upd G1 pl (.lst (nL (d :: ds))) x = none := by rw [upd_ne (fun z => hplx z.symm)]; exact hx1
    have hpl2 : upd G1 pl (.lst (nL (d :: ds))) pl = some (.lst (nL (d :: ds))) := upd_same
    have htl3 : upd G1 pl (.lst (nL (d :: ds))) tl = some (.lst (nL tb)) := by rw [upd_ne (fun z => by rw [← z, htl2] at hpl0; cases hpl0)]; exact htl2
    generalize upd G1 pl (.lst (nL (d :: ds))) = G2 at e2 hx2 hpl2 htl3 ⊢
    clear hpl hd hdm hTm
    have hix : ∀ o, Ev (tOp (rIxL K) (tVar 3) (tC (.int 0))) ((start N_Move___init__ [.ref x, .ref hp, .ref sp]).set 3 (some (.ref pl))) (upd G2 x o) (nV d) := fun o => ev_ixL (ev_var rfl) ev_c (sq_of (by rw [upd_ne hplx]; exact hpl2)) (by show atI (nL (d :: ds)) ((0 : Nat) : Int) = _; rw [atI_nat]; rfl)
    refine go_fldU hI (xs := [nV d, nV (U * d / T1)]) (eu_tup (ea_cons (hix _) (ea_cons (ev_eqv (ev_I (i := (U : Int) * (d : Int)) (j := (T1 : Int)) (ev_I (i := (U : Int)) (j := (d : Int)) (ev_fld (ev_var rfl) upd_same T.c_Move T.n_Move_becomes rfl) (hix _) (Or.inr ⟨by omega, by omega⟩)) (ev_fld (ev_var rfl) upd_same T.c_Move T.n_Move_through rfl) ⟨by omega, by omega⟩) rfl) ea_nil)) (show (2 : Nat) ≤ 100000 by decide)) (fun _ => ev_var rfl) T.c_Move T.n_Move_turn (show (6 : Nat) < 1000 by decide) fun tn htn htnx => ?_
    have e3 : Ex G0 (upd G2 tn (.tup [nV d, nV (U * d / T1)])) := Ex.mut e2 (fresh_back e2 htn)
    have hx3 : upd G2 tn (.tup [nV d, nV (U * d / T1)]) x = none := by rw [upd_ne (fun z => htnx z.symm)]; exact hx2
    have htl4 : upd G2 tn (.tup [nV d, nV (U * d / T1)]) tl = some (.lst (nL tb)) := by rw [upd_ne (fun z => by rw [← z, htl3] at htn; cases htn)]; exact htl3
    generalize upd G2 tn (.tup [nV d, nV (U * d / T1)]) = G3 at e3 hx3 htl4 ⊢
    have e4 : ∀ o, Ex G0 (upd G3 x o) := fun o => e3.trans (Ex.new hx3)
    refine go_fldO hI (v := hx0) (ev_ixT (ev_var rfl) ev_c (ex_t (e4 _) hh) hat0) (ev_var rfl) T.c_Move T.n_Move_goal (show (7 : Nat) < 1000 by decide) ?_
    show Go (Wl x I) _ _ _ (upd G3 x (.ins (He.ga K "Move") dx [("through", nV T1), ("becomes", nV U), ("homes", .ref hp), ("path", .ref sp), ("start", nV s), ("table", .ref tl), ("turn", .ref tn), ("goal", hx0)]))
    refine go_forP1 (α := V × HM × Option V) (Gs := G3) (fun i a => [some (.ref x), some (.ref hp), some (.ref sp), some (.ref pl), a.2.2, none, none]) (fun i a => upd G3 x (.ins (He.ga K "Move") dx [("through", nV T1), ("becomes", nV U), ("homes", .ref hp), ("path", .ref sp), ("start", nV s), ("table", .ref tl), ("turn", .ref tn), ("goal", a.1)])) (fun i a => HouR K G3 a.1 a.2.1 ∧ OkS hs (ss.drop i) a.2.1) (hx0, hat hs 0, none) rfl rfl ⟨h0.mono e3, ok⟩ cW (ek_tup (ev_var rfl) (ex_t e3 hss)) (fun i a _ => Ex.new hx3) ?_ ?_
    · rintro i ⟨z, m, s1⟩ y H H' hi ⟨w1, w2⟩ eH yy
      dsimp only at w1 w2
      obtain ⟨y1, y2, y3⟩ := yat_name (m := 4) (σ' := [some (.ref x), some (.ref hp), some (.ref sp), some (.ref pl), s1, none, none]) yy
      refine ⟨_, y2, y3, ?_⟩
      obtain ⟨st, hst, p, rfl, hpv⟩ := hsall.at y1
      have hlt := (List.getElem?_eq_some_iff.mp hst).1
      have hdr : ss.drop i = st :: ss.drop (i + 1) := by
        rw [List.drop_eq_getElem_cons hlt]
        congr 1
        rw [List.getElem?_eq_getElem hlt] at hst
        exact Option.some.inj hst
      rw [hdr] at w2
      obtain ⟨w4, w5⟩ := w2
      obtain ⟨z2, z3, z4⟩ := ev_behindE (G0 := G3) (Ex.new hx3) (G := upd G3 x (.ins (He.ga K "Move") dx [("through", nV T1), ("becomes", nV U), ("homes", .ref hp), ("path", .ref sp), ("start", nV s), ("table", .ref tl), ("turn", .ref tn), ("goal", z)])) (ts := tCons (tVar 4) (tCons (tFld K (tVar 0) "goal") (tCons (tVar 1) tNil))) (σ := [some (.ref x), some (.ref hp), some (.ref sp), some (.ref pl), some (.ref p), none, none]) w1 (hR.mono e3) w4 (ex_t e3 hpv) (ea_cons (ev_var rfl) (ea_cons (ev_fld (ev_var rfl) upd_same T.c_Move T.n_Move_goal rfl) (ea_cons (ev_var rfl) ea_nil)))
      refine go_fldE hI z4 (ev_var rfl) T.c_Move T.n_Move_goal (show (8 : Nat) < 1000 by decide) ?_
      dsimp only
      exact LN.mk (z2, nextH hs m st, some (.ref p)) rfl rfl ⟨z3, w5⟩
    · rintro ⟨z, m, s1⟩ _
      refine gov_out hI (q _ (e4 _) ⟨x, dx, hp, sp, tl, tn, z, rfl, upd_same, sq_of (by rw [upd_ne htlx]; exact htl4)⟩))
end Lm
end
section
set_option Elab.async false
set_option linter.all false
set_option maxRecDepth 100000
set_option maxHeartbeats 2000000
namespace Lm
open PySem PySem.Spec L2 Evl
/-! ### a hidden list taken into what is known for a while -/
def Kn (a : Addr) (I : Hp → Hp → Prop) : Hp → Hp → Prop := fun G H => G a ≠ none ∧ I (del G a) H
theorem cl_kn {a : Addr} {I : Hp → Hp → Prop} (c : Cl I) : Cl (Kn a I) := fun G H G' H' s ⟨n, i⟩ => ⟨by
    cases h : G a with
    | none => exact absurd h n
    | some o => (rw [s.1 a o h]; exact (fun z => by cases z)), c _ _ _ _ ⟨ex_del s.1, s.2.1, del_ex.trans s.2.2.1, fun b o h1 h2 => by
      by_cases q : b = a
      · subst q
        exact del_same
      · rw [del_ne q] at h2 ⊢
        exact s.2.2.2 b o h1 h2⟩ i⟩
def T3 (x y z : Nat) : HO := .lst [nV x, nV y, nV z]
section
variable {K : PySem.W.Frag} {I : Hp → Hp → Prop} {σ : St} {G : Hp} {ta tb tc te tv tl : TE} {tr ts : TA} {tt : TT} {x y z v : V} {D : Ends} {tu tw tz t : TS} {R : V → Hp → Prop} {vs xs ys : List V} {a p : Addr} {Q : VK} {wi : TI} {g : TG} {n : Nat}
  {Y : Nat → Hp → V → Hp → Prop}
theorem go_know (va : Va a I) (k : ∀ x y z : Nat, G a = none → Go (Kn a I) t D σ (upd G a (T3 x y z))) : Go I t D σ G := fun H e i => by
  obtain ⟨ga, x, y, z, hx, hy, hz, ha⟩ := va.has _ _ i
  obtain ⟨x, rfl⟩ := Int.eq_ofNat_of_zero_le hx
  obtain ⟨y, rfl⟩ := Int.eq_ofNat_of_zero_le hy
  obtain ⟨z, rfl⟩ := Int.eq_ofNat_of_zero_le hz
  refine k x y z ga H (fun b o hb => ?_) ⟨(by rw [upd_same]; exact (fun z => by cases z)), by rw [del_upd, del_none ga]; exact i⟩
  by_cases q : b = a
  · subst q
    rw [upd_same] at hb
    rw [ha]
    exact hb
  · rw [upd_ne q] at hb
    exact e b o hb
theorem gov_kn (h : GoV I Q v (del G a)) : GoV (Kn a I) Q v G := fun H e i => h H (del_ex.trans e) i.2
theorem kn_put (va : Va a I) {H : Hp} {x y z : Nat} {o : HO} (i : Kn a I G H) : Kn a I (upd G a o) (upd H a (T3 x y z)) := ⟨(by rw [upd_same]; exact (fun z => by cases z)), by rw [del_upd]; exact va.put _ _ _ _ _ (Int.natCast_nonneg x) (Int.natCast_nonneg y) (Int.natCast_nonneg z) i.2⟩
/-- l[j] = e -/
theorem go_setL {j : Nat} (hI : Cl I) (hW : ∀ H, I G H → I (upd G p (.lst (xs.set j v))) (upd H p (.lst (xs.set j v)))) (hp : G p = some (.lst xs)) (h : Ev te σ G v) (ho : Ev ta σ G (.ref p)) (hj : Ev tb σ G (.int (j : Int))) (hl : j < xs.length)
    (k : Go I tz D σ (upd G p (.lst (xs.set j v)))) : Go I (tSeq (tAsg te (gSub ta tb rSetL)) tz) D σ G := fun H e i => h H e _ fun H1 e1 => ho H1 (e.trans e1) _ fun H2 e2 => hj H2 ((e.trans e1).trans e2) _ fun H3 e3 => by
  have e4 := ((e.trans e1).trans e2).trans e3
  refine ⟨p, xs, (j : Int), j, rfl, rfl, e4 p _ hp, ixN_nat hl, k _ (fun b o hb => ?_) (hW _ (hI _ _ _ _ (Stp.ex e ((e1.trans e2).trans e3)) i))⟩
  by_cases q : b = p
  · subst q
    rw [upd_same] at hb ⊢
    exact hb
  · rw [upd_ne q] at hb ⊢
    exact e4 b o hb
/-- l[j], d = a new pair -/
theorem go_setL2 {j m : Nat} (hI : Cl I) (hW : ∀ H, I G H → I (upd G p (.lst (xs.set j x))) (upd H p (.lst (xs.set j x)))) (hp : G p = some (.lst xs)) (h : EvU te σ G [x, y]) (ho : ∀ G', Ev ta σ G' (.ref p)) (hj : ∀ G', Ev tb σ G' (.int (j : Int))) (hl : j < xs.length)
    (k : Go I tz D (σ.set m (some y)) (upd G p (.lst (xs.set j x)))) : Go I (tSeq (tAsg te (gTup K 2 (gCons (gSub ta tb rSetL) (gCons (gName m) gNil)))) tz) D σ G := fun H e i => h H e _ fun r H1 hr e1 h1 => by
  refine ⟨r, [x, y], rfl, st_of h1, rfl, x, [y], rfl, ho H1 H1 (Ex.refl _) _ fun H2 e2 => hj H2 H2 (Ex.refl _) _ fun H3 e3 => ?_⟩
  have e4 := ((e.trans e1).trans e2).trans e3
  refine ⟨p, xs, (j : Int), j, rfl, rfl, e4 p _ hp, ixN_nat hl, y, [], rfl, rfl, k _ (fun b o hb => ?_) (hW _ (hI _ _ _ _ (Stp.ex e ((e1.trans e2).trans e3)) i))⟩
  by_cases q : b = p
  · subst q
    rw [upd_same] at hb ⊢
    exact hb
  · rw [upd_ne q] at hb ⊢
    exact e4 b o hb
/-! ### a comprehension whose items are made by calls that I minds -/
def EvWI (I : Hp → Hp → Prop) (wi : TI) (σ : St) (G : Hp) (RW : Nat → (Nat → Hp → V → Hp → Prop) → Hp → Prop) : Prop := ∀ H, Ex G H → I G H → ∀ R : It → Hp → Prop,
  (∀ J (Gd : Hp → Prop) n Y G' H2, Ex G G' → Ex G' H2 → I G' H2 → Walk J n Gd Y → (∀ H3, Ex G' H3 → Gd H3) → RW n Y G' → R J H2) → wi σ H R
def Hd (D : Addr) (acc : List V) (I : Hp → Hp → Prop) : Hp → Hp → Prop := fun G H => G D = none ∧ H D = some (.lst acc) ∧ I G (del H D)
theorem cl_hd {D : Addr} {acc : List V} (c : Cl I) : Cl (Hd D acc I) := fun G H G' H' s ⟨i1, e, i3⟩ => ⟨s.2.2.2 D _ e i1, s.2.1 _ _ e, by
  have h := s.del (l := D)
  rw [del_none i1, del_none (s.2.2.2 D _ e i1)] at h
  exact c _ _ _ _ h i3⟩
theorem va_hd {D : Addr} {acc : List V} (h : Va a I) (n : a ≠ D) : Va a (Hd D acc I) := ⟨fun G H i => by
  obtain ⟨g, x, y, z, hx, hy, hz, e⟩ := h.has _ _ i.2.2
  rw [del_ne n] at e
  exact ⟨g, x, y, z, hx, hy, hz, e⟩, fun G H x y z hx hy hz i => ⟨i.1, by rw [upd_ne (fun q => n q.symm)]; exact i.2.1, by rw [del_updne n]; exact h.put _ _ _ _ _ hx hy hz i.2.2⟩⟩
theorem ek_wi {n : Nat} (hI : Cl I) (h : EvK wi σ G n Y) : EvWI I wi σ G fun m Z G' => m = n ∧ Z = Y ∧ G' = G := fun H e i R q => by
  obtain ⟨J, Gd, w, hg, hw⟩ := h
  exact hw H e R fun H2 e2 => q J Gd n Y G H2 (Ex.refl _) (e.trans e2) (hI _ _ _ _ (Stp.ex e e2) i) w hg ⟨rfl, rfl, rfl⟩
/-- range(e), e by a call -/
theorem wi_rng {P : Nat → Prop} (hI : Cl I) (h : EvAI I ts σ G fun vs G' => ∃ m : Nat, vs = [nV m] ∧ P m ∧ m ≤ 100000 ∧ G' = G) : EvWI I (iRng1 ts) σ G fun m Z G' => P m ∧ Z = (YFn fun i => nV i) ∧ G' = G := fun H e i R q => h H e i _ fun vs G' H1 e1 f1 i1 ⟨m, ev, hm, hz, eG⟩ => by
  subst ev
  refine ⟨(m : Int), rfl, by omega, by omega, ?_⟩
  rw [Int.toNat_natCast]
  exact q _ (fun _ => True) m _ G' H1 e1 f1 i1 (walk_range.mono (fun _ h => h) fun i H x H' _ _ y => ⟨y.1, y.2.trans (by show V.int (0 + (i : Int)) = V.int (i : Int); rw [Int.zero_add])⟩) (fun _ _ => trivial) ⟨hm, rfl, eG⟩
theorem ei_lc {RW : Nat → (Nat → Hp → V → Hp → Prop) → Hp → Prop} {ws : List Nat} (hI : Cl I) (h : EvWI I wi σ G RW)
    (k : ∀ n Y G', Ex G G' → RW n Y G' → n ≤ 40000 ∧ ∃ LI : Nat → List V → Hp → Prop, LI 0 [] G' ∧
      (∀ I', Cl I' → (∀ a, Va a I → Va a I') → ∀ i acc Gi, i < n → Ex G' Gi → LI i acc Gi → acc.length = i → ∀ x H H', Y i H x H' → ∃ σ2, (∀ Q : St → Hp → Prop, Q σ2 H' → g x (wipe σ ws) H' Q) ∧ H' = H ∧ wipe σ2 ws = wipe σ ws ∧ EvI I' te σ2 Gi fun y G2 => LI (i + 1) (acc ++ [y]) G2) ∧
      (∀ acc G2 p, Ex G' G2 → acc.length = n → LI n acc G2 → G2 p = none → R (.ref p) (upd G2 p (.lst acc)))) :
    EvI I (tLc wi g tYes te ws) σ G R := fun H e i Q q => h H e i _ fun J Gd n Y G' H1 e1 f1 i1 w hg rw Dl hD => by
  obtain ⟨hn, LI, l0, step, fin⟩ := k n Y G' e1 rw
  have hg1 : G' Dl = none := fresh_back f1 hD
  obtain ⟨Pv, hPv⟩ : ∃ Pv : Nat → Hp → Prop, Pv = fun i H => ∃ acc Gi, H Dl = some (.lst acc) ∧ acc.length = i ∧ Ex G' Gi ∧ Gi Dl = none ∧ Ex Gi H ∧ I Gi (del H Dl) ∧ LI i acc Gi := ⟨_, rfl⟩
  refine lc_it w Pv (by rw [hPv]; exact ⟨[], G', upd_same, rfl, Ex.refl _, hg1, f1.trans (Ex.new hD), (by rw [del_upd, del_none hD]; exact i1), l0⟩) (fun i H' _ j => ?_) (fun i x H' H2 hi j y => ?_) (fun H' j => ?_)
  · rw [hPv] at j
    obtain ⟨_, _, _, _, e2, _, e3, _⟩ := j
    exact hg _ (e2.trans e3)
  · have j' := j
    rw [hPv] at j'
    obtain ⟨acc, Gi, p1, p2, p3, p4, p5, p6, p7⟩ := j'
    obtain ⟨σ2, s1, s2, s3, s4⟩ := step (Hd Dl acc I) (cl_hd hI) (fun a va => va_hd va fun z => by
      obtain ⟨_, _, _, _, _, _, _, ha⟩ := va.has _ _ p6
      rw [z, del_same] at ha
      cases ha) i acc Gi hi p3 p7 p2 x H' H2 y
    subst s2
    refine s1 _ ⟨s3, ?_⟩
    show te σ2 H2 fun y H4 => ∃ acc, H4 Dl = some (.lst acc) ∧ acc.length < sizeLine ∧ Pv (i + 1) (upd H4 Dl (.lst (acc ++ [y])))
    refine s4 H2 p5 ⟨p4, p1, p6⟩ _ fun y G2 H4 e2 f2 i2 l2 => ⟨acc, i2.2.1, sz_lt (by omega), ?_⟩
    rw [hPv]
    exact ⟨acc ++ [y], G2, upd_same, by rw [List.length_append, p2]; rfl, p3.trans e2, i2.1, f2.mut i2.1, by rw [del_upd]; exact i2.2.2, l2⟩
  · rw [hPv] at j
    obtain ⟨acc, Gi, p1, p2, p3, p4, p5, p6, p7⟩ := j
    have s : Stp Gi (del H' Dl) (upd Gi Dl (.lst acc)) H' := Stp.take (fun b o hb => by rw [del_ne (ne_of_none hb p4)]; exact p5 b o hb) del_same del_ex p1
    exact q _ _ H' (e1.trans (p3.trans s.1)) s.2.2.1 (hI _ _ _ _ s p6) (fin acc Gi Dl p3 p2 p7 p4)
end
end Lm
end
section
set_option Elab.async false
set_option linter.all false
set_option maxRecDepth 100000
set_option maxHeartbeats 2000000
namespace Lm
open PySem PySem.Spec L2 Evl
local macro_rules | `(tactic| infer_instance) => `(tactic| first | (with_reducible exact ev_c) | ((with_reducible apply ev_var); exact rfl) | (with_reducible exact ea_nil) | (intro _; infer_instance) | ((with_reducible apply ev_I0) <;> try infer_instance) | ((with_reducible apply ev_I) <;> try infer_instance) | ((with_reducible apply ev_isInt) <;> try infer_instance) | ((with_reducible apply ev_isBool) <;> try infer_instance) | ((with_reducible apply ev_isStr) <;> try infer_instance) | ((with_reducible apply ev_isTup) <;> try infer_instance) | ((with_reducible apply ev_isN) <;> try infer_instance) | ((with_reducible apply ev_notN) <;> try infer_instance) | ((with_reducible apply ev_neg) <;> try infer_instance) | ((with_reducible apply ev_fld) <;> try infer_instance) | ((with_reducible apply ev_ixT) <;> try infer_instance) | ((with_reducible apply ev_ixL) <;> try infer_instance) | ((with_reducible apply ev_andV) <;> try infer_instance) | ((with_reducible apply ev_orV) <;> try infer_instance) | ((with_reducible apply ev_notV) <;> try infer_instance) | ((with_reducible apply ev_callV) <;> try infer_instance) | ((with_reducible apply ea_cons) <;> try infer_instance) | ((with_reducible apply et_test) <;> try infer_instance) | ((with_reducible apply et_B) <;> try infer_instance) | ((with_reducible apply et_not) <;> try infer_instance) | ((with_reducible apply et_and) <;> try infer_instance) | ((with_reducible apply et_or) <;> try infer_instance) | ((with_reducible apply ev_eq) <;> first | infer_instance | exact rfl | skip) | ((with_reducible apply ev_ne) <;> first | infer_instance | exact rfl | skip) | ((with_reducible apply eu_tup) <;> first | infer_instance | decide | skip) | ((with_reducible apply el_lst) <;> first | infer_instance | decide | skip))
def PLX (n : Nat) (pre : List V → Hp → (List V → Prop) → Prop) : Sp := fun vs H Q _ => vs.length = n ∧ ∃ G R, Ex G H ∧ pre vs G R ∧ ∀ p H' xs, R xs → H p = none → Ex H H' → H' p = some (.lst xs) → Q (.ref p) H'
theorem len_PLX {n : Nat} {pre : List V → Hp → (List V → Prop) → Prop} : ∀ vs H Q E, PLX n pre vs H Q E → vs.length = n := fun _ _ _ _ h => h.1
theorem start_PLX {σ : St} {vs : List V} {pre : List V → Hp → (List V → Prop) → Prop} {t : TS} {H : Hp} {Q : VK} {E : XK} {n : Nat} (h : PLX n pre vs H Q E)
    (k : ∀ G R I Q, Cl I → pre vs G R → (∀ p G' xs, Ex G G' → G p = none → R xs → G' p = some (.lst xs) → GoV I Q (.ref p) G') → Go I t { nx := fun _ H' => Q .non H', rt := Q } σ G) : t { nx := fun _ H' => Q .non H', rt := Q } σ H := by
  obtain ⟨_, G, R, e, p, q⟩ := h
  exact k G R (Stp G H) Q cl_stp p (fun p G' xs _ hp hr h' H' e' i => q p H' xs hr (stp_fresh i hp h') i.2.1 (e' p _ h')) H e (Stp.refl e)
theorem go_forNP {K : PySem.W.Frag} {I : Hp → Hp → Prop} {σ : St} {G : Hp} {tl : TE} {D : Ends} {tu tz : TS} {xs : List V} {g : TG} {α : Type} (S : Addr → Nat → α → St) (P : Addr → Nat → α → Hp) (W : Addr → Nat → α → Prop) (hI : Cl I) (h : EvL tl σ G xs)
    (h0 : ∀ p, G p = none → ∃ a0, σ = S p 0 a0 ∧ upd G p (.lst xs) = P p 0 a0 ∧ W p 0 a0) (hE : ∀ p i a, W p i a → (P p i a) p = some (.lst xs))
    (hs : ∀ p i a x H, G p = none → xs[i]? = some x → W p i a → Ex (P p i a) H → ∃ σ2, (∀ Q : St → Hp → Prop, Q σ2 H → g x (S p i a) H Q) ∧ Go I tu { D with nx := LN I (S p) (P p) (W p) (i + 1), ct := LN I (S p) (P p) (W p) (i + 1), bk := tz D } σ2 (P p i a))
    (hd : ∀ p a, G p = none → W p xs.length a → Go I tz D (S p xs.length a) (P p xs.length a)) : Go I (tSeq (tFor (iList K tl) g tu) tz) D σ G := fun H e i =>
  h H e _ fun p H1 hp e1 h1 => ⟨p, rfl, ⟨xs, sq_of h1⟩, by
    have hg := fresh_back e hp
    have s := Stp.take e hp e1 h1
    obtain ⟨a0, z1, z2, z3⟩ := h0 p hg
    exact for_it walk_list (D := { D with nx := tz D }) (LN I (S p) (P p) (W p)) ⟨a0, z1, z3, by rw [← z2]; exact s.2.2.1, by rw [← z2]; exact hI _ _ _ _ s i⟩ (fun k σ' H' hk ⟨a, _, wa, ea, _⟩ => sq_of (ea p _ (hE p k a wa)))
      (fun k x σ' H' H2 hk ⟨a, es, wa, ea, ia⟩ y => by
        subst es
        obtain ⟨e1, y⟩ := y
        subst e1
        obtain ⟨σ2, q1, q2⟩ := hs p k a x H2 hg y wa ea
        exact q1 _ (q2 H2 ea ia)) (fun σ' H' ⟨a, es, wa, ea, ia⟩ => by subst es; exact hd p a hg wa H' ea ia)⟩
theorem g_unl3 {K : PySem.W.Frag} {σ : St} {x y z : V} {a b c : Nat} {p : Addr} {H : Hp} {Q : St → Hp → Prop} (hp : SqL K H p [x, y, z]) (q : Q (((σ.set a (some x)).set b (some y)).set c (some z)) H) : gUnl K 3 (gCons (gName a) (gCons (gName b) (gCons (gName c) gNil))) (.ref p) σ H Q :=
  ⟨p, [x, y, z], rfl, hp, rfl, x, [y, z], rfl, y, [z], rfl, z, [], rfl, rfl, q⟩
def sp__law_vase (K : PySem.W.Frag) : Sp := PLX 2 fun vs G R => ∃ (a : Addr) (ns : List Int) (t : Nat), vs = [.ref a, nV t] ∧ SqL K G a (ns.map V.int) ∧ ns.length ≤ 40000 ∧ R = fun xs => ∃ x y z : Nat, xs = [nV x, nV y, nV z]
abbrev N__law_vase : List Str := ["_law_cells", "_law_turn", "_law_cell", "_law_blend", "_law_each"]
abbrev P__law_vase : List Str := ["_law_cells", "_law_turn"]
theorem sc__law_vase : FnScope N__law_vase P__law_vase (defScope s__law_vase) := ⟨rfl, rfl, rfl, by decide +kernel, rfl, by decide +kernel, by decide +kernel⟩
theorem F__law_vase {P : Program} {w : World} {K : PySem.W.Frag} {mg : Str → Option Value} {base : Heap} (T : Tx K w mg) : Kp P w K mg base 1 "_law_vase" P__law_vase (sp__law_vase K) := by
  obtain ⟨fd, F⟩ := T.d__law_vase
  refine ⟨_, fd, T.g__law_vase, F.kp, F.bindsN (fun _ _ _ _ _ _ us hl => match us, hl with | [_, _], _ => rfl), F.ok (N := N__law_vase) sc__law_vase len_PLX fun cdv A outer s H vs Q E hr hpre => ⟨_, PSs.nox (pss_cons (ps_set (i := 2) sc__law_vase.nd rfl (.inl rfl) (pe_ifExp (pt_cmpR op_lt (pv 1) (pe_callB call_len_seq (by rfl) T.f_len (by decide +kernel) (pa_cons (pv 0) pa_nil)) (nomark _)) (pe_ix ix_list (pv 0) (pv 1) (fun _ _ => rfl)) (pe_op op_add (pe_op op_mul pe_int (pv 1)) pe_int)))
  (pss_cons (ps_set (i := 3) sc__law_vase.nd rfl (.inl rfl) (pe_op op_add pe_int (pe_op op_mul pe_int (pv 1))))
  (pss_cons (ps_for PassesOwn.never rfl (pi_list (pe_op op_cat (pe_slice sl_list (pv 0) po_none (po_some pe_int)) (pe_lst (pa_cons (pv 2) pa_nil)))) (pg_name (i := 4) sc__law_vase.nd rfl (Or.inl rfl))
    (pss_one (ps_set (i := 3) sc__law_vase.nd rfl (.inl rfl) (pe_op op_mod (pe_callTy call_int1 (by rfl) T.f_int (by decide +kernel) (pa_cons (pe_op op_add (pe_op op_mul (pv 3) pe_int) (pv 4)) pa_nil)) pe_int))))
  (pss_one (ps_ret (pe_lst (pa_cons (pe_ifExp (PW.pt (pw_or (pt_cmpR op_lt (pv 2) pe_int (nomark _)) (pw_or1 (pt_cmpR op_ge (pv 2) (pe_op op_pow pe_int pe_int) (nomark _))))) (pe_callB call_abs (by rfl) T.f_abs (by decide +kernel) (pa_cons (pv 2) pa_nil)) pe_int) (pa_cons (pv 3) (pa_cons pe_int pa_nil))))))))), ?_⟩⟩
  exact start_PLX hpre (by
    rintro G R I Q hI ⟨a, ns, t, rfl, ha, hz, rfl⟩ q
    have hcell : ∃ c : Int, Ev (tIf (tTest (tOp (rI0 fun i j => .bl (decide (i < j))) (tVar 1) (tCB (fun xs H Q => ∃ p ys, xs = [.ref p] ∧ (SqL K H p ys ∨ SqT K H p ys) ∧ Q (.int ys.length) H) (tCons (tVar 0) tNil)))) (tOp (rIxL K) (tVar 0) (tVar 1)) (tOp (rI0 fun i j => .int (i + j)) (tOp (rI CMul fun i j => .int (i * j)) (tC (.int 11)) (tVar 1)) (tC (.int 5)))) (start N__law_vase [.ref a, nV t]) G (.int c) := by
      by_cases ht : t < ns.length
      · refine ⟨ns.getD t 0, ev_if (b := true) (et_eqv (et_test (ev_I0 (i := (t : Int)) (ev_var rfl) (ev_lenL (ev_var rfl) ha))) (by rw [decide_eq_true_iff, List.length_map]; omega)) (fun _ => ev_ixL (ev_var rfl) (ev_var rfl) ha ?_) fun z => by cases z⟩
        rw [atI_nat, List.getElem?_map, List.getD_eq_getElem?_getD, List.getElem?_eq_getElem ht]
        rfl
      · exact ⟨11 * (t : Int) + 5, ev_if (b := false) (et_eqv (et_test (ev_I0 (i := (t : Int)) (ev_var rfl) (ev_lenL (ev_var rfl) ha))) (by rw [decide_eq_false_iff_not, List.length_map]; omega)) (fun z => by cases z) fun _ => ev_I0 (ev_I (C := CMul) (i := 11) (j := (t : Int)) ev_c (ev_var rfl) (Or.inl ⟨by decide, by decide⟩)) ev_c⟩
    obtain ⟨c, hc⟩ := hcell
    refine go_asg hI hc ?_
    refine go_asg hI (v := nV (70003 + 7919 * t)) (ev_eqv (ev_I0 ev_c (ev_I (C := CMul) (i := 7919) (j := (t : Int)) ev_c (ev_var rfl) (Or.inl ⟨by decide, by decide⟩))) (by show V.int _ = V.int _; congr 1)) ?_
    refine go_forNL (α := Nat × Option V) (xs := (ns.take 6 ++ [c]).map V.int) (fun i x => [some (.ref a), some (nV t), some (.int c), some (nV x.1), x.2]) (fun _ _ => True) (70003 + 7919 * t, none) rfl trivial hI (el_eqv (el_catNN (xs := (ns.take 6).map V.int) (ys := [.int c]) (el_sliceL (ev_var rfl) eo_none (eo_some (i := ((6 : Nat) : Int)) ev_c) ha (by rw [cut_init, List.map_take])) (el_lst (ea_cons (ev_var rfl) ea_nil) (show (1 : Nat) ≤ 100000 by decide)) ?_) (by rw [List.map_append]; rfl)) ?_ ?_
    · rw [List.length_map, List.length_take]
      simp
      omega
    · rintro p i ⟨b, s⟩ x hp hx _
      rw [List.getElem?_map] at hx
      obtain ⟨m, _, rfl⟩ : ∃ m, (ns.take 6 ++ [c])[i]? = some m ∧ V.int m = x := by simpa using hx
      obtain ⟨r, hr⟩ : ∃ r : Nat, ((b : Int) * 36013 + m) % 2147483549 = (r : Int) := ⟨(((b : Int) * 36013 + m) % 2147483549).toNat, by rw [Int.toNat_of_nonneg (Int.emod_nonneg _ (by decide))]⟩
      refine go_asg1 hI (v := nV r) (ev_eqv (ev_I (i := (b : Int) * 36013 + m) (j := 2147483549) (ev_int1 (ev_I0 (ev_I (C := CMul) (i := (b : Int)) (j := 36013) (ev_var rfl) ev_c (Or.inr ⟨by decide, by decide⟩)) (ev_var rfl))) ev_c (by decide)) (by rw [hr])) ?_
      dsimp only
      exact LN.mk (r, some (.int m)) rfl rfl trivial
    · rintro p ⟨b, s⟩ hp _
      have hab : ∃ u : Nat, Ev (tIf (tOr (tTest (tOp (rI0 fun i j => .bl (decide (i < j))) (tVar 2) (tC (.int 0)))) (tTest (tOp (rI0 fun i j => .bl (decide (j ≤ i))) (tVar 2) (tOp (rI CPow fun i j => .int (i ^ j.toNat)) (tC (.int 10)) (tC (.int 17)))))) (tCB (fun xs H Q => ∃ i, xs = [.int i] ∧ Q (.int (if i < 0 then -i else i)) H) (tCons (tVar 2) tNil)) (tC (.int 0))) [some (.ref a), some (nV t), some (.int c), some (nV b), s] (upd G p (.lst ((ns.take 6 ++ [c]).map V.int))) (nV u) := by
        have ht : EvT (tOr (tTest (tOp (rI0 fun i j => .bl (decide (i < j))) (tVar 2) (tC (.int 0)))) (tTest (tOp (rI0 fun i j => .bl (decide (j ≤ i))) (tVar 2) (tOp (rI CPow fun i j => .int (i ^ j.toNat)) (tC (.int 10)) (tC (.int 17)))))) [some (.ref a), some (nV t), some (.int c), some (nV b), s] (upd G p (.lst ((ns.take 6 ++ [c]).map V.int))) (decide (c < 0) || decide (10 ^ 17 ≤ c)) :=
          et_or (et_test (ev_I0 (ev_var rfl) ev_c)) fun _ => et_test (ev_I0 (ev_var rfl) (ev_I (i := 10) (j := 17) ev_c ev_c ⟨by decide, by decide, by decide⟩))
        by_cases hz : (decide (c < 0) || decide (10 ^ 17 ≤ c)) = true
        · refine ⟨c.natAbs, ev_if ht (fun _ => ev_cb (vs := [.int c]) (ea_cons (ev_var rfl) ea_nil) fun H1 e1 Q k => ⟨c, rfl, ?_⟩) fun z => by rw [hz] at z; cases z⟩
          have : (if c < 0 then -c else c) = (c.natAbs : Int) := by omega
          rw [this]
          exact k H1 (Ex.refl _)
        · exact ⟨0, ev_if ht (fun z => absurd z hz) fun _ => ev_c⟩
      obtain ⟨u, hu⟩ := hab
      exact go_retL hI (xs := [nV u, nV b, nV 0]) (el_lst (ea_cons hu (ea_cons (ev_var rfl) (ea_cons ev_c ea_nil))) (show (3 : Nat) ≤ 100000 by decide)) fun r hr => q r _ _ (Ex.mut (Ex.new hp) (upd_none hr).1) (upd_none hr).1 ⟨u, b, 0, rfl⟩ upd_same)
def sp__law_pour (K : PySem.W.Frag) : Sp := PI 2 fun I vs G R => ∃ (a : Addr) (top : Nat), vs = [.ref a, nV top] ∧ Va a I ∧ 0 < top ∧ top < 2 ^ 30 ∧ R = fun v G2 => ∃ d : Nat, d < top ∧ v = nV d ∧ G2 = G
abbrev N__law_pour : List Str := ["_law_vase_here", "_law_top", "_law_digit"]
abbrev P__law_pour : List Str := ["_law_vase_here", "_law_top"]
theorem sc__law_pour : FnScope N__law_pour P__law_pour (defScope s__law_pour) := ⟨rfl, rfl, rfl, by decide +kernel, rfl, by decide +kernel, by decide +kernel⟩
theorem F__law_pour {P : Program} {w : World} {K : PySem.W.Frag} {mg : Str → Option Value} {base : Heap} (T : Tx K w mg) : Kp P w K mg base 1 "_law_pour" P__law_pour (sp__law_pour K) := by
  obtain ⟨fd, F⟩ := T.d__law_pour
  refine ⟨_, fd, T.g__law_pour, F.kp, F.bindsN (fun _ _ _ _ _ _ us hl => match us, hl with | [_, _], _ => rfl), F.ok (N := N__law_pour) sc__law_pour len_PI fun cdv A outer s H vs Q E hr hpre => ⟨_, PSs.nox (pss_cons (ps_asg (pe_op op_add (pe_ix ix_list (pv 0) pe_int (fun _ _ => rfl)) pe_int) (pg_sub (pv 0) pe_int set_list))
  (pss_cons (ps_if (pt_cmpR op_gt (pe_ix ix_list (pv 0) pe_int (fun _ _ => rfl)) pe_int (nomark _))
    (pss_cons (ps_asg (pe_callB call_divmod (by rfl) T.f_divmod (by decide +kernel) (pa_cons (pe_ix ix_list (pv 0) pe_int (fun _ _ => rfl)) (pa_cons (pv 1) pa_nil))) (pg_tup (n := 2) rfl (pgs_cons (pg_sub (pv 0) pe_int set_list) (pgs_cons (pg_name (i := 2) sc__law_pour.nd rfl (Or.inl rfl)) pgs_nil))))
  (pss_one (ps_ret (pv 2))))
    pss_nil)
  (pss_cons (ps_asg (pe_op op_mod (pe_callTy call_int1 (by rfl) T.f_int (by decide +kernel) (pa_cons (pe_op op_add (pe_op op_mul (pe_ix ix_list (pv 0) pe_int (fun _ _ => rfl)) pe_int) (pe_op op_mul pe_int (pe_ix ix_list (pv 0) pe_int (fun _ _ => rfl)))) pa_nil)) pe_int) (pg_sub (pv 0) pe_int set_list))
  (pss_one (ps_ret (pe_op op_mod (pe_callTy call_int1 (by rfl) T.f_int (by decide +kernel) (pa_cons (pe_op op_fdiv (pe_ix ix_list (pv 0) pe_int (fun _ _ => rfl)) pe_int) pa_nil)) (pv 1))))))), ?_⟩⟩
  exact start_PI hpre (by
    rintro G R I Q hI ⟨a, top, rfl, va, ht0, ht1, rfl⟩ q
    refine go_know va fun x y z ga => ?_
    have cK := cl_kn (a := a) hI
    have ix : ∀ {σ : St} {j : Nat} {w : V} {l : List V} {te : TE}, σ[0]? = some (some (.ref a)) → Ev te σ (upd G a (.lst l)) (.int (j : Int)) → l[j]? = some w → Ev (tOp (rIxL K) (tVar 0) te) σ (upd G a (.lst l)) w := fun h0 hj hl => ev_ixL (ev_var h0) hj (sq_of upd_same) (by rw [atI_nat]; exact hl)
    have out : ∀ {d : Nat} {o : HO}, d < top → GoV (Kn a I) Q (nV d) (upd G a o) := fun {d o} hd => gov_kn (by rw [del_upd, del_none ga]; exact q _ G (Ex.refl G) ⟨d, hd, rfl, rfl⟩)
    refine go_setL (j := 2) (xs := [nV x, nV y, nV z]) (v := nV (z + 1)) cK (fun H i => kn_put va (x := x) (y := y) (z := z + 1) i) upd_same (ev_eqv (ev_I0 (ix (j := 2) rfl ev_c rfl) ev_c) rfl) (ev_var rfl) ev_c (show (2 : Nat) < 3 by decide) ?_
    rw [T3, upd_upd]
    show Go (Kn a I) _ _ _ (upd G a (.lst [nV x, nV y, nV (z + 1)]))
    refine go_when (b := decide (0 < x)) cK (et_eqv (et_test (ev_I0 (i := (x : Int)) (j := 0) (ix (j := 0) rfl ev_c rfl) ev_c)) (by rw [Bool.eq_iff_iff, decide_eq_true_iff, decide_eq_true_iff]; omega)) (fun hz => ?_) fun hz => ?_
    · refine go_setL2 (j := 0) (xs := [nV x, nV y, nV (z + 1)]) (x := nV (x / top)) (y := nV (x % top)) cK (fun H i => kn_put va (x := x / top) (y := y) (z := z + 1) i) upd_same (eu_divmod (i := (x : Int)) (j := (top : Int)) (ea_cons (ix (j := 0) rfl ev_c rfl) (ea_cons (ev_var rfl) ea_nil)) ⟨by omega, by omega⟩) (fun _ => ev_var rfl) (fun _ => ev_c) (show (0 : Nat) < 3 by decide) ?_
      rw [upd_upd]
      exact go_ret cK (ev_var rfl) (out (Nat.mod_lt _ ht0))
    · refine go_setL (j := 1) (xs := [nV x, nV y, nV (z + 1)]) (v := nV ((y * 42043 + 6007 * (z + 1)) % 2147483549)) cK (fun H i => kn_put va (x := x) (y := (y * 42043 + 6007 * (z + 1)) % 2147483549) (z := z + 1) i) upd_same (ev_eqv (ev_I (i := ((y * 42043 + 6007 * (z + 1) : Nat) : Int)) (j := 2147483549) (ev_int1 (ev_eqv (ev_I0 (ev_I (C := CMul) (i := (y : Int)) (j := 42043) (ix (j := 1) rfl ev_c rfl) ev_c (Or.inr ⟨by decide, by decide⟩)) (ev_I (C := CMul) (i := 6007) (j := ((z + 1 : Nat) : Int)) ev_c (ix (j := 2) rfl ev_c rfl) (Or.inl ⟨by decide, by decide⟩))) rfl)) ev_c (by decide)) rfl) (ev_var rfl) ev_c (show (1 : Nat) < 3 by decide) ?_
      rw [upd_upd]
      show Go (Kn a I) _ _ _ (upd G a (.lst [nV x, nV ((y * 42043 + 6007 * (z + 1)) % 2147483549), nV (z + 1)]))
      generalize (y * 42043 + 6007 * (z + 1)) % 2147483549 = y2
      exact go_retV cK (ev_I (i := (y2 : Int) / 331) (j := (top : Int)) (ev_int1 (ev_I (C := CDiv) (i := (y2 : Int)) (j := 331) (ix (j := 1) rfl ev_c rfl) ev_c ⟨by decide, by decide⟩)) (ev_var rfl) (by omega)) (x := nV (y2 / 331 % top)) rfl (out (Nat.mod_lt _ ht0)))
def sp__law_pluck (K : PySem.W.Frag) : Sp := PI 2 fun I vs G R => ∃ (a m : Addr) (xs : List V), vs = [.ref a, .ref m] ∧ Va a I ∧ SqL K G m xs ∧ 0 < xs.length ∧ xs.length < 1000 ∧ R = fun v G2 => v ∈ xs ∧ G2 = G
abbrev N__law_pluck : List Str := ["_law_vase_here", "_law_menu"]
abbrev P__law_pluck : List Str := ["_law_vase_here", "_law_menu"]
theorem sc__law_pluck : FnScope N__law_pluck P__law_pluck (defScope s__law_pluck) := ⟨rfl, rfl, rfl, by decide +kernel, rfl, by decide +kernel, by decide +kernel⟩
theorem F__law_pluck {P : Program} {w : World} {K : PySem.W.Frag} {mg : Str → Option Value} {base : Heap} (T : Tx K w mg) (F__law_pour : Kp P w K mg base 1 "_law_pour" P__law_pour (sp__law_pour K)) : Kp P w K mg base 2 "_law_pluck" P__law_pluck (sp__law_pluck K) := by
  obtain ⟨fd, F⟩ := T.d__law_pluck
  refine ⟨_, fd, T.g__law_pluck, F.kp, F.bindsN (fun _ _ _ _ _ _ us hl => match us, hl with | [_, _], _ => rfl), F.ok (N := N__law_pluck) sc__law_pluck len_PI fun cdv A outer s H vs Q E hr hpre => ⟨_, PSs.nox (pss_one (ps_ret (pe_ix ix_list (pv 1) (pe_kall F__law_pour (hr.mono (by decide)) (by rfl) (pa_cons (pv 0) (pa_cons (pe_callB call_len_seq (by rfl) T.f_len (by decide +kernel) (pa_cons (pv 1) pa_nil)) pa_nil))) (fun _ _ => rfl)))), ?_⟩⟩
  exact start_PI hpre (by
    rintro G R I Q hI ⟨a, m, xs, rfl, va, hm, h0, h1, rfl⟩ q
    refine go_retI (ei_op hI (x := .ref m) (ev_var rfl) (ei_callA hI (vs := [.ref a, nV xs.length]) (ea_cons (ev_var rfl) (ea_cons (ev_lenL (ev_var rfl) hm) ea_nil)) (sp_PI hI ⟨a, xs.length, rfl, va, h0, by omega, rfl⟩)) fun y G2 e ⟨d, hd, hy, hG⟩ => ?_) q
    subst hy hG
    exact ⟨xs[d], rv_ixL hm (by rw [atI_nat]; exact List.getElem?_eq_getElem hd), List.getElem_mem hd, rfl⟩)
def sp__law_divisor (K : PySem.W.Frag) : Sp := PV 2 fun vs G v => ∃ a b : Nat, vs = [nV a, nV b] ∧ v = nV (Nat.gcd a b)
abbrev N__law_divisor : List Str := ["_law_high", "_law_low"]
abbrev P__law_divisor : List Str := ["_law_high", "_law_low"]
theorem sc__law_divisor : FnScope N__law_divisor P__law_divisor (defScope s__law_divisor) := ⟨rfl, rfl, rfl, by decide +kernel, rfl, by decide +kernel, by decide +kernel⟩
theorem F__law_divisor {P : Program} {w : World} {K : PySem.W.Frag} {mg : Str → Option Value} {base : Heap} (T : Tx K w mg) : Kp P w K mg base 1 "_law_divisor" P__law_divisor (sp__law_divisor K) := by
  obtain ⟨fd, F⟩ := T.d__law_divisor
  refine ⟨_, fd, T.g__law_divisor, F.kp, F.bindsN (fun _ _ _ _ _ _ us hl => match us, hl with | [_, _], _ => rfl), F.ok (N := N__law_divisor) sc__law_divisor len_PV fun cdv A outer s H vs Q E hr hpre => ⟨_, PSs.nox (pss_cons (ps_while PassesOwn.never (pt_cmpR op_gt (pv 1) pe_int (nomark _))
    (pss_one (ps_par (i := 0) (j := 1) rfl sc__law_divisor.nd rfl rfl (by decide) rfl rfl (pa_cons (pv 1) (pa_cons (pe_op op_mod (pe_callTy call_int1 (by rfl) T.f_int (by decide +kernel) (pa_cons (pv 0) pa_nil)) (pv 1)) pa_nil)) (by rfl))))
  (pss_one (ps_ret (pv 0)))), ?_⟩⟩
  exact start_PV hpre (by
    rintro G v I Q hI ⟨a, b, rfl, rfl⟩ q
    refine go_while (fun p : Nat × Nat => [some (nV p.1), some (nV p.2)]) (fun _ => G) (fun p => Nat.gcd p.1 p.2 = Nat.gcd a b) (fun p => p.2) (a, b) rfl rfl rfl hI (fun p => decide (0 < p.2)) ?_
    rintro ⟨x, y⟩ hg
    refine ⟨?_, fun hz => ?_, fun hz => ?_⟩
    · refine et_eqv (a := decide ((0 : Int) < (y : Int))) ?_ (by simp)
      infer_instance
    · have hp : 0 < y := by simpa using hz
      refine go_par1 hI (x := nV y) (y := nV (x % y)) ?_ (WN.mk (y, x % y) rfl rfl ?_ (Nat.mod_lt _ hp))
      · exact ea_cons (ev_var rfl) (ea_cons (ev_I (i := (x : Int)) (j := (y : Int)) (ev_int1 (ev_var rfl)) (ev_var rfl) (by omega)) ea_nil)
      · rw [← hg]
        dsimp only
        rw [Nat.gcd_comm, ← Nat.gcd_rec, Nat.gcd_comm]
    · have hp : y = 0 := by
        have : ¬ 0 < y := by simpa using hz
        omega
      subst hp
      refine go_retV hI (ev_var rfl) ?_ (q G (Ex.refl G))
      rw [← hg, Nat.gcd_zero_right])
def sp__law_multiple (K : PySem.W.Frag) : Sp := PV 2 fun vs G v => ∃ a b : Nat, vs = [nV a, nV b] ∧ 0 < a ∧ b < 2 ^ 30 ∧ a < 2 ^ 30 ∧ v = nV (lcmN a b)
abbrev N__law_multiple : List Str := ["_law_high", "_law_low"]
abbrev P__law_multiple : List Str := ["_law_high", "_law_low"]
theorem sc__law_multiple : FnScope N__law_multiple P__law_multiple (defScope s__law_multiple) := ⟨rfl, rfl, rfl, by decide +kernel, rfl, by decide +kernel, by decide +kernel⟩
theorem F__law_multiple {P : Program} {w : World} {K : PySem.W.Frag} {mg : Str → Option Value} {base : Heap} (T : Tx K w mg) (F__law_divisor : Kp P w K mg base 1 "_law_divisor" P__law_divisor (sp__law_divisor K)) : Kp P w K mg base 2 "_law_multiple" P__law_multiple (sp__law_multiple K) := by
  obtain ⟨fd, F⟩ := T.d__law_multiple
  refine ⟨_, fd, T.g__law_multiple, F.kp, F.bindsN (fun _ _ _ _ _ _ us hl => match us, hl with | [_, _], _ => rfl), F.ok (N := N__law_multiple) sc__law_multiple len_PV fun cdv A outer s H vs Q E hr hpre => ⟨_, PSs.nox (pss_one (ps_ret (pe_op op_mul (pe_op op_fdiv (pv 0) (pe_kall F__law_divisor (hr.mono (by decide)) (by rfl) (pa_cons (pv 0) (pa_cons (pv 1) pa_nil)))) (pv 1)))), ?_⟩⟩
  exact start_PV hpre (by
    rintro G v I Q hI ⟨a, b, rfl, ha, hb, ha2, rfl⟩ q
    have hg : 0 < Nat.gcd a b := Nat.gcd_pos_of_pos_left _ ha
    have hle : Nat.gcd a b ≤ a := Nat.gcd_le_left _ ha
    refine go_retV hI (v := .int ((a : Int) / (Nat.gcd a b : Nat) * (b : Int))) ?_ (by unfold lcmN nV; push_cast; rfl) (q G (Ex.refl G))
    refine ev_I (ev_I (ev_var rfl) (ev_callV (vs := [nV a, nV b]) (ea_cons (ev_var rfl) (ea_cons (ev_var rfl) ea_nil)) ?_) ?_) (ev_var rfl) ?_
    · exact sp_PV ⟨a, b, rfl, rfl⟩
    · exact ⟨by omega, by omega⟩
    · exact Or.inr (by omega))
end Lm
end
section
set_option Elab.async false
set_option linter.all false
set_option maxRecDepth 100000
set_option maxHeartbeats 2000000
namespace Lm
open PySem PySem.Spec L2 Evl
local macro_rules | `(tactic| infer_instance) => `(tactic| first | (with_reducible exact ev_c) | ((with_reducible apply ev_var); exact rfl) | (with_reducible exact ea_nil) | (intro _; infer_instance) | ((with_reducible apply ev_I0) <;> try infer_instance) | ((with_reducible apply ev_I) <;> try infer_instance) | ((with_reducible apply ev_isInt) <;> try infer_instance) | ((with_reducible apply ev_isBool) <;> try infer_instance) | ((with_reducible apply ev_isStr) <;> try infer_instance) | ((with_reducible apply ev_isTup) <;> try infer_instance) | ((with_reducible apply ev_isN) <;> try infer_instance) | ((with_reducible apply ev_notN) <;> try infer_instance) | ((with_reducible apply ev_neg) <;> try infer_instance) | ((with_reducible apply ev_fld) <;> try infer_instance) | ((with_reducible apply ev_ixT) <;> try infer_instance) | ((with_reducible apply ev_ixL) <;> try infer_instance) | ((with_reducible apply ev_andV) <;> try infer_instance) | ((with_reducible apply ev_orV) <;> try infer_instance) | ((with_reducible apply ev_notV) <;> try infer_instance) | ((with_reducible apply ev_callV) <;> try infer_instance) | ((with_reducible apply ea_cons) <;> try infer_instance) | ((with_reducible apply et_test) <;> try infer_instance) | ((with_reducible apply et_B) <;> try infer_instance) | ((with_reducible apply et_not) <;> try infer_instance) | ((with_reducible apply et_and) <;> try infer_instance) | ((with_reducible apply et_or) <;> try infer_instance) | ((with_reducible apply ev_eq) <;> first | infer_instance | exact rfl | skip) | ((with_reducible apply ev_ne) <;> first | infer_instance | exact rfl | skip) | ((with_reducible apply eu_tup) <;> first | infer_instance | decide | skip) | ((with_reducible apply el_lst) <;> first | infer_instance | decide | skip))
theorem units1 {n m : Nat} (h : n + 64 < m) : n + 1 < m := by omega
theorem go_asgL1 {I : Hp → Hp → Prop} {σ : St} {G : Hp} {te : TE} {D : Ends} {n : Nat} {xs : List V} (hI : Cl I) (h : EvL te σ G xs) (k : ∀ p, G p = none → GoN I D.nx (σ.set n (some (.ref p))) (upd G p (.lst xs))) : Go I (tAsg te (gName n)) D σ G := fun H e i => h H e _ fun p H1 hp e1 h1 => by
  have s := Stp.take e hp e1 h1
  exact k p (fresh_back e hp) H1 s.2.2.1 (hI _ _ _ _ s i)
theorem go_parL {I : Hp → Hp → Prop} {σ : St} {G : Hp} {ta tb : TE} {tz : TS} {D : Ends} {n m : Nat} {xs : List V} {y : V} (hI : Cl I) (h : EvL ta σ G xs) (h2 : ∀ p, G p = none → Ev tb σ (upd G p (.lst xs)) y) (k : ∀ p, G p = none → Go I tz D ((σ.set n (some (.ref p))).set m (some y)) (upd G p (.lst xs))) :
    Go I (tSeq (tPar n m (tCons ta (tCons tb tNil))) tz) D σ G := fun H e i => h H e _ fun p H1 hp e1 h1 => by
  have s := Stp.take e hp e1 h1
  have hg := fresh_back e hp
  exact h2 p hg H1 s.2.2.1 _ fun H2 e2 => ⟨_, _, rfl, k p hg H2 (s.2.2.1.trans e2) (hI _ _ _ _ (Stp.ex s.2.2.1 e2) (hI _ _ _ _ s i))⟩
theorem bor_spots {h : HM} {p : Nat} (hp : p < h.P) : inV (nV p) (nL h.spots) = h.bo p := by
  rw [Bool.eq_iff_iff]
  unfold inV nL
  rw [List.any_map, List.any_eq_true]
  constructor
  · rintro ⟨x, hx, e⟩
    have e2 : ((x : Int) == (p : Int)) = true := e
    have e3 : x = p := by rw [beq_iff_eq] at e2; omega
    subst e3
    exact (List.mem_filter.mp hx).2
  · intro hb
    refine ⟨p, List.mem_filter.mpr ⟨List.mem_range.mpr hp, hb⟩, ?_⟩
    show ((p : Int) == (p : Int)) = true
    exact beq_self_eq_true _
theorem flat_nL {ns : List Nat} : (nL ns).all flatV = true := by
  unfold nL
  rw [List.all_map, List.all_eq_true]
  intro x _
  rfl
theorem HomF.gr {K : PySem.W.Frag} {G : Hp} {a g l sp be : Addr} {h : HM} {ls : List V} {σ : St} {ta : TE} (F : HomF K G a h g l sp be ls) (ha : Ev ta σ G (.ref a)) : Ev (tDGet ta (tC (.str "ground"))) σ G (.ref g) := ev_dget (k := .inr "ground") ha ev_c F.d rfl
theorem HomF.la {K : PySem.W.Frag} {G : Hp} {a g l sp be : Addr} {h : HM} {ls : List V} {σ : St} {ta : TE} (F : HomF K G a h g l sp be ls) (ha : Ev ta σ G (.ref a)) : Ev (tDGet ta (tC (.str "lanes"))) σ G (.ref l) := ev_dget (k := .inr "lanes") ha ev_c F.d rfl
theorem HomF.sp {K : PySem.W.Frag} {G : Hp} {a g l sp be : Addr} {h : HM} {ls : List V} {σ : St} {ta : TE} (F : HomF K G a h g l sp be ls) (ha : Ev ta σ G (.ref a)) : Ev (tDGet ta (tC (.str "spots"))) σ G (.ref sp) := ev_dget (k := .inr "spots") ha ev_c F.d rfl
theorem HomF.be {K : PySem.W.Frag} {G : Hp} {a g l sp be : Addr} {h : HM} {ls : List V} {σ : St} {ta : TE} (F : HomF K G a h g l sp be ls) (ha : Ev ta σ G (.ref a)) : Ev (tDGet ta (tC (.str "below"))) σ G (.ref be) := ev_dget (k := .inr "below") ha ev_c F.d rfl
theorem below_len (h : HM) : h.below.length = h.P := by unfold HM.below; rw [List.length_map, List.length_range]
theorem below_at {h : HM} {p : Nat} (hp : p < h.P) : h.below.getD p 0 = h.cnt p := by
  unfold HM.below
  rw [List.getD_eq_getElem?_getD, List.getElem?_map, List.getElem?_range hp]
  rfl
def sp__law_again (K : PySem.W.Frag) : Sp := PV 2 fun vs G v => ∃ (a : Addr) (gs : List Nat) (k : Nat), vs = [.ref a, nV k] ∧ SqL K G a (nL gs) ∧ 1 ≤ k ∧ k ≤ gs.length ∧ gs.length ≤ 40000 ∧ v = .bl (again gs k)
abbrev N__law_again : List Str := ["_law_gaps", "_law_size_here"]
abbrev P__law_again : List Str := ["_law_gaps", "_law_size_here"]
theorem sc__law_again : FnScope N__law_again P__law_again (defScope s__law_again) := ⟨rfl, rfl, rfl, by decide +kernel, rfl, by decide +kernel, by decide +kernel⟩
theorem F__law_again {P : Program} {w : World} {K : PySem.W.Frag} {mg : Str → Option Value} {base : Heap} (T : Tx K w mg) : Kp P w K mg base 1 "_law_again" P__law_again (sp__law_again K) := by
  obtain ⟨fd, F⟩ := T.d__law_again
  refine ⟨_, fd, T.g__law_again, F.kp, F.bindsN (fun _ _ _ _ _ _ us hl => match us, hl with | [_, _], _ => rfl), F.ok (N := N__law_again) sc__law_again len_PV fun cdv A outer s H vs Q E hr hpre => ⟨_, PSs.nox (pss_one (ps_ret (pe_and (pe_cmpR op_eq (pe_op op_mul (pe_op op_fdiv (pe_callB call_len_seq (by rfl) T.f_len (by decide +kernel) (pa_cons (pv 0) pa_nil)) (pv 1)) (pv 1)) (pe_callB call_len_seq (by rfl) T.f_len (by decide +kernel) (pa_cons (pv 0) pa_nil)) (nomark _)) (pe_one (pe_cmpR (op_eqD hr.units) (pe_slice sl_list (pv 0) (po_some (pv 1)) po_none) (pe_slice sl_list (pv 0) po_none (po_some (pe_op op_sub (pe_callB call_len_seq (by rfl) T.f_len (by decide +kernel) (pa_cons (pv 0) pa_nil)) (pv 1)))) (nomark _)))))), ?_⟩⟩
  exact start_PV hpre (by
    rintro G v I Q hI ⟨a, gs, k, rfl, ha, hk1, hk2, hz, rfl⟩ q
    have hl : ∀ {σ : St}, σ[0]? = some (some (.ref a)) → Ev (tCB (fun xs H Q => ∃ p ys, xs = [.ref p] ∧ (SqL K H p ys ∨ SqT K H p ys) ∧ Q (.int ys.length) H) (tCons (tVar 0) tNil)) σ G (nV gs.length) := fun h0 => ev_eqv (ev_lenL (ev_var h0) ha) (by rw [nL_len])
    refine go_retV hI (ev_andV (a := gs.length % k == 0) (b := (gs.drop k == gs.take (gs.length - k))) (ev_eqB (x := .int ((gs.length : Int) / (k : Int) * (k : Int))) (y := nV gs.length) (ev_I (i := (gs.length : Int) / (k : Int)) (j := (k : Int)) (ev_I (i := (gs.length : Int)) (j := (k : Int)) (hl rfl) (ev_var rfl) ⟨by omega, by omega⟩) (ev_var rfl) (Or.inr ⟨by omega, by omega⟩)) (hl rfl) rfl (quot_eq hk1)) fun _ => ev_opLL (el_sliceL (ys := nL (gs.drop k)) (ev_var rfl) (eo_some (ev_var rfl)) eo_none ha (by rw [cut_tail]; unfold nL; rw [List.map_drop])) (el_sliceL (ys := nL (gs.take (gs.length - k))) (ev_var rfl) eo_none (eo_some (i := ((gs.length - k : Nat) : Int)) (ev_eqv (ev_I0 (i := (gs.length : Int)) (j := (k : Int)) (hl rfl) (ev_var rfl)) (by show V.int _ = V.int _; congr 1; omega))) ha (by rw [cut_init]; unfold nL; rw [List.map_take])) fun p r H1 h1 h2 e => rv_eqL (sq_of h1) (sq_of h2)) rfl (q G (Ex.refl G)))
def sp__law_size (K : PySem.W.Frag) : Sp := PV 2 fun vs G v => ∃ (a : Addr) (bs : List Nat) (k : Nat), vs = [.ref a, nV k] ∧ SqL K G a (nL bs) ∧ (∀ b ∈ bs, b ≤ 4) ∧ v = nV (prod (bs.drop k))
abbrev N__law_size : List Str := ["_law_ground_here", "_law_field", "_law_found", "_law_base"]
abbrev P__law_size : List Str := ["_law_ground_here", "_law_field"]
theorem sc__law_size : FnScope N__law_size P__law_size (defScope s__law_size) := ⟨rfl, rfl, rfl, by decide +kernel, rfl, by decide +kernel, by decide +kernel⟩
theorem F__law_size {P : Program} {w : World} {K : PySem.W.Frag} {mg : Str → Option Value} {base : Heap} (T : Tx K w mg) : Kp P w K mg base 1 "_law_size" P__law_size (sp__law_size K) := by
  obtain ⟨fd, F⟩ := T.d__law_size
  refine ⟨_, fd, T.g__law_size, F.kp, F.bindsN (fun _ _ _ _ _ _ us hl => match us, hl with | [_, _], _ => rfl), F.ok (N := N__law_size) sc__law_size len_PV fun cdv A outer s H vs Q E hr hpre => ⟨_, PSs.nox (pss_cons (ps_set (i := 2) sc__law_size.nd rfl (.inl rfl) pe_int)
  (pss_cons (ps_for PassesOwn.never rfl (pi_list (pe_slice sl_list (pv 0) (po_some (pv 1)) po_none)) (pg_name (i := 3) sc__law_size.nd rfl (Or.inl rfl))
    (pss_one (ps_set (i := 2) sc__law_size.nd rfl (.inl rfl) (pe_op op_mul (pv 2) (pv 3)))))
  (pss_one (ps_ret (pv 2))))), ?_⟩⟩
  exact start_PV hpre (by
    rintro G v I Q hI ⟨a, bs, k, rfl, ha, hb, rfl⟩ q
    refine go_asg hI (v := nV 1) ev_c ?_
    refine go_forV (α := Option V) (n := (nL (bs.drop k)).length) (fun i x => [some (.ref a), some (nV k), some (nV (prod ((bs.drop k).take i))), x]) (fun _ _ => True) none rfl trivial hI (ew_listN (el_sliceL (ys := nL (bs.drop k)) (ev_var rfl) (eo_some (ev_var rfl)) eo_none ha (by rw [cut_tail]; unfold nL; rw [List.map_drop]))) ?_ ?_
    · rintro I' hI' _ i s x H H' hi _ eH y
      obtain ⟨y1, y2, y3⟩ := yat_name (m := 3) (σ' := [some (.ref a), some (nV k), some (nV (prod ((bs.drop k).take i))), s]) y
      rw [nL_len] at hi
      rw [nL_get hi] at y1
      obtain rfl := Option.some.inj y1
      refine ⟨_, y2, y3, ?_⟩
      have hm : (bs.drop k).getD i 0 ∈ bs := by
        rw [List.getD_eq_getElem?_getD, List.getElem?_eq_getElem hi]
        exact List.mem_of_mem_drop (List.getElem_mem hi)
      have b2 := hb _ hm
      refine go_asg1 hI' (v := nV (prod ((bs.drop k).take (i + 1)))) ?_ ?_
      · rw [List.take_succ, List.getElem?_eq_getElem hi]
        show Ev _ _ _ (nV (prod (_ ++ [(bs.drop k)[i]])))
        rw [prod_snoc, show nV (prod ((bs.drop k).take i) * (bs.drop k)[i]) = .int ((prod ((bs.drop k).take i) : Nat) * ((bs.drop k).getD i 0 : Nat)) by rw [List.getD_eq_getElem?_getD, List.getElem?_eq_getElem hi, ← Int.natCast_mul]; rfl]
        exact ev_I (C := CMul) (i := (prod ((bs.drop k).take i) : Nat)) (j := ((bs.drop k).getD i 0 : Nat)) (ev_var rfl) (ev_var rfl) (Or.inr ⟨by omega, by omega⟩)
      · dsimp only
        exact LN.mk (some (nV ((bs.drop k).getD i 0))) rfl rfl trivial
    · rintro s _
      refine go_retV hI (ev_var rfl) ?_ (q G (Ex.refl G))
      rw [nL_len, List.take_length])
def sp__law_gap (K : PySem.W.Frag) : Sp := PV 3 fun vs G v => ∃ (a b : Addr) (bs : List Nat) (rs : List Row) (ls : List V) (g : Nat), vs = [.ref a, .ref b, nV g] ∧ SqL K G a (nL bs) ∧ SqL K G b ls ∧ AllR (RowL K G) ls rs ∧ 1 ≤ bs.length ∧ bs.length ≤ 3 ∧ (∀ x ∈ bs, 0 < x ∧ x < 2 ^ 30) ∧ (∀ r ∈ rs, r.1 < bs.length ∧ 0 < r.2.1) ∧ v = nV (gapOf bs rs g)
abbrev N__law_gap : List Str := ["_law_ground_here", "_law_lanes_here", "_law_group", "_law_numbers", "_law_base", "_law_rest", "_law_found", "_law_field", "_law_every", "_law_count"]
abbrev P__law_gap : List Str := ["_law_ground_here", "_law_lanes_here", "_law_group"]
theorem sc__law_gap : FnScope N__law_gap P__law_gap (defScope s__law_gap) := ⟨rfl, rfl, rfl, by decide +kernel, rfl, by decide +kernel, by decide +kernel⟩
theorem F__law_gap {P : Program} {w : World} {K : PySem.W.Frag} {mg : Str → Option Value} {base : Heap} (T : Tx K w mg) : Kp P w K mg base 1 "_law_gap" P__law_gap (sp__law_gap K) := by
  obtain ⟨fd, F⟩ := T.d__law_gap
  refine ⟨_, fd, T.g__law_gap, F.kp, F.bindsN (fun _ _ _ _ _ _ us hl => match us, hl with | [_, _, _], _ => rfl), F.ok (N := N__law_gap) sc__law_gap len_PV fun cdv A outer s H vs Q E hr hpre => ⟨_, PSs.nox (pss_cons (ps_set (i := 3) sc__law_gap.nd rfl (.inl rfl) (pe_lst pa_nil))
  (pss_cons (ps_for PassesOwn.never rfl (pi_list (pe_revL (pe_slice sl_list (pv 0) po_none (po_some (pe_un un_neg pe_int))))) (pg_name (i := 4) sc__law_gap.nd rfl (Or.inl rfl))
    (pss_cons (ps_asg (pe_callB call_divmod (by rfl) T.f_divmod (by decide +kernel) (pa_cons (pv 2) (pa_cons (pv 4) pa_nil))) (pg_tup (n := 2) rfl (pgs_cons (pg_name (i := 2) sc__law_gap.nd rfl (Or.inl rfl)) (pgs_cons (pg_name (i := 5) sc__law_gap.nd rfl (Or.inl rfl)) pgs_nil))))
  (pss_one (ps_set (i := 3) sc__law_gap.nd rfl (.inl rfl) (pe_op op_cat (pe_lst (pa_cons (pv 5) pa_nil)) (pv 3))))))
  (pss_cons (ps_par (i := 3) (j := 6) rfl sc__law_gap.nd rfl rfl (by decide) rfl rfl (pa_cons (pe_op op_cat (pe_lst (pa_cons (pv 2) pa_nil)) (pv 3)) (pa_cons pe_int pa_nil)) (by rfl))
  (pss_cons (ps_for PassesOwn.never rfl (pi_list (pv 1)) (pg_unl (n := 3) rfl (pgs_cons (pg_name (i := 7) sc__law_gap.nd rfl (Or.inl rfl)) (pgs_cons (pg_name (i := 8) sc__law_gap.nd rfl (Or.inl rfl)) (pgs_cons (pg_name (i := 9) sc__law_gap.nd rfl (Or.inl rfl)) pgs_nil))))
    (pss_one (ps_if (PW.pt (pw_and (pt_cmpR op_eq (pe_op op_mod (pe_callTy call_int1 (by rfl) T.f_int (by decide +kernel) (pa_cons (pe_ix ix_list (pv 3) (pv 7) (fun _ _ => rfl)) pa_nil)) (pv 8)) pe_int (nomark _)) (pw_and1 (pt_not (pt_val (pe_callB (cr_anyI rfl) (by rfl) T.f_any (by decide +kernel) (pa_cons (pe_slice sl_list (pv 3) (po_some (pe_op op_add (pv 7) pe_int)) po_none) pa_nil)))))))
    (pss_one (ps_set (i := 6) sc__law_gap.nd rfl (.inl rfl) (pv 9)))
    pss_nil)))
  (pss_one (ps_ret (pv 6))))))), ?_⟩⟩
  exact start_PV hpre (by
    rintro G v I Q hI ⟨a, b, bs, rs, ls, g, rfl, ha, hb, hls, h1, h3, hbs, hrs, rfl⟩ q
    have hfl : (figs bs g).length = bs.length := by
      unfold figs
      rw [List.length_reverse, digs_len, List.length_reverse, List.length_dropLast]
      omega
    refine go_asgL hI (xs := []) (el_lst ea_nil (by decide)) fun p0 hp0 => ?_
    refine go_forNP (α := Hp × Addr × Nat × List Nat × Option V × Option V) (fun _ i x => [some (.ref a), some (.ref b), some (nV x.2.2.1), some (.ref x.2.1), x.2.2.2.2.1, x.2.2.2.2.2, none, none, none, none]) (fun _ i x => x.1)
      (fun p i x => Ex G x.1 ∧ x.1 p = some (.lst (nL bs.dropLast.reverse)) ∧ x.1 x.2.1 = some (.lst (nL x.2.2.2.1)) ∧ x.2.2.2.1.length = i ∧ (digs g bs.dropLast.reverse).reverse = (digs x.2.2.1 (bs.dropLast.reverse.drop i)).reverse ++ x.2.2.2.1) (xs := nL bs.dropLast.reverse) hI (el_eqv (el_revN (el_sliceL (ys := nL bs.dropLast) (ev_var rfl) eo_none (eo_some (ev_neg ev_c)) (ex_l (Ex.new hp0) ha) (by rw [cut_but]; unfold nL; rw [List.map_dropLast]))) (by unfold nL; rw [List.map_reverse])) ?_ ?_ ?_ ?_
    · intro p hp
      refine ⟨(_, p0, g, [], none, none), rfl, rfl, ?_, upd_same, ?_, rfl, ?_⟩
      · exact (Ex.new hp0).trans (Ex.new hp)
      · show upd (upd G p0 _) p _ p0 = _
        rw [upd_ne (fun z => (upd_none hp).2 z.symm)]
        exact upd_same
      · simp
    · rintro p i ⟨G1, p1, n, acc, s1, s2⟩ ⟨_, h, _⟩
      exact h
    · rintro p i ⟨G1, p1, n, acc, s1, s2⟩ x H hp hx ⟨w1, w2, w3, w4, w5⟩ eH
      dsimp only at w1 w2 w3 w4 w5
      have hi : i < bs.dropLast.reverse.length := by
        have := (List.getElem?_eq_some_iff.mp hx).1
        rwa [nL_len] at this
      rw [nL_get hi] at hx
      obtain rfl := Option.some.inj hx
      have hm : bs.dropLast.reverse.getD i 0 ∈ bs := by
        rw [List.getD_eq_getElem?_getD, List.getElem?_eq_getElem hi]
        have := List.getElem_mem hi
        rw [List.mem_reverse] at this
        exact (List.dropLast_sublist _).subset this
      obtain ⟨b1, b2⟩ := hbs _ hm
      have hil : i < 3 := by
        rw [List.length_reverse, List.length_dropLast] at hi
        omega
      refine ⟨_, fun Q q => q, ?_⟩
      generalize hd : bs.dropLast.reverse.getD i 0 = d at b1 b2
      refine go_un2 hI (x := nV (n / d)) (y := nV (n % d)) (eu_divmod (i := (n : Int)) (j := (d : Int)) (ea_cons (ev_var rfl) (ea_cons (ev_var rfl) ea_nil)) ⟨by omega, by omega⟩) ?_
      refine go_asgL1 (xs := nL ((n % d) :: acc)) hI (el_catN (xs := [nV (n % d)]) (ys := nL acc) (el_lst (ea_cons (ev_var rfl) ea_nil) (show (1 : Nat) ≤ 100000 by decide)) (ev_var rfl) w3 (by rw [nL_len, w4]; simp; omega)) fun r hr => ?_
      have e' : Ex G1 (upd G1 r (.lst (nL ((n % d) :: acc)))) := Ex.new hr
      dsimp only
      refine LN.mk (_, r, n / d, (n % d) :: acc, some (nV d), some (nV (n % d))) rfl rfl ⟨w1.trans e', e' _ _ w2, upd_same, by simp [w4], ?_⟩
      dsimp only
      rw [w5, List.drop_eq_getElem_cons hi]
      have : bs.dropLast.reverse[i] = d := by
        rw [← hd, List.getD_eq_getElem?_getD, List.getElem?_eq_getElem hi]
        rfl
      rw [this]
      simp [digs]
    rintro p ⟨G1, p1, n, acc, s1, s2⟩ hp ⟨w1, w2, w3, w4, w5⟩
    dsimp only at w1 w2 w3 w4 w5
    rw [nL_len, List.drop_length] at w5
    have hfe : figs bs g = n :: acc := by
      unfold figs
      rw [w5]
      simp [digs]
    have hal : acc.length + 1 = bs.length := by
      have : (n :: acc).length = bs.length := by rw [← hfe]; exact hfl
      simpa using this
    refine go_parL hI (xs := nL (figs bs g)) (y := nV 0) (el_eqv (el_catN (xs := [nV n]) (ys := nL acc) (el_lst (ea_cons (ev_var rfl) ea_nil) (show (1 : Nat) ≤ 100000 by decide)) (ev_var rfl) w3 (by rw [nL_len]; simp; omega)) (by rw [hfe]; rfl)) (fun _ _ => ev_c) fun t ht => ?_
    have e0 : Ex G (upd G1 t (.lst (nL (figs bs g)))) := w1.trans (Ex.new ht)
    refine go_forS (α := Option V × Option V × Option V) (fun i x => [some (.ref a), some (.ref b), some (nV n), some (.ref t), s1, s2, some (nV (gapOf bs (rs.take i) g)), x.1, x.2.1, x.2.2]) (fun _ _ => True) (none, none, none) rfl trivial hI (ek_list (ev_var rfl) (ex_l e0 hb)) ?_ ?_
    · rintro i ⟨u1, u2, u3⟩ x H H' hi _ eH ⟨e1, y⟩
      subst e1
      obtain ⟨r, hr, t2, rfl, ht2⟩ := hls.at y
      obtain ⟨hf, hv0⟩ := hrs r (List.mem_of_getElem? hr)
      refine ⟨_, Ex.refl _, fun Q q => g_unl3 (ex_l (e0.trans eH) ht2) q, ?_⟩
      have htk : gapOf bs (rs.take (i + 1)) g = if hit (figs bs g) r then r.2.2 else gapOf bs (rs.take i) g := by
        unfold gapOf
        rw [List.take_succ, hr]
        simp [List.foldl_append]
      have hat : atI (nL (figs bs g)) (r.1 : Int) = some (nV ((figs bs g).getD r.1 0)) := by
        rw [atI_nat, nL_get (by omega)]
      refine go_if hI (b := hit (figs bs g) r) ?_ (fun hb => ?_) fun hb => ?_
      · unfold hit
        refine et_and ?_ fun _ => ?_
        · refine et_eqv (et_test (ev_eq (x := nV ((figs bs g).getD r.1 0 % r.2.1)) (y := nV 0) (ev_eqv (ev_I (i := ((figs bs g).getD r.1 0 : Nat)) (j := (r.2.1 : Int)) (ev_int1 (ev_ixL (ev_var rfl) (ev_var rfl) (sq_of upd_same) hat)) (ev_var rfl) (by omega)) rfl) ev_c rfl)) ?_
          rw [dec_nV, Bool.eq_iff_iff, decide_eq_true_iff, beq_iff_eq]
        · refine et_eqv (et_not (et_B (ev_anyI (ns := List.map (fun n : Nat => (n : Int)) ((figs bs g).drop (r.1 + 1))) ?_))) ?_
          · refine el_eqv (el_sliceL (ev_var rfl) (eo_some (i := ((r.1 + 1 : Nat) : Int)) (ev_eqv (ev_I0 (ev_var rfl) ev_c) rfl)) eo_none (sq_of upd_same) cut_tail) ?_
            unfold nL
            rw [← List.map_drop, List.map_map]
            rfl
          · rw [List.any_map]
            exact not_any _
      · refine go_asg1 hI (ev_var rfl) ?_
        dsimp only
        refine LN.mk (some (nV r.1), some (nV r.2.1), some (nV r.2.2)) ?_ rfl trivial
        rw [htk, if_pos hb]
        rfl
      · refine go_next ?_
        dsimp only
        refine LN.mk (some (nV r.1), some (nV r.2.1), some (nV r.2.2)) ?_ rfl trivial
        rw [htk, hb]
        rfl
    · rintro ⟨u1, u2, u3⟩ _
      refine go_retV hI (ev_var rfl) ?_ (q _ e0)
      rw [hls.len, List.take_length])
def sp__law_spot (K : PySem.W.Frag) : Sp := PV 2 fun vs G v => ∃ (x : V) (h : HM) (n : Nat), vs = [x, nV n] ∧ HomR K G x h ∧ v = nV (h.place n)
abbrev N__law_spot : List Str := ["_law_home", "_law_figure", "_law_turns", "_law_inner"]
abbrev P__law_spot : List Str := ["_law_home", "_law_figure"]
theorem sc__law_spot : FnScope N__law_spot P__law_spot (defScope s__law_spot) := ⟨rfl, rfl, rfl, by decide +kernel, rfl, by decide +kernel, by decide +kernel⟩
theorem F__law_spot {P : Program} {w : World} {K : PySem.W.Frag} {mg : Str → Option Value} {base : Heap} (T : Tx K w mg) : Kp P w K mg base 1 "_law_spot" P__law_spot (sp__law_spot K) := by
  obtain ⟨fd, F⟩ := T.d__law_spot
  refine ⟨_, fd, T.g__law_spot, F.kp, F.bindsN (fun _ _ _ _ _ _ us hl => match us, hl with | [_, _], _ => rfl), F.ok (N := N__law_spot) sc__law_spot len_PV fun cdv A outer s H vs Q E hr hpre => ⟨_, PSs.nox (pss_cons (ps_asg (pe_callB call_divmod (by rfl) T.f_divmod (by decide +kernel) (pa_cons (pv 1) (pa_cons (pe_callB call_len_seq (by rfl) T.f_len (by decide +kernel) (pa_cons (pe_dget (units1 hr.units) (pv 0) pe_str (fun _ _ => rfl)) pa_nil)) pa_nil))) (pg_tup (n := 2) rfl (pgs_cons (pg_name (i := 2) sc__law_spot.nd rfl (Or.inl rfl)) (pgs_cons (pg_name (i := 3) sc__law_spot.nd rfl (Or.inl rfl)) pgs_nil))))
  (pss_one (ps_ret (pe_op op_add (pe_op op_mul (pv 2) (pe_callB call_len_seq (by rfl) T.f_len (by decide +kernel) (pa_cons (pe_dget (units1 hr.units) (pv 0) pe_str (fun _ _ => rfl)) pa_nil))) (pe_ix ix_list (pe_dget (units1 hr.units) (pv 0) pe_str (fun _ _ => rfl)) (pv 3) (fun _ _ => rfl)))))), ?_⟩⟩
  exact start_PV hpre (by
    rintro G v I Q hI ⟨x, h, n, rfl, ⟨a, g, l, sp, be, ls, rfl, hF, ok⟩, rfl⟩ q
    obtain ⟨F0, FP⟩ := ok.F_bd
    obtain ⟨P0, P7⟩ := ok.P_bd
    have hm : n % h.F < h.spots.length := Nat.mod_lt _ F0
    refine go_un2 hI (x := nV (n / h.F)) (y := nV (n % h.F)) (eu_divmod (i := (n : Int)) (j := (h.F : Int)) (ea_cons (ev_var rfl) (ea_cons (ev_eqv (ev_lenL (hF.sp (ev_var rfl)) hF.s) (by rw [nL_len]; rfl)) ea_nil)) ⟨by omega, by omega⟩) ?_
    exact go_retV hI (ev_I0 (ev_I (C := CMul) (i := ((n / h.F : Nat) : Int)) (j := (h.P : Int)) (ev_var rfl) (ev_eqv (ev_lenL (hF.be (ev_var rfl)) hF.b) (by rw [nL_len, below_len])) (Or.inr ⟨by omega, by omega⟩)) (ev_ixL (hF.sp (ev_var rfl)) (ev_var rfl) hF.s (by rw [atI_nat, nL_get hm]))) rfl (q G (Ex.refl G)))
def sp__law_near (K : PySem.W.Frag) : Sp := PV 3 fun vs G v => ∃ (x : V) (h : HM) (p : Nat) (nx : Bool), vs = [x, nV p, nxS nx] ∧ HomR K G x h ∧ v = .int (h.near p nx)
abbrev N__law_near : List Str := ["_law_home", "_law_spot_at", "_law_manner", "_law_turns", "_law_inner", "_law_found"]
abbrev P__law_near : List Str := ["_law_home", "_law_spot_at", "_law_manner"]
theorem sc__law_near : FnScope N__law_near P__law_near (defScope s__law_near) := ⟨rfl, rfl, rfl, by decide +kernel, rfl, by decide +kernel, by decide +kernel⟩
theorem F__law_near {P : Program} {w : World} {K : PySem.W.Frag} {mg : Str → Option Value} {base : Heap} (T : Tx K w mg) : Kp P w K mg base 1 "_law_near" P__law_near (sp__law_near K) := by
  obtain ⟨fd, F⟩ := T.d__law_near
  refine ⟨_, fd, T.g__law_near, F.kp, F.bindsN (fun _ _ _ _ _ _ us hl => match us, hl with | [_, _, _], _ => rfl), F.ok (N := N__law_near) sc__law_near len_PV fun cdv A outer s H vs Q E hr hpre => ⟨_, PSs.nox (pss_cons (ps_asg (pe_callB call_divmod (by rfl) T.f_divmod (by decide +kernel) (pa_cons (pv 1) (pa_cons (pe_callB call_len_seq (by rfl) T.f_len (by decide +kernel) (pa_cons (pe_dget (units1 hr.units) (pv 0) pe_str (fun _ _ => rfl)) pa_nil)) pa_nil))) (pg_tup (n := 2) rfl (pgs_cons (pg_name (i := 3) sc__law_near.nd rfl (Or.inl rfl)) (pgs_cons (pg_name (i := 4) sc__law_near.nd rfl (Or.inl rfl)) pgs_nil))))
  (pss_cons (ps_set (i := 5) sc__law_near.nd rfl (.inl rfl) (pe_op op_add (pe_op op_mul (pv 3) (pe_callB call_len_seq (by rfl) T.f_len (by decide +kernel) (pa_cons (pe_dget (units1 hr.units) (pv 0) pe_str (fun _ _ => rfl)) pa_nil))) (pe_ix ix_list (pe_dget (units1 hr.units) (pv 0) pe_str (fun _ _ => rfl)) (pv 4) (fun _ _ => rfl))))
  (pss_one (ps_ret (pe_ifExp (PW.pt (pw_or (pt_cmpR op_eq (pv 2) pe_str (nomark _)) (pw_or1 (pt_cmpR op_in_seq (pv 4) (pe_dget (units1 hr.units) (pv 0) pe_str (fun _ _ => rfl)) (by rfl))))) (pv 5) (pe_op op_sub (pv 5) pe_int)))))), ?_⟩⟩
  exact start_PV hpre (by
    rintro G v I Q hI ⟨x, h, p, nx, rfl, ⟨a, g, l, sp, be, ls, rfl, hF, ok⟩, rfl⟩ q
    obtain ⟨F0, FP⟩ := ok.F_bd
    obtain ⟨P0, P7⟩ := ok.P_bd
    have hm : p % h.P < h.P := Nat.mod_lt _ P0
    refine go_un2 hI (x := nV (p / h.P)) (y := nV (p % h.P)) (eu_divmod (i := (p : Int)) (j := (h.P : Int)) (ea_cons (ev_var rfl) (ea_cons (ev_eqv (ev_lenL (hF.be (ev_var rfl)) hF.b) (by rw [nL_len, below_len])) ea_nil)) ⟨by omega, by omega⟩) ?_
    refine go_asg hI (v := nV (p / h.P * h.F + h.cnt (p % h.P))) (ev_eqv (ev_I0 (ev_I (C := CMul) (i := ((p / h.P : Nat) : Int)) (j := (h.F : Int)) (ev_var rfl) (ev_eqv (ev_lenL (hF.sp (ev_var rfl)) hF.s) (by rw [nL_len]; rfl)) (Or.inr ⟨by omega, by omega⟩)) (ev_ixL (hF.be (ev_var rfl)) (ev_var rfl) hF.b (by rw [atI_nat, nL_get (by rw [below_len]; exact hm), below_at hm]))) rfl) ?_
    refine go_retV hI (ev_if (b := nx || h.bo (p % h.P)) (v := .int (h.near p nx)) (et_or (a := nx) (et_test (ev_eqB (x := nxS nx) (y := .str "next") (ev_var rfl) ev_c rfl (by cases nx <;> rfl))) fun _ => et_test (ev_eqv (ev_op (x := nV (p % h.P)) (y := .ref sp) (ev_var rfl) (hF.sp (ev_var rfl)) (rv_isL hF.s rfl flat_nL)) (by rw [bor_spots hm]))) (fun hz => ?_) fun hz => ?_) rfl (q G (Ex.refl G))
    · refine ev_eqv (ev_var rfl) ?_
      show V.int _ = V.int _
      congr 1
      unfold HM.near
      rw [if_pos hz]
      omega
    · refine ev_eqv (ev_I0 (i := ((p / h.P * h.F + h.cnt (p % h.P) : Nat) : Int)) (j := 1) (ev_var rfl) ev_c) ?_
      show V.int _ = V.int _
      congr 1
      unfold HM.near
      rw [if_neg (by rw [hz]; decide)])
end Lm
end
section
set_option Elab.async false
set_option linter.all false
set_option maxRecDepth 100000
set_option maxHeartbeats 2000000
namespace Lm
open PySem PySem.Spec L2 Evl
local macro_rules | `(tactic| infer_instance) => `(tactic| first | (with_reducible exact ev_c) | ((with_reducible apply ev_var); exact rfl) | (with_reducible exact ea_nil) | (intro _; infer_instance) | ((with_reducible apply ev_I0) <;> try infer_instance) | ((with_reducible apply ev_I) <;> try infer_instance) | ((with_reducible apply ev_isInt) <;> try infer_instance) | ((with_reducible apply ev_isBool) <;> try infer_instance) | ((with_reducible apply ev_isStr) <;> try infer_instance) | ((with_reducible apply ev_isTup) <;> try infer_instance) | ((with_reducible apply ev_isN) <;> try infer_instance) | ((with_reducible apply ev_notN) <;> try infer_instance) | ((with_reducible apply ev_neg) <;> try infer_instance) | ((with_reducible apply ev_fld) <;> try infer_instance) | ((with_reducible apply ev_ixT) <;> try infer_instance) | ((with_reducible apply ev_ixL) <;> try infer_instance) | ((with_reducible apply ev_andV) <;> try infer_instance) | ((with_reducible apply ev_orV) <;> try infer_instance) | ((with_reducible apply ev_notV) <;> try infer_instance) | ((with_reducible apply ev_callV) <;> try infer_instance) | ((with_reducible apply ea_cons) <;> try infer_instance) | ((with_reducible apply et_test) <;> try infer_instance) | ((with_reducible apply et_B) <;> try infer_instance) | ((with_reducible apply et_not) <;> try infer_instance) | ((with_reducible apply et_and) <;> try infer_instance) | ((with_reducible apply et_or) <;> try infer_instance) | ((with_reducible apply ev_eq) <;> first | infer_instance | exact rfl | skip) | ((with_reducible apply ev_ne) <;> first | infer_instance | exact rfl | skip) | ((with_reducible apply eu_tup) <;> first | infer_instance | decide | skip) | ((with_reducible apply el_lst) <;> first | infer_instance | decide | skip))
theorem ex_disp5 {σ : St} {G : Hp} {k1 k2 k3 k4 k5 : Str} {t1 t2 t3 t4 t5 : TE} {v1 v2 v3 v4 v5 : V} {kvs : List (Key × V)} (h1 : Ev t1 σ G v1) (h2 : Ev t2 σ G v2) (h3 : Ev t3 σ G v3) (h4 : Ev t4 σ G v4) (h5 : Ev t5 σ G v5)
    (hm : mergeK [] [(.inr k1, v1), (.inr k2, v2), (.inr k3, v3), (.inr k4, v4), (.inr k5, v5)] = kvs) :
    EvX (tDisp [(tC (.str k1), t1), (tC (.str k2), t2), (tC (.str k3), t3), (tC (.str k4), t4), (tC (.str k5), t5)]) σ G (fun w G' => ∃ p, w = .ref p ∧ G p = none ∧ G' = upd G p (.dK kvs)) := fun H e Q q p hp => by
  subst hm
  have hg := fresh_back e hp
  have n0 : Ex H (upd H p (.dK [])) := Ex.new hp
  refine h1 _ (e.trans n0) _ fun H1 e1 => h2 H1 ((e.trans n0).trans e1) _ fun H2 e2 => h3 H2 (((e.trans n0).trans e1).trans e2) _ fun H3 e3 => h4 H3 ((((e.trans n0).trans e1).trans e2).trans e3) _ fun H4 e4 => h5 H4 (((((e.trans n0).trans e1).trans e2).trans e3).trans e4) _ fun H5 e5 => ?_
  have f5 : Ex (upd H p (.dK [])) H5 := (((e1.trans e2).trans e3).trans e4).trans e5
  refine ⟨f5 p _ upd_same, [(.inr k1, v1), (.inr k2, v2), (.inr k3, v3), (.inr k4, v4), (.inr k5, v5)], rfl, (show (5 : Nat) ≤ 15 by decide), ?_⟩
  exact q _ _ _ (Stp.take e hp (Ex.mut (n0.trans f5) hp) upd_same) ⟨p, rfl, hg, rfl⟩
theorem given_sizes (gs : List Nat) : given gs.length (fun i => again gs (1 + i)) (fun i => nV (1 + i)) = nL (sizes gs) := by
  unfold given sizes nL
  rw [List.filter_map, List.map_map]
  have e : (fun i => again gs (1 + i)) = (again gs ∘ fun i => i + 1) := by
    funext i
    show again gs (1 + i) = again gs (i + 1)
    rw [Nat.add_comm]
  rw [e]
  apply List.map_congr_left
  intro i _
  show nV (1 + i) = nV (i + 1)
  rw [Nat.add_comm]
theorem sk_gap {h : HM} (o : h.Ok) {g : Nat} (hg : g < h.size) : h.gaps.getD g 0 = h.sk.getD g 0 := by
  unfold HM.sk
  rw [List.getD_eq_getElem?_getD, List.getD_eq_getElem?_getD, List.getElem?_take_of_lt hg]
theorem ground_last {K : PySem.W.Frag} {G : Hp} {h : HM} (o : h.Ok) : atI (nL h.bs) (-1) = some (nV h.last) := by
  rw [atI_last (by intro z; exact o.ne (List.map_eq_nil_iff.mp z))]
  unfold nL
  rw [List.getLast?_map, List.getLast?_eq_some_getLast o.ne, o.last_eq]
  rfl
def sp__law_place_house (K : PySem.W.Frag) : Sp := PI 2 fun I vs G R => ∃ (g l : Addr) (h : HM) (ls : List V), vs = [.ref g, .ref l] ∧ SqL K G g (nL h.bs) ∧ SqL K G l ls ∧ AllR (RowL K G) ls h.rows ∧ h.Ok ∧ R = fun v G2 => HomR K G2 v h
abbrev N__law_place_house : List Str := ["_law_ground_here", "_law_lanes_here", "_law_groups", "_law_every", "_law_base", "_law_lane", "_law_gaps", "_law_size_here", "_law_spots", "_law_below", "_law_spot_at", "_law_group", "_law_k"]
abbrev P__law_place_house : List Str := ["_law_ground_here", "_law_lanes_here"]
theorem sc__law_place_house : FnScope N__law_place_house P__law_place_house (defScope s__law_place_house) := ⟨rfl, rfl, rfl, by decide +kernel, rfl, by decide +kernel, by decide +kernel⟩
theorem F__law_place_house {P : Program} {w : World} {K : PySem.W.Frag} {mg : Str → Option Value} {base : Heap} (T : Tx K w mg) (F__law_multiple : Kp P w K mg base 2 "_law_multiple" P__law_multiple (sp__law_multiple K)) (F__law_gap : Kp P w K mg base 1 "_law_gap" P__law_gap (sp__law_gap K)) (F__law_again : Kp P w K mg base 1 "_law_again" P__law_again (sp__law_again K)) : Kp P w K mg base 3 "_law_place_house" P__law_place_house (sp__law_place_house K) := by
  obtain ⟨fd, F⟩ := T.d__law_place_house
  refine ⟨_, fd, T.g__law_place_house, F.kp, F.bindsN (fun _ _ _ _ _ _ us hl => match us, hl with | [_, _], _ => rfl), F.ok (N := N__law_place_house) sc__law_place_house len_PI fun cdv A outer s H vs Q E hr hpre => ⟨_, PSs.nox (pss_cons (ps_asg (pe_tup (pa_cons pe_int (pa_cons pe_int pa_nil))) (pg_tup (n := 2) rfl (pgs_cons (pg_name (i := 2) sc__law_place_house.nd rfl (Or.inl rfl)) (pgs_cons (pg_name (i := 3) sc__law_place_house.nd rfl (Or.inl rfl)) pgs_nil))))
  (pss_cons (ps_for PassesOwn.never rfl (pi_list (pe_slice sl_list (pv 0) po_none (po_some (pe_un un_neg pe_int)))) (pg_name (i := 4) sc__law_place_house.nd rfl (Or.inl rfl))
    (pss_one (ps_set (i := 2) sc__law_place_house.nd rfl (.inl rfl) (pe_op op_mul (pv 2) (pv 4)))))
  (pss_cons (ps_for PassesOwn.never rfl (pi_list (pv 1)) (pg_name (i := 5) sc__law_place_house.nd rfl (Or.inl rfl))
    (pss_one (ps_set (i := 3) sc__law_place_house.nd rfl (.inl rfl) (pe_ifExp (pt_cmpR op_eq (pe_ix ix_list (pv 5) pe_int (fun _ _ => rfl)) pe_int (nomark _)) (pe_kall F__law_multiple (hr.mono (by decide)) (by rfl) (pa_cons (pv 3) (pa_cons (pe_ix ix_list (pv 5) pe_int (fun _ _ => rfl)) pa_nil))) (pv 3)))))
  (pss_cons (ps_set (i := 6) sc__law_place_house.nd rfl (.inr rfl) (pe_lc (own := [("_law_group", 11)]) rfl sc__law_place_house.nd (pi_range1 (by rfl) T.f_range (pa_cons (pe_op op_mul (pv 2) (pv 3)) pa_nil)) (blkOk_by (own := [("_law_group", 11)]) (N := N__law_place_house) (sc := defScope s__law_place_house) (by decide +kernel)) (fun _ _ _ _ _ => (pg_name (i := 11) sc__law_place_house.nd rfl (Or.inl rfl))) (fun _ _ _ _ _ => pts_nil) (fun _ _ _ _ _ => (pe_kall F__law_gap (hr.mono (by decide)) (by rfl) (pa_cons (pv 0) (pa_cons (pv 1) (pa_cons (pv 11) pa_nil)))))))
  (pss_cons (ps_set (i := 7) sc__law_place_house.nd rfl (.inl rfl) (pe_ix ix_list (pe_lc (own := [("_law_k", 12)]) rfl sc__law_place_house.nd (pi_range2 (by rfl) T.f_range (pa_cons pe_int (pa_cons (pe_op op_add (pe_callB call_len_seq (by rfl) T.f_len (by decide +kernel) (pa_cons (pv 6) pa_nil)) pe_int) pa_nil))) (blkOk_by (own := [("_law_k", 12)]) (N := N__law_place_house) (sc := defScope s__law_place_house) (by decide +kernel)) (fun _ _ _ _ _ => (pg_name (i := 12) sc__law_place_house.nd rfl (Or.inl rfl))) (fun _ _ _ _ _ => (pts_one (pt_val (pe_kall F__law_again (hr.mono (by decide)) (by rfl) (pa_cons (pv 6) (pa_cons (pv 12) pa_nil)))))) (fun _ _ _ _ _ => (pv 12))) pe_int (fun _ _ => rfl)))
  (pss_cons (ps_par (i := 8) (j := 9) rfl sc__law_place_house.nd rfl rfl (by decide) rfl rfl (pa_cons (pe_lst pa_nil) (pa_cons (pe_lst pa_nil) pa_nil)) (by rfl))
  (pss_cons (ps_for PassesOwn.never rfl (pi_range1 (by rfl) T.f_range (pa_cons (pe_op op_mul (pv 7) (pe_ix ix_list (pv 0) (pe_un un_neg pe_int) (fun _ _ => rfl))) pa_nil)) (pg_name (i := 10) sc__law_place_house.nd rfl (Or.inl rfl))
    (pss_cons (ps_expr (pe_bm PySem.F.plainAttrs_list PySem.F.slot_list_append PySem.F.type_list_append mt_append (pv 9) (pa_cons (pe_callB call_len_seq (by rfl) T.f_len (by decide +kernel) (pa_cons (pv 8) pa_nil)) pa_nil)))
  (pss_one (ps_if (pt_cmpR op_ge (pe_op op_mod (pe_callTy call_int1 (by rfl) T.f_int (by decide +kernel) (pa_cons (pv 10) pa_nil)) (pe_ix ix_list (pv 0) (pe_un un_neg pe_int) (fun _ _ => rfl))) (pe_ix ix_list (pv 6) (pe_op op_fdiv (pv 10) (pe_ix ix_list (pv 0) (pe_un un_neg pe_int) (fun _ _ => rfl))) (fun _ _ => rfl)) (nomark _))
    (pss_one (ps_expr (pe_bm PySem.F.plainAttrs_list PySem.F.slot_list_append PySem.F.type_list_append mt_append (pv 8) (pa_cons (pv 10) pa_nil))))
    pss_nil))))
  (pss_one (ps_ret (pe_disp (pps_cons pe_str (pv 0) (pps_cons pe_str (pv 1) (pps_cons pe_str (pv 7) (pps_cons pe_str (pv 8) (pps_cons pe_str (pv 9) pps_nil))))) (by rfl) (by rfl) (fun z => by cases z) (by decide))))))))))), ?_⟩⟩
  exact start_PI hpre (by
    rintro G R I Q hI ⟨a, b, h, ls, rfl, ha, hb, hls, ok, rfl⟩ q
    have lb := ok.last_bd
    have gb := ok.grp_bd
    have eb := evs_bd ok.row_bd
    have gpb := ok.gaps_bd
    have szb := ok.size_bd
    have hgl := HM.gaps_len h
    have pb := ok.P_bd
    refine go_un2 hI (x := nV 1) (y := nV 1) (eu_tup (ea_cons ev_c (ea_cons ev_c ea_nil)) (show (2 : Nat) ≤ 100000 by decide)) ?_
    refine go_forV (α := Option V) (n := (nL h.bs.dropLast).length) (fun i s => [some (.ref a), some (.ref b), some (nV (prod (h.bs.dropLast.take i))), some (nV 1), s, none, none, none, none, none, none, none, none]) (fun _ _ => True) none rfl trivial hI (ew_listN (el_sliceL (ys := nL h.bs.dropLast) (ev_var rfl) eo_none (eo_some (ev_neg ev_c)) ha (by rw [cut_but]; unfold nL; rw [List.map_dropLast]))) ?_ ?_
    · rintro I' hI' _ i s y H H' hi _ eH yy
      obtain ⟨y1, y2, y3⟩ := yat_name (m := 4) (σ' := [some (.ref a), some (.ref b), some (nV (prod (h.bs.dropLast.take i))), some (nV 1), s, none, none, none, none, none, none, none, none]) yy
      rw [nL_len] at hi
      rw [nL_get hi] at y1
      obtain rfl := Option.some.inj y1
      refine ⟨_, y2, y3, ?_⟩
      have hm : h.bs.dropLast.getD i 0 ∈ h.bs := by
        rw [List.getD_eq_getElem?_getD, List.getElem?_eq_getElem hi]
        exact (List.dropLast_sublist _).subset (List.getElem_mem hi)
      obtain ⟨b1, b2⟩ := ok.b _ hm
      refine go_asg1 hI' (v := nV (prod (h.bs.dropLast.take (i + 1)))) ?_ ?_
      · rw [List.take_succ, List.getElem?_eq_getElem hi]
        show Ev _ _ _ (nV (prod (_ ++ [h.bs.dropLast[i]])))
        rw [prod_snoc, show nV (prod (h.bs.dropLast.take i) * h.bs.dropLast[i]) = .int ((prod (h.bs.dropLast.take i) : Nat) * (h.bs.dropLast.getD i 0 : Nat)) by rw [List.getD_eq_getElem?_getD, List.getElem?_eq_getElem hi, ← Int.natCast_mul]; rfl]
        exact ev_I (C := CMul) (i := (prod (h.bs.dropLast.take i) : Nat)) (j := (h.bs.dropLast.getD i 0 : Nat)) (ev_var rfl) (ev_var rfl) (Or.inr ⟨by omega, by omega⟩)
      · dsimp only
        exact LN.mk (some (nV (h.bs.dropLast.getD i 0))) rfl rfl trivial
    rintro sb _
    rw [nL_len, List.take_length]
    refine go_forS (α := Option V) (fun i s => [some (.ref a), some (.ref b), some (nV (prod h.bs.dropLast)), some (nV (evs (h.rows.take i))), sb, s, none, none, none, none, none, none, none]) (fun _ _ => True) none rfl trivial hI (ek_list (ev_var rfl) hb) ?_ ?_
    · rintro i s y H H' hi _ eH yy
      obtain ⟨y1, y2, y3⟩ := yat_name (m := 5) (σ' := [some (.ref a), some (.ref b), some (nV (prod h.bs.dropLast)), some (nV (evs (h.rows.take i))), sb, s, none, none, none, none, none, none, none]) yy
      refine ⟨_, y2, y3, ?_⟩
      obtain ⟨r, hr1, t, rfl, ht⟩ := hls.at y1
      obtain ⟨b1, b2, b3, b4⟩ := ok.r r (List.mem_of_getElem? hr1)
      have eb1 := evs_bd (rows := h.rows.take i) fun r hr => ok.row_bd r (List.mem_of_mem_take hr)
      have hes : evs (h.rows.take (i + 1)) = if r.1 = 0 then lcmN (evs (h.rows.take i)) r.2.1 else evs (h.rows.take i) := by
        unfold evs
        rw [List.take_succ, hr1]
        simp [List.foldl_append]
      refine go_asg1 hI (v := nV (evs (h.rows.take (i + 1)))) (ev_if (b := decide (r.1 = 0)) (et_eqv (et_test (ev_eq (x := nV r.1) (y := nV 0) (ev_ixL (ev_var rfl) ev_c ht rfl) ev_c rfl)) dec_nV) (fun hz => ?_) fun hz => ?_) ?_
      · have hz' : r.1 = 0 := by simpa using hz
        rw [hes, if_pos hz']
        exact ev_callV (vs := [nV (evs (h.rows.take i)), nV r.2.1]) (ea_cons (ev_var rfl) (ea_cons (ev_ixL (ev_var rfl) ev_c ht rfl) ea_nil)) (sp_PV ⟨_, _, rfl, by omega, by omega, by omega, rfl⟩)
      · have hz' : ¬ r.1 = 0 := by simpa using hz
        rw [hes, if_neg hz']
        exact ev_var rfl
      · dsimp only
        exact LN.mk (some (.ref t)) rfl rfl trivial
    rintro sr _
    rw [hls.len, List.take_length]
    rw [hgl] at gpb
    refine go_asgL hI (xs := nL h.gaps) (el_eqv (el_lcF (n := prod h.bs.dropLast * evs h.rows) (fun _ => true) (fun i => nV (gapOf h.bs h.rows i)) (fun i => nV i) (ew_rng (ea_cons (ev_eqv (ev_I (C := CMul) (i := (prod h.bs.dropLast : Nat)) (j := (evs h.rows : Nat)) (ev_var rfl) (ev_var rfl) (Or.inr ⟨by omega, by omega⟩)) rfl) ea_nil) (by omega)) (by omega) (fun _ => rfl) ?_) ?_) ?_
    · intro i hi
      refine ⟨et_yes, fun _ => ev_callV (vs := [.ref a, .ref b, nV i]) (ea_cons (ev_var rfl) (ea_cons (ev_var rfl) (ea_cons (ev_var rfl) ea_nil))) (sp_PV ⟨a, b, h.bs, h.rows, ls, i, rfl, ha, hb, hls, ok.n1, ok.n3, fun y hy => ?_, fun r hr => ?_, rfl⟩)⟩
      · have := ok.b y hy
        omega
      · have := ok.r r hr
        exact ⟨this.1, by omega⟩
    · rw [given_all]
      unfold HM.gaps nL
      rw [List.map_map]
      rfl
    intro p hp
    have e1 : Ex G (upd G p (.lst (nL h.gaps))) := Ex.new hp
    have hgp : upd G p (.lst (nL h.gaps)) p = some (.lst (nL h.gaps)) := upd_same
    generalize upd G p (.lst (nL h.gaps)) = G1 at e1 hgp ⊢
    have ha1 := ex_l e1 ha
    refine go_asg hI (v := nV h.size) (ev_ixN (xs := nL (sizes h.gaps)) (el_eqv (el_lcF (n := h.gaps.length) (fun i => again h.gaps (1 + i)) (fun i => nV (1 + i)) (fun i => nV (1 + i)) (ew_len (ew_rng2 (lo := 1) (hi := h.gaps.length + 1) (ea_cons ev_c (ea_cons (ev_eqv (ev_I0 (i := (h.gaps.length : Int)) (j := 1) (ev_eqv (ev_lenL (ev_var rfl) (sq_of hgp)) (by rw [nL_len])) ev_c) rfl) ea_nil)) (by omega) (by omega)) (by omega)) (by omega) (fun _ => rfl) ?_) (given_sizes _)) (fun _ => ev_c) ?_) ?_
    · intro i hi
      exact ⟨et_B (ev_callV (vs := [.ref p, nV (1 + i)]) (ea_cons (ev_var rfl) (ea_cons (ev_var rfl) ea_nil)) (sp_PV ⟨p, h.gaps, 1 + i, rfl, sq_of hgp, by omega, by omega, by omega, rfl⟩)), fun _ => ev_var rfl⟩
    · show atI (nL (sizes h.gaps)) ((0 : Nat) : Int) = _
      rw [atI_nat]
      have := sizes_head (gs := h.gaps) (by omega)
      unfold HM.size nL
      cases hsz : sizes h.gaps with
      | nil => rw [hsz] at this; cases this
      | cons k l => rfl
    refine go_parOO hI (xs := []) (ys := []) (el_lst ea_nil (by decide)) (fun _ _ => el_lst ea_nil (by decide)) fun r t hr ht hrt _ => ?_
    have cW := cl_wl (l := t) (cl_wl (l := r) hI)
    have eP : ∀ o u, Ex G1 (upd (upd G1 r o) t u) := fun o u => Ex.mut (Ex.new hr) ht
    refine go_forP (α := Option V) (n := h.P) (Gs := G1) (Y := YFn fun i => nV i) (fun i s => [some (.ref a), some (.ref b), some (nV (prod h.bs.dropLast)), some (nV (evs h.rows)), sb, sr, some (.ref p), some (nV h.size), some (.ref r), some (.ref t), s, none, none])
      (fun i _ => upd (upd G1 r (.lst (nL ((List.range i).filter h.bo)))) t (.lst (nL ((List.range i).map h.cnt)))) (fun _ _ => True) none rfl rfl trivial cW (ek_rng (ea_cons (ev_eqv (ev_I (C := CMul) (i := (h.size : Int)) (j := (h.last : Int)) (ev_var rfl) (ev_ixL (ev_var rfl) (ev_neg ev_c) ha1 (ground_last (K := K) (G := G) ok)) (Or.inr ⟨by omega, by omega⟩)) rfl) ea_nil) (by omega)) (fun i _ _ => eP _ _) ?_ ?_
    · rintro i s y H H' hi _ eH ⟨e2, y1⟩
      subst e2 y1
      refine ⟨_, Ex.refl _, fun Q q => q, ?_⟩
      have hlen1 : ((List.range i).filter h.bo).length ≤ i := by
        have := List.length_filter_le h.bo (List.range i)
        rwa [List.length_range] at this
      have hdv : i / h.last < h.size := by
        rw [Nat.div_lt_iff_lt_mul (by omega)]
        exact hi
      refine go_seq (go_app cW (fun H j => wl_upd j) (xs := nL ((List.range i).map h.cnt)) (v := nV (h.cnt i)) upd_same (ev_var rfl) (ev_eqv (ev_lenL (ev_var rfl) (xs := nL ((List.range i).filter h.bo)) (sq_of (by rw [upd_ne hrt]; exact upd_same))) (by rw [nL_len]; rfl)) (by rw [nL_len, List.length_map, List.length_range]; omega) ?_)
      dsimp only
      refine go_nx ?_
      have hG2 : upd (upd (upd G1 r (.lst (nL ((List.range i).filter h.bo)))) t (.lst (nL ((List.range i).map h.cnt)))) t (.lst (nL ((List.range i).map h.cnt) ++ [nV (h.cnt i)])) = upd (upd G1 r (.lst (nL ((List.range i).filter h.bo)))) t (.lst (nL ((List.range (i + 1)).map h.cnt))) := by
        rw [upd_upd]
        unfold nL
        rw [List.range_succ, List.map_append, List.map_append]
        rfl
      rw [hG2]
      refine go_if (b := h.bo i) cW (et_eqv (et_test (ev_I0 (i := ((i % h.last : Nat) : Int)) (j := (h.sk.getD (i / h.last) 0 : Nat)) (ev_eqv (ev_I (i := (i : Int)) (j := (h.last : Int)) (ev_int1 (ev_var rfl)) (ev_ixL (ev_var rfl) (ev_neg ev_c) (ex_l (eP _ _) ha1) (ground_last (K := K) (G := G) ok)) (by omega)) rfl) (ev_ixL (i := ((i / h.last : Nat) : Int)) (ev_var rfl) (ev_eqv (ev_I (C := CDiv) (i := (i : Int)) (j := (h.last : Int)) (ev_var rfl) (ev_ixL (ev_var rfl) (ev_neg ev_c) (ex_l (eP _ _) ha1) (ground_last (K := K) (G := G) ok)) ⟨by omega, by omega⟩) rfl) (sq_of (eP _ _ _ _ hgp)) (by rw [atI_nat, nL_get (by omega), sk_gap ok hdv])))) (by unfold HM.bo; rw [Bool.eq_iff_iff, decide_eq_true_iff, decide_eq_true_iff]; omega)) (fun hz => ?_) fun hz => ?_
      · refine go_app cW (fun H j => wl_upd2 hrt (fun _ _ k => wl_upd k) j) (xs := nL ((List.range i).filter h.bo)) (v := nV i) (by rw [upd_ne hrt]; exact upd_same) (ev_var rfl) (ev_var rfl) (by rw [nL_len]; omega) ?_
        dsimp only
        refine LN.mk (some (nV i)) rfl ?_ trivial
        rw [upd_comm hrt.symm, upd_upd]
        unfold nL
        rw [List.range_succ, List.filter_append, List.filter_cons, if_pos hz, List.filter_nil, List.map_append (f := nV) (l₁ := (List.range i).filter h.bo)]
        rfl
      · refine go_next ?_
        dsimp only
        refine LN.mk (some (nV i)) rfl ?_ trivial
        rw [List.range_succ (n := i), List.filter_append, List.filter_cons, if_neg (by rw [hz]; decide), List.filter_nil, List.append_nil]
    rintro ss _
    refine go_retX cW (ex_disp5 (ev_var rfl) (ev_var rfl) (ev_var rfl) (ev_var rfl) (ev_var rfl) rfl) fun v G' e' ⟨d, e3, hd, e4⟩ => ?_
    subst e3 e4
    have eF : Ex G1 (upd (upd (upd G1 r (.lst (nL h.spots))) t (.lst (nL h.below))) d (.dK [(kS "ground", .ref a), (kS "lanes", .ref b), (kS "groups", nV h.size), (kS "spots", .ref r), (kS "below", .ref t)])) := (eP _ _).trans e'
    obtain ⟨hd1, hd2⟩ := upd_none hd
    obtain ⟨hd3, hd4⟩ := upd_none hd1
    refine gov_out (cl_wl hI) (gov_out hI (q _ _ (e1.trans eF) ⟨d, a, b, r, t, ls, rfl, ⟨upd_same, ex_l (e1.trans eF) ha, ex_l (e1.trans eF) hb, hls.imp fun _ _ => RowL.mono (e1.trans eF), ?_, ?_⟩, ok⟩))
    · exact sq_of (by rw [upd_ne (fun z => hd4 z.symm), upd_ne hrt]; exact upd_same)
    · exact sq_of (by rw [upd_ne (fun z => hd2 z.symm)]; exact upd_same))
end Lm
end
section
set_option Elab.async false
set_option linter.all false
set_option maxRecDepth 100000
set_option maxHeartbeats 2000000
namespace Lm
open PySem PySem.Spec L2 Evl
local macro_rules | `(tactic| infer_instance) => `(tactic| first | (with_reducible exact ev_c) | ((with_reducible apply ev_var); exact rfl) | (with_reducible exact ea_nil) | (intro _; infer_instance) | ((with_reducible apply ev_I0) <;> try infer_instance) | ((with_reducible apply ev_I) <;> try infer_instance) | ((with_reducible apply ev_isInt) <;> try infer_instance) | ((with_reducible apply ev_isBool) <;> try infer_instance) | ((with_reducible apply ev_isStr) <;> try infer_instance) | ((with_reducible apply ev_isTup) <;> try infer_instance) | ((with_reducible apply ev_isN) <;> try infer_instance) | ((with_reducible apply ev_notN) <;> try infer_instance) | ((with_reducible apply ev_neg) <;> try infer_instance) | ((with_reducible apply ev_fld) <;> try infer_instance) | ((with_reducible apply ev_ixT) <;> try infer_instance) | ((with_reducible apply ev_ixL) <;> try infer_instance) | ((with_reducible apply ev_andV) <;> try infer_instance) | ((with_reducible apply ev_orV) <;> try infer_instance) | ((with_reducible apply ev_notV) <;> try infer_instance) | ((with_reducible apply ev_callV) <;> try infer_instance) | ((with_reducible apply ea_cons) <;> try infer_instance) | ((with_reducible apply et_test) <;> try infer_instance) | ((with_reducible apply et_B) <;> try infer_instance) | ((with_reducible apply et_not) <;> try infer_instance) | ((with_reducible apply et_and) <;> try infer_instance) | ((with_reducible apply et_or) <;> try infer_instance) | ((with_reducible apply ev_eq) <;> first | infer_instance | exact rfl | skip) | ((with_reducible apply ev_ne) <;> first | infer_instance | exact rfl | skip) | ((with_reducible apply eu_tup) <;> first | infer_instance | decide | skip) | ((with_reducible apply el_lst) <;> first | infer_instance | decide | skip))
def HlR (K : PySem.W.Frag) (G : Hp) (v : V) (hs : List HM) : Prop := ∃ p xs, v = .ref p ∧ SqL K G p xs ∧ AllR (HomR K G) xs hs ∧ hs.length ≤ 3 ∧ 1 ≤ hs.length
def SlR (K : PySem.W.Frag) (G : Hp) (v : V) (ss : List Sp1) : Prop := ∃ p xs, v = .ref p ∧ SqL K G p xs ∧ AllR (StR K G) xs ss ∧ ss.length ≤ 4
theorem HlR.mono {K : PySem.W.Frag} {G G' : Hp} {v : V} {hs : List HM} (e : Ex G G') : HlR K G v hs → HlR K G' v hs := fun ⟨p, xs, h1, h2, h3, h4⟩ => ⟨p, xs, h1, ex_l e h2, h3.imp fun _ _ => HomR.mono e, h4⟩
theorem SlR.mono {K : PySem.W.Frag} {G G' : Hp} {v : V} {ss : List Sp1} (e : Ex G G') : SlR K G v ss → SlR K G' v ss := fun ⟨p, xs, h1, h2, h3, h4⟩ => ⟨p, xs, h1, ex_l e h2, h3.imp fun _ _ => StR.mono e, h4⟩
theorem HlR.at {K : PySem.W.Frag} {G : Hp} {v : V} {hs : List HM} {i : Nat} (h : HlR K G v hs) (hi : i < hs.length) : ∃ p xs y, v = .ref p ∧ SqL K G p xs ∧ atI xs (i : Int) = some y ∧ HomR K G y (hat hs i) := by
  obtain ⟨p, xs, e, h1, h2, _⟩ := h
  obtain ⟨y, y1, y2⟩ := h2.to (i := i) (a := hat hs i) (by unfold hat; rw [List.getD_eq_getElem?_getD, List.getElem?_eq_getElem hi]; rfl)
  exact ⟨p, xs, y, e, h1, by rw [atI_nat]; exact y1, y2⟩
theorem et_inW3 {K : PySem.W.Frag} {σ : St} {G : Hp} {ta : TE} {w c1 c2 c3 : Str} {b : Bool} (h : Ev ta σ G (.str w)) (e : inV (.str w) [.str c1, .str c2, .str c3] = b) : EvT (tTest (tOp (rIn K false) ta (tLst (tCons (tC (.str c1)) (tCons (tC (.str c2)) (tCons (tC (.str c3)) tNil)))))) σ G b := et_inL3 h e
def sp__law_parts (K : PySem.W.Frag) : Sp := PU 3 fun vs G xs => ∃ (p : Addr) (s : Sp1) (xh yh : V) (h : HM) (hs : List HM), vs = [.ref p, xh, yh] ∧ SqT K G p s.vals ∧ HomR K G xh h ∧ HlR K G yh hs ∧ s.Ok hs h ∧ xs = [nV (roundS hs h s).1, nV (roundS hs h s).2]
abbrev N__law_parts : List Str := ["_law_stride_here", "_law_home", "_law_homes_here", "_law_word", "_law_frames", "_law_places", "_law_shared", "_law_other", "_law_whole"]
abbrev P__law_parts : List Str := ["_law_stride_here", "_law_home", "_law_homes_here"]
theorem sc__law_parts : FnScope N__law_parts P__law_parts (defScope s__law_parts) := ⟨rfl, rfl, rfl, by decide +kernel, rfl, by decide +kernel, by decide +kernel⟩
theorem F__law_parts {P : Program} {w : World} {K : PySem.W.Frag} {mg : Str → Option Value} {base : Heap} (T : Tx K w mg) (F__law_divisor : Kp P w K mg base 1 "_law_divisor" P__law_divisor (sp__law_divisor K)) (F__law_multiple : Kp P w K mg base 2 "_law_multiple" P__law_multiple (sp__law_multiple K)) (F__law_size : Kp P w K mg base 1 "_law_size" P__law_size (sp__law_size K)) : Kp P w K mg base 3 "_law_parts" P__law_parts (sp__law_parts K) := by
  obtain ⟨fd, F⟩ := T.d__law_parts
  refine ⟨_, fd, T.g__law_parts, F.kp, F.bindsN (fun _ _ _ _ _ _ us hl => match us, hl with | [_, _, _], _ => rfl), F.ok (N := N__law_parts) sc__law_parts len_PU fun cdv A outer s H vs Q E hr hpre => ⟨_, PSs.nox (pss_cons (ps_par3 (i := 3) (j := 4) (l := 5) rfl sc__law_parts.nd rfl rfl rfl (by decide) (by decide) (by decide) rfl rfl rfl (pa_cons (pe_ix ix_tup (pv 0) pe_int (fun _ _ => rfl)) (pa_cons (pe_callB call_len_seq (by rfl) T.f_len (by decide +kernel) (pa_cons (pe_dget (units1 hr.units) (pv 1) pe_str (fun _ _ => rfl)) pa_nil)) (pa_cons (pe_callB call_len_seq (by rfl) T.f_len (by decide +kernel) (pa_cons (pe_dget (units1 hr.units) (pv 1) pe_str (fun _ _ => rfl)) pa_nil)) pa_nil))) (by rfl))
  (pss_cons (ps_if (pt_cmpR op_in_seq (pv 3) (pe_lst (pa_cons pe_str (pa_cons pe_str (pa_cons pe_str pa_nil)))) (by rfl))
    (pss_one (ps_ret (pe_tup (pa_cons pe_int (pa_cons pe_int pa_nil)))))
    pss_nil)
  (pss_cons (ps_if (pt_cmpR op_eq (pv 3) pe_str (nomark _))
    (pss_cons (ps_set (i := 6) sc__law_parts.nd rfl (.inl rfl) (pe_kall F__law_divisor (hr.mono (by decide)) (by rfl) (pa_cons (pe_ix ix_tup (pv 0) pe_int (fun _ _ => rfl)) (pa_cons (pe_ix ix_tup (pv 0) pe_int (fun _ _ => rfl)) pa_nil))))
  (pss_one (ps_ret (pe_tup (pa_cons (pe_op op_fdiv (pe_ix ix_tup (pv 0) pe_int (fun _ _ => rfl)) (pv 6)) (pa_cons (pe_op op_fdiv (pe_ix ix_tup (pv 0) pe_int (fun _ _ => rfl)) (pv 6)) pa_nil))))))
    pss_nil)
  (pss_cons (ps_if (pt_cmpR op_in_seq (pv 3) (pe_lst (pa_cons pe_str (pa_cons pe_str pa_nil))) (by rfl))
    (pss_one (ps_ret (pe_tup (pa_cons (pv 4) (pa_cons (pv 4) pa_nil)))))
    pss_nil)
  (pss_cons (ps_if (pt_cmpR op_eq (pv 3) pe_str (nomark _))
    (pss_cons (ps_set (i := 7) sc__law_parts.nd rfl (.inl rfl) (pe_ix ix_list (pv 2) (pe_ix ix_tup (pv 0) pe_int (fun _ _ => rfl)) (fun _ _ => rfl)))
  (pss_cons (ps_set (i := 8) sc__law_parts.nd rfl (.inl rfl) (pe_kall F__law_multiple (hr.mono (by decide)) (by rfl) (pa_cons (pv 5) (pa_cons (pe_callB call_len_seq (by rfl) T.f_len (by decide +kernel) (pa_cons (pe_dget (units1 hr.units) (pv 7) pe_str (fun _ _ => rfl)) pa_nil)) pa_nil))))
  (pss_one (ps_ret (pe_tup (pa_cons (pe_op op_mul (pv 4) (pe_op op_fdiv (pv 8) (pv 5))) (pa_cons (pe_op op_mul (pe_callB call_len_seq (by rfl) T.f_len (by decide +kernel) (pa_cons (pe_dget (units1 hr.units) (pv 7) pe_str (fun _ _ => rfl)) pa_nil)) (pe_op op_fdiv (pv 8) (pe_callB call_len_seq (by rfl) T.f_len (by decide +kernel) (pa_cons (pe_dget (units1 hr.units) (pv 7) pe_str (fun _ _ => rfl)) pa_nil)))) pa_nil)))))))
    pss_nil)
  (pss_cons (ps_set (i := 8) sc__law_parts.nd rfl (.inl rfl) (pe_kall F__law_multiple (hr.mono (by decide)) (by rfl) (pa_cons (pv 5) (pa_cons (pe_kall F__law_size (hr.mono (by decide)) (by rfl) (pa_cons (pe_dget (units1 hr.units) (pv 1) pe_str (fun _ _ => rfl)) (pa_cons (pe_ix ix_tup (pv 0) pe_int (fun _ _ => rfl)) pa_nil))) pa_nil))))
  (pss_one (ps_ret (pe_tup (pa_cons (pe_op op_mul (pv 4) (pe_op op_fdiv (pv 8) (pv 5))) (pa_cons (pe_op op_mul (pv 4) (pe_op op_fdiv (pv 8) (pv 5))) pa_nil))))))))))), ?_⟩⟩
  exact start_PU hpre (by
    rintro G xs I Q hI ⟨p, s, xh, yh, h, hs, rfl, hp, hR, hH, ok, rfl⟩ q
    obtain ⟨a, g, l, sp, be, ls, rfl, hF, okh⟩ := id hR
    have P1 := okh.P_bd
    have F1 := okh.F_bd
    refine go_par3 hI (x := .str s.word) (y := nV h.F) (z := nV h.P) (ea_cons (ev_word (ev_var rfl) hp) (ea_cons (ev_eqv (ev_lenL (hF.sp (ev_var rfl)) hF.s) (by rw [nL_len]; rfl)) (ea_cons (ev_eqv (ev_lenL (hF.be (ev_var rfl)) hF.b) (by rw [nL_len, below_len])) ea_nil))) ?_
    rcases s with c | c | ⟨c, nx⟩ | ⟨c, nx⟩ | k | k | ⟨i, nx⟩ | i | ⟨c, b⟩
    · refine go_take hI (et_inL3 (ev_var rfl) rfl) ?_
      refine go_retU hI (xs := [nV (roundS hs h _).1, nV (roundS hs h _).2]) (eu_tup (ea_cons (ev_c) (ea_cons (ev_c) ea_nil)) (show (2 : Nat) ≤ 100000 by decide)) fun r hr => q r _ (Ex.new hr) hr upd_same
    · refine go_take hI (et_inL3 (ev_var rfl) rfl) ?_
      refine go_retU hI (xs := [nV (roundS hs h _).1, nV (roundS hs h _).2]) (eu_tup (ea_cons (ev_c) (ea_cons (ev_c) ea_nil)) (show (2 : Nat) ≤ 100000 by decide)) fun r hr => q r _ (Ex.new hr) hr upd_same
    · refine go_skip hI (et_inL3 (ev_var rfl) rfl) ?_
      refine go_skip hI (et_w (ev_var rfl) rfl) ?_
      refine go_take hI (et_inL2 (ev_var rfl) rfl) ?_
      refine go_retU hI (xs := [nV (roundS hs h _).1, nV (roundS hs h _).2]) (eu_tup (ea_cons (ev_var rfl) (ea_cons (ev_var rfl) ea_nil)) (show (2 : Nat) ≤ 100000 by decide)) fun r hr => q r _ (Ex.new hr) hr upd_same
    · refine go_skip hI (et_inL3 (ev_var rfl) rfl) ?_
      refine go_skip hI (et_w (ev_var rfl) rfl) ?_
      refine go_take hI (et_inL2 (ev_var rfl) rfl) ?_
      refine go_retU hI (xs := [nV (roundS hs h _).1, nV (roundS hs h _).2]) (eu_tup (ea_cons (ev_var rfl) (ea_cons (ev_var rfl) ea_nil)) (show (2 : Nat) ≤ 100000 by decide)) fun r hr => q r _ (Ex.new hr) hr upd_same
    · refine go_skip hI (et_inL3 (ev_var rfl) rfl) ?_
      refine go_skip hI (et_w (ev_var rfl) rfl) ?_
      refine go_skip hI (et_inL2 (ev_var rfl) rfl) ?_
      refine go_skip hI (et_w (ev_var rfl) rfl) ?_
      have U := okh.unit_bd k
      refine go_asg hI (v := nV (lcmN h.P (h.unit k))) (ev_callV (vs := [nV (h.P), nV (h.unit k)]) (ea_cons (ev_var rfl) (ea_cons (ev_callV (vs := [.ref g, nV k]) (ea_cons (hF.gr (ev_var rfl)) (ea_cons (ev_ixT (ev_var rfl) ev_c hp rfl) ea_nil)) (sp_PV ⟨g, h.bs, k, rfl, hF.g, fun b hb => (okh.b b hb).2, rfl⟩)) ea_nil)) (sp_PV ⟨_, _, rfl, by omega, by omega, by omega, rfl⟩)) ?_
      refine go_retU hI (xs := [nV (roundS hs h _).1, nV (roundS hs h _).2]) (eu_tup (ea_cons (ev_eqv (ev_I (C := CMul) (i := (h.F : Int)) (j := (lcmN h.P (h.unit k) : Nat) / (h.P : Int)) (ev_var rfl) (ev_I (C := CDiv) (i := ((lcmN h.P (h.unit k) : Nat) : Int)) (j := (h.P : Int)) (ev_var rfl) (ev_var rfl) ⟨by omega, by omega⟩) (Or.inl ⟨by omega, by omega⟩)) rfl) (ea_cons (ev_eqv (ev_I (C := CMul) (i := (h.F : Int)) (j := (lcmN h.P (h.unit k) : Nat) / (h.P : Int)) (ev_var rfl) (ev_I (C := CDiv) (i := ((lcmN h.P (h.unit k) : Nat) : Int)) (j := (h.P : Int)) (ev_var rfl) (ev_var rfl) ⟨by omega, by omega⟩) (Or.inl ⟨by omega, by omega⟩)) rfl) ea_nil)) (show (2 : Nat) ≤ 100000 by decide)) fun r hr => q r _ (Ex.new hr) hr upd_same
    · refine go_skip hI (et_inL3 (ev_var rfl) rfl) ?_
      refine go_skip hI (et_w (ev_var rfl) rfl) ?_
      refine go_skip hI (et_inL2 (ev_var rfl) rfl) ?_
      refine go_skip hI (et_w (ev_var rfl) rfl) ?_
      have U := okh.unit_bd k
      refine go_asg hI (v := nV (lcmN h.P (h.unit k))) (ev_callV (vs := [nV (h.P), nV (h.unit k)]) (ea_cons (ev_var rfl) (ea_cons (ev_callV (vs := [.ref g, nV k]) (ea_cons (hF.gr (ev_var rfl)) (ea_cons (ev_ixT (ev_var rfl) ev_c hp rfl) ea_nil)) (sp_PV ⟨g, h.bs, k, rfl, hF.g, fun b hb => (okh.b b hb).2, rfl⟩)) ea_nil)) (sp_PV ⟨_, _, rfl, by omega, by omega, by omega, rfl⟩)) ?_
      refine go_retU hI (xs := [nV (roundS hs h _).1, nV (roundS hs h _).2]) (eu_tup (ea_cons (ev_eqv (ev_I (C := CMul) (i := (h.F : Int)) (j := (lcmN h.P (h.unit k) : Nat) / (h.P : Int)) (ev_var rfl) (ev_I (C := CDiv) (i := ((lcmN h.P (h.unit k) : Nat) : Int)) (j := (h.P : Int)) (ev_var rfl) (ev_var rfl) ⟨by omega, by omega⟩) (Or.inl ⟨by omega, by omega⟩)) rfl) (ea_cons (ev_eqv (ev_I (C := CMul) (i := (h.F : Int)) (j := (lcmN h.P (h.unit k) : Nat) / (h.P : Int)) (ev_var rfl) (ev_I (C := CDiv) (i := ((lcmN h.P (h.unit k) : Nat) : Int)) (j := (h.P : Int)) (ev_var rfl) (ev_var rfl) ⟨by omega, by omega⟩) (Or.inl ⟨by omega, by omega⟩)) rfl) ea_nil)) (show (2 : Nat) ≤ 100000 by decide)) fun r hr => q r _ (Ex.new hr) hr upd_same
    · refine go_skip hI (et_inL3 (ev_var rfl) rfl) ?_
      refine go_skip hI (et_w (ev_var rfl) rfl) ?_
      refine go_skip hI (et_inL2 (ev_var rfl) rfl) ?_
      obtain ⟨hp2, hxs, y, e1, hh, hat, h0⟩ := hH.at (i := i) ok.1
      subst e1
      obtain ⟨a2, g2, l2, sp2, be2, ls2, rfl, hF2, okh2⟩ := id h0
      have P2 := okh2.P_bd
      have F2 := okh2.F_bd
      refine go_take hI (et_w (ev_var rfl) rfl) ?_
      refine go_asg hI (v := .ref a2) (ev_ixL (ev_var rfl) (ev_ixT (v := nV i) (ev_var rfl) ev_c hp rfl) hh hat) ?_
      refine go_asg hI (v := nV (lcmN h.P (Lm.hat hs i).P)) (ev_callV (vs := [nV (h.P), nV ((Lm.hat hs i).P)]) (ea_cons (ev_var rfl) (ea_cons (ev_eqv (ev_lenL (hF2.be (ev_var rfl)) hF2.b) (by rw [nL_len, below_len])) ea_nil)) (sp_PV ⟨_, _, rfl, by omega, by omega, by omega, rfl⟩)) ?_
      refine go_retU hI (xs := [nV (roundS hs h _).1, nV (roundS hs h _).2]) (eu_tup (ea_cons (ev_eqv (ev_I (C := CMul) (i := (h.F : Int)) (j := (lcmN h.P (Lm.hat hs i).P : Nat) / (h.P : Int)) (ev_var rfl) (ev_I (C := CDiv) (i := ((lcmN h.P (Lm.hat hs i).P : Nat) : Int)) (j := (h.P : Int)) (ev_var rfl) (ev_var rfl) ⟨by omega, by omega⟩) (Or.inl ⟨by omega, by omega⟩)) rfl) (ea_cons (ev_eqv (ev_I (C := CMul) (i := ((Lm.hat hs i).F : Int)) (j := (lcmN h.P (Lm.hat hs i).P : Nat) / ((Lm.hat hs i).P : Int)) (ev_eqv (ev_lenL (hF2.sp (ev_var rfl)) hF2.s) (by rw [nL_len]; rfl)) (ev_I (C := CDiv) (i := ((lcmN h.P (Lm.hat hs i).P : Nat) : Int)) (j := ((Lm.hat hs i).P : Int)) (ev_var rfl) (ev_eqv (ev_lenL (hF2.be (ev_var rfl)) hF2.b) (by rw [nL_len, below_len])) ⟨by omega, by omega⟩) (Or.inl ⟨by omega, by omega⟩)) rfl) ea_nil)) (show (2 : Nat) ≤ 100000 by decide)) fun r hr => q r _ (Ex.new hr) hr upd_same
    · refine go_take hI (et_inL3 (ev_var rfl) rfl) ?_
      refine go_retU hI (xs := [nV (roundS hs h _).1, nV (roundS hs h _).2]) (eu_tup (ea_cons (ev_c) (ea_cons (ev_c) ea_nil)) (show (2 : Nat) ≤ 100000 by decide)) fun r hr => q r _ (Ex.new hr) hr upd_same
    · refine go_skip hI (et_inL3 (ev_var rfl) rfl) ?_
      obtain ⟨o1, o2, o3, o4⟩ := ok
      have hg : 0 < Nat.gcd c b := Nat.gcd_pos_of_pos_left _ o1
      have hg2 : Nat.gcd c b ≤ c := Nat.gcd_le_left _ o1
      refine go_take hI (et_w (ev_var rfl) rfl) ?_
      refine go_asg hI (v := nV (Nat.gcd c b)) (ev_callV (vs := [nV c, nV b]) (ea_cons (ev_ixT (ev_var rfl) ev_c hp rfl) (ea_cons (ev_ixT (ev_var rfl) ev_c hp rfl) ea_nil)) (sp_PV ⟨_, _, rfl, rfl⟩)) ?_
      refine go_retU hI (xs := [nV (roundS hs h _).1, nV (roundS hs h _).2]) (eu_tup (ea_cons (ev_eqv (ev_I (C := CDiv) (i := (b : Int)) (j := (Nat.gcd c b : Nat)) (ev_ixT (v := nV b) (ev_var rfl) ev_c hp rfl) (ev_var rfl) ⟨by omega, by omega⟩) rfl) (ea_cons (ev_eqv (ev_I (C := CDiv) (i := (c : Int)) (j := (Nat.gcd c b : Nat)) (ev_ixT (v := nV c) (ev_var rfl) ev_c hp rfl) (ev_var rfl) ⟨by omega, by omega⟩) rfl) ea_nil)) (show (2 : Nat) ≤ 100000 by decide)) fun r hr => q r _ (Ex.new hr) hr upd_same)
theorem ev_behindL {K : PySem.W.Frag} {G : Hp} {σ : St} {p : Addr} {s : Sp1} {xh yh : V} {hm : HM} {hs : List HM} {i j k : Nat} (hx : HomR K G xh hm) (hy : HlR K G yh hs) (ok : s.Ok hs hm) (hp : SqT K G p s.vals) (h1 : σ[i]? = some (some (.ref p))) (h2 : σ[j]? = some (some xh)) (h3 : σ[k]? = some (some yh)) :
    ∃ z, HomR K G z (nextH hs hm s) ∧ Ev (tIf (tTest (tOp (rIn K false) (tOp (rIxT K) (tVar i) (tC (.int 0))) (tLst (tCons (tC (.str "read")) (tCons (tC (.str "call")) tNil))))) (tOp (rIxL K) (tVar k) (tOp (rIxT K) (tVar i) (tC (.int 1)))) (tVar j)) σ G z := by
  have w0 : Ev (tOp (rIxT K) (tVar i) (tC (.int 0))) σ G (.str s.word) := ev_word (ev_var h1) hp
  cases s with
  | read n nx =>
    obtain ⟨q, xs, y, rfl, hq, hat, hz⟩ := hy.at (i := n) ok.1
    exact ⟨y, hz, ev_if (b := true) (et_inL2 w0 rfl) (fun _ => ev_ixL (ev_var h3) (ev_ixT (v := nV n) (ev_var h1) ev_c hp rfl) hq hat) fun z => by cases z⟩
  | call n =>
    obtain ⟨q, xs, y, rfl, hq, hat, hz⟩ := hy.at (i := n) ok
    exact ⟨y, hz, ev_if (b := true) (et_inL2 w0 rfl) (fun _ => ev_ixL (ev_var h3) (ev_ixT (v := nV n) (ev_var h1) ev_c hp rfl) hq hat) fun z => by cases z⟩
  | on a => exact ⟨xh, hx, ev_if (b := false) (et_inL2 w0 rfl) (fun z => by cases z) fun _ => ev_var h2⟩
  | back a => exact ⟨xh, hx, ev_if (b := false) (et_inL2 w0 rfl) (fun z => by cases z) fun _ => ev_var h2⟩
  | lab a nx => exact ⟨xh, hx, ev_if (b := false) (et_inL2 w0 rfl) (fun z => by cases z) fun _ => ev_var h2⟩
  | unlab a nx => exact ⟨xh, hx, ev_if (b := false) (et_inL2 w0 rfl) (fun z => by cases z) fun _ => ev_var h2⟩
  | to k => exact ⟨xh, hx, ev_if (b := false) (et_inL2 w0 rfl) (fun z => by cases z) fun _ => ev_var h2⟩
  | after k => exact ⟨xh, hx, ev_if (b := false) (et_inL2 w0 rfl) (fun z => by cases z) fun _ => ev_var h2⟩
  | rate a b => exact ⟨xh, hx, ev_if (b := false) (et_inL2 w0 rfl) (fun z => by cases z) fun _ => ev_var h2⟩
def sp__law_through (K : PySem.W.Frag) : Sp := PU 2 fun vs G xs => ∃ (xh yh : V) (ss : List Sp1) (hs : List HM), vs = [xh, yh] ∧ SlR K G xh ss ∧ HlR K G yh hs ∧ OkS hs ss (hat hs 0) ∧ HsOk hs ∧ xs = [nV (thr hs ss (hat hs 0) 1 1).1, nV (thr hs ss (hat hs 0) 1 1).2]
abbrev N__law_through : List Str := ["_law_strides_here", "_law_homes_here", "_law_home", "_law_found", "_law_behind", "_law_stride_here", "_law_part", "_law_whole", "_law_times"]
abbrev P__law_through : List Str := ["_law_strides_here", "_law_homes_here"]
theorem sc__law_through : FnScope N__law_through P__law_through (defScope s__law_through) := ⟨rfl, rfl, rfl, by decide +kernel, rfl, by decide +kernel, by decide +kernel⟩
theorem F__law_through {P : Program} {w : World} {K : PySem.W.Frag} {mg : Str → Option Value} {base : Heap} (T : Tx K w mg) (F__law_parts : Kp P w K mg base 3 "_law_parts" P__law_parts (sp__law_parts K)) (F__law_divisor : Kp P w K mg base 1 "_law_divisor" P__law_divisor (sp__law_divisor K)) : Kp P w K mg base 4 "_law_through" P__law_through (sp__law_through K) := by
  obtain ⟨fd, F⟩ := T.d__law_through
  refine ⟨_, fd, T.g__law_through, F.kp, F.bindsN (fun _ _ _ _ _ _ us hl => match us, hl with | [_, _], _ => rfl), F.ok (N := N__law_through) sc__law_through len_PU fun cdv A outer s H vs Q E hr hpre => ⟨_, PSs.nox (pss_cons (ps_par3 (i := 2) (j := 3) (l := 4) rfl sc__law_through.nd rfl rfl rfl (by decide) (by decide) (by decide) rfl rfl rfl (pa_cons (pe_ix ix_list (pv 1) pe_int (fun _ _ => rfl)) (pa_cons pe_int (pa_cons pe_int pa_nil))) (by rfl))
  (pss_cons (ps_for PassesOwn.never rfl (pi_list (pv 0)) (pg_name (i := 5) sc__law_through.nd rfl (Or.inl rfl))
    (pss_cons (ps_asg (pe_kall F__law_parts (hr.mono (by decide)) (by rfl) (pa_cons (pv 5) (pa_cons (pv 2) (pa_cons (pv 1) pa_nil)))) (pg_tup (n := 2) rfl (pgs_cons (pg_name (i := 6) sc__law_through.nd rfl (Or.inl rfl)) (pgs_cons (pg_name (i := 7) sc__law_through.nd rfl (Or.inl rfl)) pgs_nil))))
  (pss_cons (ps_set (i := 8) sc__law_through.nd rfl (.inl rfl) (pe_op op_fdiv (pv 6) (pe_kall F__law_divisor (hr.mono (by decide)) (by rfl) (pa_cons (pv 4) (pa_cons (pv 6) pa_nil)))))
  (pss_cons (ps_par (i := 3) (j := 4) rfl sc__law_through.nd rfl rfl (by decide) rfl rfl (pa_cons (pe_op op_mul (pv 3) (pv 8)) (pa_cons (pe_op op_mul (pe_op op_fdiv (pe_op op_mul (pv 4) (pv 8)) (pv 6)) (pv 7)) pa_nil)) (by rfl))
  (pss_one (ps_set (i := 2) sc__law_through.nd rfl (.inl rfl) (pe_ifExp (pt_cmpR op_in_seq (pe_ix ix_tup (pv 5) pe_int (fun _ _ => rfl)) (pe_lst (pa_cons pe_str (pa_cons pe_str pa_nil))) (by rfl)) (pe_ix ix_list (pv 1) (pe_ix ix_tup (pv 5) pe_int (fun _ _ => rfl)) (fun _ _ => rfl)) (pv 2))))))))
  (pss_one (ps_ret (pe_tup (pa_cons (pv 3) (pa_cons (pv 4) pa_nil))))))), ?_⟩⟩
  exact start_PU hpre (by
    rintro G xs I Q hI ⟨xh, yh, ss, hs, rfl, ⟨sp, sxs, rfl, hss, hsall, hs4⟩, hR, ok, oh, rfl⟩ q
    obtain ⟨hp, hxs, hx0, e1, hh, hat0, h0⟩ := hR.at (i := 0) (by obtain ⟨_, _, _, _, _, _, z⟩ := hR; omega)
    subst e1
    refine go_par3 hI (x := hx0) (y := nV 1) (z := nV 1) (ea_cons (ev_ixL (ev_var rfl) ev_c hh hat0) (ea_cons ev_c (ea_cons ev_c ea_nil))) ?_
    refine go_forS (α := V × HM × Nat × Nat × Option V × Option V × Option V × Option V) (fun i x => [some (.ref sp), some (.ref hp), some x.1, some (nV x.2.2.1), some (nV x.2.2.2.1), x.2.2.2.2.1, x.2.2.2.2.2.1, x.2.2.2.2.2.2.1, x.2.2.2.2.2.2.2]) (fun i x => HomR K G x.1 x.2.1 ∧ OkS hs (ss.drop i) x.2.1 ∧ thr hs ss (hat hs 0) 1 1 = thr hs (ss.drop i) x.2.1 x.2.2.1 x.2.2.2.1) (hx0, hat hs 0, 1, 1, none, none, none, none) rfl ⟨h0, ok, rfl⟩ hI (ek_list (ev_var rfl) hss) ?_ ?_
    · rintro i ⟨z, m, f, b, s1, s2, s3, s4⟩ x H H' hi ⟨w1, w2, w3⟩ eH y
      dsimp only at w1 w2 w3
      obtain ⟨y1, y2, y3⟩ := yat_name (m := 5) (σ' := [some (.ref sp), some (.ref hp), some z, some (nV f), some (nV b), s1, s2, s3, s4]) y
      refine ⟨_, y2, y3, ?_⟩
      obtain ⟨st, hst, p, rfl, hpv⟩ := hsall.at y1
      have hlt := (List.getElem?_eq_some_iff.mp hst).1
      have hdr : ss.drop i = st :: ss.drop (i + 1) := by
        rw [List.drop_eq_getElem_cons hlt]
        congr 1
        rw [List.getElem?_eq_getElem hlt] at hst
        exact Option.some.inj hst
      rw [hdr] at w2 w3
      obtain ⟨w4, w5⟩ := w2
      have okm : m.Ok := by obtain ⟨_, _, _, _, _, _, _, _, z⟩ := w1; exact z
      obtain ⟨r1, r2, r3, r4⟩ := round_bd okm oh w4
      have hg : 0 < Nat.gcd b (roundS hs m st).1 := Nat.gcd_pos_of_pos_right _ r1
      have hg2 : Nat.gcd b (roundS hs m st).1 ≤ (roundS hs m st).1 := Nat.gcd_le_right _ r1
      have ht := Nat.div_le_self (roundS hs m st).1 (Nat.gcd b (roundS hs m st).1)
      refine go_un2 hI (x := nV (roundS hs m st).1) (y := nV (roundS hs m st).2) (eu_callP (vs := [.ref p, z, .ref hp]) (ea_cons (ev_var rfl) (ea_cons (ev_var rfl) (ea_cons (ev_var rfl) ea_nil))) ⟨p, st, z, .ref hp, m, hs, rfl, hpv, w1, hR, w4, rfl⟩) ?_
      refine go_asg hI (v := nV ((roundS hs m st).1 / Nat.gcd b (roundS hs m st).1)) (ev_eqv (ev_I (C := CDiv) (i := ((roundS hs m st).1 : Int)) (j := (Nat.gcd b (roundS hs m st).1 : Nat)) (ev_var rfl) (ev_callV (vs := [nV b, nV (roundS hs m st).1]) (ea_cons (ev_var rfl) (ea_cons (ev_var rfl) ea_nil)) (sp_PV ⟨_, _, rfl, rfl⟩)) ⟨by omega, by omega⟩) rfl) ?_
      generalize ht2 : (roundS hs m st).1 / Nat.gcd b (roundS hs m st).1 = t at ht ⊢
      refine go_par hI (x := nV (f * t)) (y := nV (b * t / (roundS hs m st).1 * (roundS hs m st).2)) (ea_cons (ev_eqv (ev_I (C := CMul) (i := (f : Int)) (j := (t : Int)) (ev_var rfl) (ev_var rfl) (Or.inr ⟨by omega, by omega⟩)) rfl) (ea_cons (ev_eqv (ev_I (C := CMul) (i := (b : Int) * (t : Int) / ((roundS hs m st).1 : Int)) (j := ((roundS hs m st).2 : Int)) (ev_I (C := CDiv) (i := (b : Int) * (t : Int)) (j := ((roundS hs m st).1 : Int)) (ev_I (C := CMul) (i := (b : Int)) (j := (t : Int)) (ev_var rfl) (ev_var rfl) (Or.inr ⟨by omega, by omega⟩)) (ev_var rfl) ⟨by omega, by omega⟩) (ev_var rfl) (Or.inr ⟨by omega, by omega⟩)) rfl) ea_nil)) ?_
      obtain ⟨z2, z3, z4⟩ := ev_behindL (σ := [some (.ref sp), some (.ref hp), some z, some (nV (f * t)), some (nV (b * t / (roundS hs m st).1 * (roundS hs m st).2)), some (.ref p), some (nV (roundS hs m st).1), some (nV (roundS hs m st).2), some (nV t)]) (i := 5) (j := 2) (k := 1) w1 hR w4 hpv rfl rfl rfl
      refine go_asg1 hI z4 ?_
      dsimp only
      refine LN.mk (z2, nextH hs m st, f * t, b * t / (roundS hs m st).1 * (roundS hs m st).2, some (.ref p), some (nV (roundS hs m st).1), some (nV (roundS hs m st).2), some (nV t)) rfl rfl ⟨z3, w5, ?_⟩
      rw [w3, ← ht2]
      rfl
    · rintro ⟨z, m, f, b, s1, s2, s3, s4⟩ ⟨_, _, w3⟩
      dsimp only at w3
      rw [hsall.len, List.drop_length] at w3
      rw [w3] at q
      exact go_retU hI (xs := [nV f, nV b]) (eu_tup (ea_cons (ev_var rfl) (ea_cons (ev_var rfl) ea_nil)) (show (2 : Nat) ≤ 100000 by decide)) fun r hr => q r _ (Ex.new hr) hr upd_same)
def sp__law_value (K : PySem.W.Frag) : Sp := PV 3 fun vs G v => ∃ (xh yh : V) (ss : List Sp1) (hs : List HM) (n : Nat), vs = [xh, yh, nV n] ∧ SlR K G xh ss ∧ HlR K G yh hs ∧ OkS hs ss (hat hs 0) ∧ v = oV (val hs ss (hat hs 0) n)
abbrev N__law_value : List Str := ["_law_strides_here", "_law_homes_here", "_law_figure", "_law_home", "_law_found", "_law_stride_here", "_law_word", "_law_spot_at", "_law_wide"]
abbrev P__law_value : List Str := ["_law_strides_here", "_law_homes_here", "_law_figure"]
theorem sc__law_value : FnScope N__law_value P__law_value (defScope s__law_value) := ⟨rfl, rfl, rfl, by decide +kernel, rfl, by decide +kernel, by decide +kernel⟩
theorem F__law_value {P : Program} {w : World} {K : PySem.W.Frag} {mg : Str → Option Value} {base : Heap} (T : Tx K w mg) (F__law_spot : Kp P w K mg base 1 "_law_spot" P__law_spot (sp__law_spot K)) (F__law_near : Kp P w K mg base 1 "_law_near" P__law_near (sp__law_near K)) (F__law_size : Kp P w K mg base 1 "_law_size" P__law_size (sp__law_size K)) : Kp P w K mg base 2 "_law_value" P__law_value (sp__law_value K) := by
  obtain ⟨fd, F⟩ := T.d__law_value
  refine ⟨_, fd, T.g__law_value, F.kp, F.bindsN (fun _ _ _ _ _ _ us hl => match us, hl with | [_, _, _], _ => rfl), F.ok (N := N__law_value) sc__law_value len_PV fun cdv A outer s H vs Q E hr hpre => ⟨_, PSs.nox (pss_cons (ps_par (i := 3) (j := 4) rfl sc__law_value.nd rfl rfl (by decide) rfl rfl (pa_cons (pe_ix ix_list (pv 1) pe_int (fun _ _ => rfl)) (pa_cons (pv 2) pa_nil)) (by rfl))
  (pss_cons (ps_for PassesOwn.never rfl (pi_list (pv 0)) (pg_name (i := 5) sc__law_value.nd rfl (Or.inl rfl))
    (pss_cons (ps_par (i := 6) (j := 7) rfl sc__law_value.nd rfl rfl (by decide) rfl rfl (pa_cons (pe_ix ix_tup (pv 5) pe_int (fun _ _ => rfl)) (pa_cons (pe_kall F__law_spot (hr.mono (by decide)) (by rfl) (pa_cons (pv 3) (pa_cons (pv 4) pa_nil))) pa_nil)) (by rfl))
  (pss_cons (ps_if (pt_cmpR op_in_seq (pv 6) (pe_lst (pa_cons pe_str (pa_cons pe_str pa_nil))) (by rfl))
    (pss_one (ps_set (i := 4) sc__law_value.nd rfl (.inl rfl) (pe_op op_add (pv 4) (pe_ifExp (pt_cmpR op_eq (pv 6) pe_str (nomark _)) (pe_ix ix_tup (pv 5) pe_int (fun _ _ => rfl)) (pe_op op_sub pe_int (pe_ix ix_tup (pv 5) pe_int (fun _ _ => rfl)))))))
    (pss_one (ps_if (pt_cmpR op_eq (pv 6) pe_str (nomark _))
    (pss_one (ps_set (i := 4) sc__law_value.nd rfl (.inl rfl) (pe_op op_fdiv (pe_op op_mul (pv 4) (pe_ix ix_tup (pv 5) pe_int (fun _ _ => rfl))) (pe_ix ix_tup (pv 5) pe_int (fun _ _ => rfl)))))
    (pss_one (ps_if (pt_cmpR op_eq (pv 6) pe_str (nomark _))
    (pss_cons (ps_set (i := 3) sc__law_value.nd rfl (.inl rfl) (pe_ix ix_list (pv 1) (pe_ix ix_tup (pv 5) pe_int (fun _ _ => rfl)) (fun _ _ => rfl)))
  (pss_one (ps_set (i := 4) sc__law_value.nd rfl (.inl rfl) (pe_kall F__law_near (hr.mono (by decide)) (by rfl) (pa_cons (pv 3) (pa_cons (pv 7) (pa_cons (pe_ix ix_tup (pv 5) pe_int (fun _ _ => rfl)) pa_nil)))))))
    (pss_one (ps_if (pt_cmpR op_eq (pv 6) pe_str (nomark _))
    (pss_one (ps_set (i := 3) sc__law_value.nd rfl (.inl rfl) (pe_ix ix_list (pv 1) (pe_ix ix_tup (pv 5) pe_int (fun _ _ => rfl)) (fun _ _ => rfl))))
    (pss_one (ps_if (pt_cmpR op_in_seq (pv 6) (pe_lst (pa_cons pe_str (pa_cons pe_str pa_nil))) (by rfl))
    (pss_cons (ps_set (i := 7) sc__law_value.nd rfl (.inl rfl) (pe_op op_add (pv 7) (pe_ifExp (pt_cmpR op_eq (pv 6) pe_str (nomark _)) (pe_ix ix_tup (pv 5) pe_int (fun _ _ => rfl)) (pe_op op_sub pe_int (pe_ix ix_tup (pv 5) pe_int (fun _ _ => rfl))))))
  (pss_one (ps_set (i := 4) sc__law_value.nd rfl (.inl rfl) (pe_ifExp (pt_cmpR op_ge (pv 7) pe_int (nomark _)) (pe_kall F__law_near (hr.mono (by decide)) (by rfl) (pa_cons (pv 3) (pa_cons (pv 7) (pa_cons (pe_ix ix_tup (pv 5) pe_int (fun _ _ => rfl)) pa_nil)))) (pe_un un_neg pe_int)))))
    (pss_cons (ps_set (i := 8) sc__law_value.nd rfl (.inl rfl) (pe_kall F__law_size (hr.mono (by decide)) (by rfl) (pa_cons (pe_dget (units1 hr.units) (pv 3) pe_str (fun _ _ => rfl)) (pa_cons (pe_ix ix_tup (pv 5) pe_int (fun _ _ => rfl)) pa_nil))))
  (pss_one (ps_set (i := 4) sc__law_value.nd rfl (.inl rfl) (pe_kall F__law_near (hr.mono (by decide)) (by rfl) (pa_cons (pv 3) (pa_cons (pe_op op_add (pe_op op_mul (pe_op op_fdiv (pv 7) (pv 8)) (pv 8)) (pe_ifExp (pt_cmpR op_eq (pv 6) pe_str (nomark _)) (pv 8) pe_int)) (pa_cons pe_str pa_nil))))))))))))))))
  (pss_one (ps_if (pt_cmpR op_lt (pv 4) pe_int (nomark _))
    (pss_one (ps_ret pe_non))
    pss_nil)))))
  (pss_one (ps_ret (pv 4))))), ?_⟩⟩
  exact start_PV hpre (by
    rintro G v I Q hI ⟨xh, yh, ss, hs, n, rfl, ⟨sp, sxs, rfl, hss, hsall, hs4⟩, hR, ok, rfl⟩ q
    obtain ⟨hp, hxs, hx0, e1, hh, hat0, h0⟩ := hR.at (i := 0) (by obtain ⟨_, _, _, _, _, _, z⟩ := hR; omega)
    subst e1
    refine go_par hI (x := hx0) (y := nV n) (ea_cons (ev_ixL (ev_var rfl) ev_c hh hat0) (ea_cons (ev_var rfl) ea_nil)) ?_
    refine go_forS (α := V × HM × Nat × Option V × Option V × Option V × Option V) (fun i x => [some (.ref sp), some (.ref hp), some (nV n), some x.1, some (nV x.2.2.1), x.2.2.2.1, x.2.2.2.2.1, x.2.2.2.2.2.1, x.2.2.2.2.2.2]) (fun i x => HomR K G x.1 x.2.1 ∧ OkS hs (ss.drop i) x.2.1 ∧ val hs ss (hat hs 0) n = val hs (ss.drop i) x.2.1 x.2.2.1) (hx0, hat hs 0, n, none, none, none, none) rfl ⟨h0, ok, rfl⟩ hI (ek_list (ev_var rfl) hss) ?_ ?_
    · rintro i ⟨z, m, f, s1, s2, s3, s4⟩ x H H' hi ⟨w1, w2, w3⟩ eH y
      dsimp only at w1 w2 w3
      obtain ⟨y1, y2, y3⟩ := yat_name (m := 5) (σ' := [some (.ref sp), some (.ref hp), some (nV n), some z, some (nV f), s1, s2, s3, s4]) y
      refine ⟨_, y2, y3, ?_⟩
      obtain ⟨st, hst, p, rfl, hpv⟩ := hsall.at y1
      have hlt := (List.getElem?_eq_some_iff.mp hst).1
      have hdr : ss.drop i = st :: ss.drop (i + 1) := by
        rw [List.drop_eq_getElem_cons hlt]
        congr 1
        rw [List.getElem?_eq_getElem hlt] at hst
        exact Option.some.inj hst
      rw [hdr] at w2 w3
      obtain ⟨w4, w5⟩ := w2
      have okm : m.Ok := by obtain ⟨_, _, _, _, _, _, _, _, z⟩ := w1; exact z
      obtain ⟨N, hN⟩ : ∃ N, N = LN I (fun (i : Nat) (x : V × HM × Nat × Option V × Option V × Option V × Option V) => [some (.ref sp), some (.ref hp), some (nV n), some x.1, some (nV x.2.2.1), x.2.2.2.1, x.2.2.2.2.1, x.2.2.2.2.2.1, x.2.2.2.2.2.2]) (fun _ _ => G) (fun i x => HomR K G x.1 x.2.1 ∧ OkS hs (ss.drop i) x.2.1 ∧ val hs ss (hat hs 0) n = val hs (ss.drop i) x.2.1 x.2.2.1) (i + 1) := ⟨_, rfl⟩
      have fin : ∀ (D : Ends) (z2 : V) (u : V) (wd : Option V), D.nx = N → D.rt = Q → HomR K G z2 (nextH hs m st) → Go I (tIfS (tTest (tOp (rI0 fun i j => V.bl (decide (i < j))) (tVar 4) (tC (V.int 0)))) (tRet (tC V.non)) tNext) D [some (.ref sp), some (.ref hp), some (nV n), some z2, some (.int (stepV hs m st f)), some (.ref p), some (.str st.word), some u, wd] G := by
        intro D z2 u wd hD1 hD2 z3
        cases hsv : stepV hs m st f with
        | ofNat k =>
          have w3' : val hs ss (hat hs 0) n = val hs (ss.drop (i + 1)) (nextH hs m st) k := by
            rw [w3]
            show (match stepV hs m st f with
              | .ofNat j => val hs (ss.drop (i + 1)) (nextH hs m st) j
              | .negSucc _ => none) = _
            rw [hsv]
          refine go_if (b := false) hI (et_eqv (et_test (ev_I0 (ev_var rfl) ev_c)) (by rw [decide_eq_false_iff_not]; exact Int.not_lt.mpr (Int.natCast_nonneg k))) (fun z => by cases z) fun _ => go_next ?_
          rw [hD1, hN]
          exact LN.mk (z2, nextH hs m st, k, some (.ref p), some (.str st.word), some u, wd) rfl rfl ⟨z3, w5, w3'⟩
        | negSucc k =>
          have w3' : val hs ss (hat hs 0) n = none := by
            rw [w3]
            show (match stepV hs m st f with
              | .ofNat j => val hs (ss.drop (i + 1)) (nextH hs m st) j
              | .negSucc _ => none) = _
            rw [hsv]
          rw [w3'] at q
          exact go_if (b := true) hI (et_eqv (et_test (ev_I0 (ev_var rfl) ev_c)) (by rw [decide_eq_true_iff]; exact Int.negSucc_lt_zero k)) (fun _ => go_ret hI ev_c (by rw [hD2]; exact q G (Ex.refl G))) fun z => by cases z
      clear w3 w5
      subst hN
      obtain ⟨a, g, l, sp2, be, ls, rfl, hF, okh⟩ := id w1
      refine go_par hI (x := .str st.word) (y := nV (m.place f)) (ea_cons (ev_word (ev_var rfl) hpv) (ea_cons (ev_callV (vs := [.ref a, nV f]) (ea_cons (ev_var rfl) (ea_cons (ev_var rfl) ea_nil)) (sp_PV ⟨_, m, f, rfl, w1, rfl⟩)) ea_nil)) ?_
      refine go_seq ?_
      rcases st with c | c | ⟨c, nx⟩ | ⟨c, nx⟩ | k | k | ⟨j, nx⟩ | j | ⟨c, b⟩
      · refine go_if (b := true) hI (et_inL2 (ev_var rfl) rfl) (fun _ => ?_) fun z => by cases z
        refine go_asg1 hI (v := .int (stepV hs m (.on c) f)) (ev_eqv (ev_I0 (i := (f : Int)) (j := (c : Int)) (ev_var rfl) (ev_if (b := true) (et_w (ev_var rfl) rfl) (fun _ => ev_ixT (v := nV c) (ev_var rfl) (ev_c (v := .int 1)) hpv rfl) fun z => by cases z)) (by show V.int _ = V.int _; congr 1)) ?_
        dsimp only
        exact go_nx (fin _ _ _ _ rfl rfl w1)
      · refine go_if (b := true) hI (et_inL2 (ev_var rfl) rfl) (fun _ => ?_) fun z => by cases z
        refine go_asg1 hI (v := .int (stepV hs m (.back c) f)) (ev_eqv (ev_I0 (i := (f : Int)) (j := 0 - (c : Int)) (ev_var rfl) (ev_if (b := false) (et_w (ev_var rfl) rfl) (fun z => by cases z) fun _ => ev_I0 ev_c (ev_ixT (v := nV c) (ev_var rfl) (ev_c (v := .int 1)) hpv rfl))) (by show V.int _ = V.int _; congr 1; simp only [stepV]; omega)) ?_
        dsimp only
        exact go_nx (fin _ _ _ _ rfl rfl w1)
      · refine go_if (b := false) hI (et_inL2 (ev_var rfl) rfl) (fun z => by cases z) fun _ => ?_
        refine go_if (b := false) hI (et_w (ev_var rfl) rfl) (fun z => by cases z) fun _ => ?_
        refine go_if (b := false) hI (et_w (ev_var rfl) rfl) (fun z => by cases z) fun _ => ?_
        refine go_if (b := false) hI (et_w (ev_var rfl) rfl) (fun z => by cases z) fun _ => ?_
        refine go_if (b := true) hI (et_inL2 (ev_var rfl) rfl) (fun _ => ?_) fun z => by cases z
        refine go_asg hI (v := .int ((m.place f : Nat) + ((c : Int) : Int))) (ev_I0 (i := ((m.place f : Nat) : Int)) (j := (c : Int)) (ev_var rfl) (ev_if (b := true) (et_w (ev_var rfl) rfl) (fun _ => ev_ixT (v := nV c) (ev_var rfl) (ev_c (v := .int 1)) hpv rfl) fun z => by cases z)) ?_
        refine go_asg1 hI (v := .int (stepV hs m (.lab c nx) f)) (ev_if (b := true) (et_eqv (et_test (ev_I0 (ev_var rfl) ev_c)) (by rw [decide_eq_true_iff]; omega)) (fun _ => ev_callV (vs := [.ref a, nV (m.place f + c), nxS nx]) (ea_cons (ev_var rfl) (ea_cons (ev_var rfl) (ea_cons (ev_ixT (v := nxS nx) (ev_var rfl) (ev_c (v := .int 2)) hpv rfl) ea_nil))) (sp_PV ⟨_, m, m.place f + c, nx, rfl, w1, rfl⟩)) fun z => by cases z) ?_
        dsimp only
        exact go_nx (fin _ _ _ _ rfl rfl w1)
      · refine go_if (b := false) hI (et_inL2 (ev_var rfl) rfl) (fun z => by cases z) fun _ => ?_
        refine go_if (b := false) hI (et_w (ev_var rfl) rfl) (fun z => by cases z) fun _ => ?_
        refine go_if (b := false) hI (et_w (ev_var rfl) rfl) (fun z => by cases z) fun _ => ?_
        refine go_if (b := false) hI (et_w (ev_var rfl) rfl) (fun z => by cases z) fun _ => ?_
        refine go_if (b := true) hI (et_inL2 (ev_var rfl) rfl) (fun _ => ?_) fun z => by cases z
        refine go_asg hI (v := .int ((m.place f : Nat) + ((0 - (c : Int)) : Int))) (ev_I0 (i := ((m.place f : Nat) : Int)) (j := (0 - (c : Int))) (ev_var rfl) (ev_if (b := false) (et_w (ev_var rfl) rfl) (fun z => by cases z) fun _ => ev_I0 ev_c (ev_ixT (v := nV c) (ev_var rfl) (ev_c (v := .int 1)) hpv rfl))) ?_
        by_cases hc : c ≤ m.place f
        · have e : ((m.place f : Nat) : Int) + (0 - (c : Int)) = ((m.place f - c : Nat) : Int) := by omega
          rw [e]
          refine go_asg1 hI (v := .int (stepV hs m (.unlab c nx) f)) (ev_if (b := true) (et_eqv (et_test (ev_I0 (ev_var rfl) ev_c)) (by rw [decide_eq_true_iff]; omega)) (fun _ => ev_callV (vs := [.ref a, nV (m.place f - c), nxS nx]) (ea_cons (ev_var rfl) (ea_cons (ev_var rfl) (ea_cons (ev_ixT (v := nxS nx) (ev_var rfl) (ev_c (v := .int 2)) hpv rfl) ea_nil))) (sp_PV ⟨_, m, m.place f - c, nx, rfl, w1, by simp only [stepV, if_pos hc]⟩)) fun z => by cases z) ?_
          dsimp only
          exact go_nx (fin _ _ _ _ rfl rfl w1)
        · refine go_asg1 hI (v := .int (stepV hs m (.unlab c nx) f)) (ev_if (b := false) (et_eqv (et_test (ev_I0 (ev_var rfl) ev_c)) (by rw [decide_eq_false_iff_not]; omega)) (fun z => by cases z) fun _ => ev_eqv (ev_neg ev_c) (by simp only [stepV, if_neg hc])) ?_
          dsimp only
          exact go_nx (fin _ _ _ _ rfl rfl w1)
      · refine go_if (b := false) hI (et_inL2 (ev_var rfl) rfl) (fun z => by cases z) fun _ => ?_
        refine go_if (b := false) hI (et_w (ev_var rfl) rfl) (fun z => by cases z) fun _ => ?_
        refine go_if (b := false) hI (et_w (ev_var rfl) rfl) (fun z => by cases z) fun _ => ?_
        refine go_if (b := false) hI (et_w (ev_var rfl) rfl) (fun z => by cases z) fun _ => ?_
        refine go_if (b := false) hI (et_inL2 (ev_var rfl) rfl) (fun z => by cases z) fun _ => ?_
        have U := okh.unit_bd k
        refine go_asg hI (v := nV (m.unit k)) (ev_callV (vs := [.ref g, nV k]) (ea_cons (hF.gr (ev_var rfl)) (ea_cons (ev_ixT (v := nV k) (ev_var rfl) (ev_c (v := .int 1)) hpv rfl) ea_nil)) (sp_PV ⟨g, m.bs, k, rfl, hF.g, fun b hb => (okh.b b hb).2, rfl⟩)) ?_
        refine go_asg1 hI (v := .int (stepV hs m (.to k) f)) (ev_callV (vs := [.ref a, nV (m.place f / m.unit k * m.unit k), nxS true]) (ea_cons (ev_var rfl) (ea_cons (ev_eqv (ev_I0 (ev_I (C := CMul) (i := (m.place f : Int) / (m.unit k : Int)) (j := (m.unit k : Int)) (ev_I (C := CDiv) (i := (m.place f : Int)) (j := (m.unit k : Int)) (ev_var rfl) (ev_var rfl) ⟨by omega, by omega⟩) (ev_var rfl) (Or.inr ⟨by omega, by omega⟩)) (ev_if (v := .int 0) (b := false) (et_w (ev_var rfl) rfl) (fun z => by cases z) fun _ => ev_c)) (by show V.int _ = V.int _; congr 1)) (ea_cons ev_c ea_nil))) (sp_PV ⟨_, m, _, true, rfl, w1, rfl⟩)) ?_
        dsimp only
        exact go_nx (fin _ _ _ _ rfl rfl w1)
      · refine go_if (b := false) hI (et_inL2 (ev_var rfl) rfl) (fun z => by cases z) fun _ => ?_
        refine go_if (b := false) hI (et_w (ev_var rfl) rfl) (fun z => by cases z) fun _ => ?_
        refine go_if (b := false) hI (et_w (ev_var rfl) rfl) (fun z => by cases z) fun _ => ?_
        refine go_if (b := false) hI (et_w (ev_var rfl) rfl) (fun z => by cases z) fun _ => ?_
        refine go_if (b := false) hI (et_inL2 (ev_var rfl) rfl) (fun z => by cases z) fun _ => ?_
        have U := okh.unit_bd k
        refine go_asg hI (v := nV (m.unit k)) (ev_callV (vs := [.ref g, nV k]) (ea_cons (hF.gr (ev_var rfl)) (ea_cons (ev_ixT (v := nV k) (ev_var rfl) (ev_c (v := .int 1)) hpv rfl) ea_nil)) (sp_PV ⟨g, m.bs, k, rfl, hF.g, fun b hb => (okh.b b hb).2, rfl⟩)) ?_
        refine go_asg1 hI (v := .int (stepV hs m (.after k) f)) (ev_callV (vs := [.ref a, nV (m.place f / m.unit k * m.unit k + m.unit k), nxS true]) (ea_cons (ev_var rfl) (ea_cons (ev_eqv (ev_I0 (ev_I (C := CMul) (i := (m.place f : Int) / (m.unit k : Int)) (j := (m.unit k : Int)) (ev_I (C := CDiv) (i := (m.place f : Int)) (j := (m.unit k : Int)) (ev_var rfl) (ev_var rfl) ⟨by omega, by omega⟩) (ev_var rfl) (Or.inr ⟨by omega, by omega⟩)) (ev_if (v := nV (m.unit k)) (b := true) (et_w (ev_var rfl) rfl) (fun _ => ev_var rfl) fun z => by cases z)) (by show V.int _ = V.int _; congr 1)) (ea_cons ev_c ea_nil))) (sp_PV ⟨_, m, _, true, rfl, w1, rfl⟩)) ?_
        dsimp only
        exact go_nx (fin _ _ _ _ rfl rfl w1)
      · refine go_if (b := false) hI (et_inL2 (ev_var rfl) rfl) (fun z => by cases z) fun _ => ?_
        refine go_if (b := false) hI (et_w (ev_var rfl) rfl) (fun z => by cases z) fun _ => ?_
        refine go_if (b := true) hI (et_w (ev_var rfl) rfl) (fun _ => ?_) fun z => by cases z
        obtain ⟨hp2, hxs2, y, e1, hh2, hat, hj⟩ := hR.at (i := j) w4.1
        cases e1
        refine go_asg hI (v := y) (ev_ixL (ev_var rfl) (ev_ixT (v := nV j) (ev_var rfl) (ev_c (v := .int 1)) hpv rfl) hh2 hat) ?_
        refine go_asg1 hI (v := .int (stepV hs m (.read j nx) f)) (ev_callV (vs := [y, nV (m.place f), nxS nx]) (ea_cons (ev_var rfl) (ea_cons (ev_var rfl) (ea_cons (ev_ixT (v := nxS nx) (ev_var rfl) (ev_c (v := .int 2)) hpv rfl) ea_nil))) (sp_PV ⟨_, _, m.place f, nx, rfl, hj, rfl⟩)) ?_
        dsimp only
        exact go_nx (fin _ _ _ _ rfl rfl hj)
      · refine go_if (b := false) hI (et_inL2 (ev_var rfl) rfl) (fun z => by cases z) fun _ => ?_
        refine go_if (b := false) hI (et_w (ev_var rfl) rfl) (fun z => by cases z) fun _ => ?_
        refine go_if (b := false) hI (et_w (ev_var rfl) rfl) (fun z => by cases z) fun _ => ?_
        refine go_if (b := true) hI (et_w (ev_var rfl) rfl) (fun _ => ?_) fun z => by cases z
        obtain ⟨hp2, hxs2, y, e1, hh2, hat, hj⟩ := hR.at (i := j) w4
        cases e1
        refine go_asg1 hI (v := y) (ev_ixL (ev_var rfl) (ev_ixT (v := nV j) (ev_var rfl) (ev_c (v := .int 1)) hpv rfl) hh2 hat) ?_
        dsimp only
        exact go_nx (fin _ _ _ _ rfl rfl hj)
      · refine go_if (b := false) hI (et_inL2 (ev_var rfl) rfl) (fun z => by cases z) fun _ => ?_
        refine go_if (b := true) hI (et_w (ev_var rfl) rfl) (fun _ => ?_) fun z => by cases z
        obtain ⟨o1, o2, o3, o4⟩ := w4
        refine go_asg1 hI (v := .int (stepV hs m (.rate c b) f)) (ev_eqv (ev_I (C := CDiv) (i := (f : Int) * (c : Int)) (j := (b : Int)) (ev_I (C := CMul) (i := (f : Int)) (j := (c : Int)) (ev_var rfl) (ev_ixT (v := nV c) (ev_var rfl) (ev_c (v := .int 1)) hpv rfl) (Or.inr ⟨by omega, by omega⟩)) (ev_ixT (v := nV b) (ev_var rfl) (ev_c (v := .int 2)) hpv rfl) ⟨by omega, by omega⟩) rfl) ?_
        dsimp only
        exact go_nx (fin _ _ _ _ rfl rfl w1)
      
    · rintro ⟨z, m, f, s1, s2, s3, s4⟩ ⟨_, _, w3⟩
      dsimp only at w3
      rw [hsall.len, List.drop_length] at w3
      rw [w3] at q
      exact go_ret hI (ev_var rfl) (q G (Ex.refl G)))
end Lm
end
section
set_option Elab.async false
set_option linter.all false
set_option maxRecDepth 100000
set_option maxHeartbeats 2000000
namespace Lm
open PySem PySem.Spec L2 Evl
section
variable {K : PySem.W.Frag} {I : Hp → Hp → Prop} {σ : St} {G : Hp} {ta tb tc te tv tl : TE} {tr ts : TA} {tt : TT} {x y z v : V} {D : Ends} {tu tw tz t : TS} {R : V → Hp → Prop} {vs xs ys : List V} {a p : Addr} {Q : VK} {wi : TI} {g : TG} {n : Nat}
def tupR (K : PySem.W.Frag) : List V → Hp → VK → Prop := fun xs H Q => ∃ p ys, xs = [.ref p] ∧ ((SqL K H p ys ∧ ∀ l, H l = none → Q (.ref l) (upd H l (.tup ys))) ∨ (SqT K H p ys ∧ Q (.ref p) H))
theorem eu_tupOf (h : Ev ta σ G (.ref p)) (hp : SqL K G p xs) : EvU (tCB (fun xs H Q => ∃ p ys, xs = [.ref p] ∧ ((SqL K H p ys ∧ ∀ l, H l = none → Q (.ref l) (upd H l (.tup ys))) ∨ (SqT K H p ys ∧ Q (.ref p) H))) (tCons ta tNil)) σ G xs := fun H e Q q =>
  h H e _ fun H1 e1 => ⟨p, xs, rfl, Or.inl ⟨ex_l (e.trans e1) hp, fun l hl => q l _ (fresh_back e1 hl) (e1.trans (Ex.new hl)) upd_same⟩⟩
theorem eai_one {R1 : V → Hp → Prop} {R2 : List V → Hp → Prop} (h : EvI I ta σ G R1) (k : ∀ v G', Ex G G' → R1 v G' → R2 [v] G') : EvAI I (tCons ta tNil) σ G R2 := fun H e i Q q =>
  h H e i _ fun v G1 H1 e1 f1 i1 r1 => q [v] G1 H1 e1 f1 i1 (k v G1 e1 r1)
theorem eai_imp {R1 R2 : List V → Hp → Prop} (h : EvAI I ts σ G R1) (k : ∀ v G', Ex G G' → R1 v G' → R2 v G') : EvAI I ts σ G R2 := fun H e i Q q => h H e i _ fun v G1 H1 e1 f1 i1 r1 => q v G1 H1 e1 f1 i1 (k v G1 e1 r1)
/-- range(e), e by a call -/
theorem wi_rngI {P : Nat → Prop} (h : EvAI I ts σ G fun vs G' => ∃ m : Nat, vs = [nV m] ∧ P m ∧ m ≤ 100000) : EvWI I (iRng1 ts) σ G fun m Z G' => P m ∧ Z = (YFn fun i => nV i) := fun H e i R q => h H e i _ fun vs G' H1 e1 f1 i1 ⟨m, ev, hm, hz⟩ => by
  subst ev
  refine ⟨(m : Int), rfl, by omega, by omega, ?_⟩
  rw [Int.toNat_natCast]
  exact q _ (fun _ => True) m _ G' H1 e1 f1 i1 (walk_range.mono (fun _ h => h) fun i H x H' _ _ y => ⟨y.1, y.2.trans (by show V.int (0 + (i : Int)) = V.int (i : Int); rw [Int.zero_add])⟩) (fun _ _ => trivial) ⟨hm, rfl⟩
theorem go_forRI {α : Type} {PP : Nat → Prop} {j : Nat} (hI : Cl I) (h : EvAI I ts σ G fun vs G' => ∃ m : Nat, vs = [nV m] ∧ PP m ∧ m ≤ 100000) (S : Nat → α → St) (P : Nat → α → Hp) (W : Nat → α → Prop) (h0 : ∀ m G', Ex G G' → PP m → ∃ a0, σ = S 0 a0 ∧ G' = P 0 a0 ∧ W 0 a0)
    (hs : ∀ m i a, PP m → i < m → W i a → Go I tu { D with nx := LN I S P W (i + 1), ct := LN I S P W (i + 1), bk := tz D } ((S i a).set j (some (nV i))) (P i a)) (hd : ∀ m a, PP m → W m a → Go I tz D (S m a) (P m a)) : Go I (tSeq (tFor (iRng1 ts) (gName j) tu) tz) D σ G := fun H e i =>
  h H e i _ fun vs G' H1 e1 f1 i1 ⟨m, ev, hm, hz⟩ => by
    subst ev
    refine ⟨(m : Int), rfl, by omega, by omega, ?_⟩
    rw [Int.toNat_natCast]
    obtain ⟨a0, q1, q2, q3⟩ := h0 m G' e1 hm
    have w : Walk (Itr 0 m) m (fun _ => True) (YFn fun i => nV i) := walk_range.mono (fun _ h => h) fun i H x H' _ _ y => ⟨y.1, y.2.trans (by show V.int (0 + (i : Int)) = V.int (i : Int); rw [Int.zero_add])⟩
    refine for_it w (D := { D with nx := tz D }) (LN I S P W) ⟨a0, q1, q3, by rw [← q2]; exact f1, by rw [← q2]; exact i1⟩ (fun _ _ _ _ _ => trivial) (fun k x σ' H' H2 hk ⟨a, es, wa, ea, ia⟩ y => ?_) (fun σ' H' ⟨a, es, wa, ea, ia⟩ => ?_)
    · subst es
      obtain ⟨y1, y2⟩ := y
      subst y1 y2
      exact hs m k a hm hk wa _ ea ia
    · subst es
      exact hd m a hm wa H' ea ia
/-- a list of one's own, made of one value that I minds -/
theorem go_asgO1 {m : Nat} {R1 : V → Hp → Prop} (c : Cl I) (h : EvI I te σ G R1) (k : ∀ v G' p, Ex G G' → R1 v G' → G' p = none → (∀ a, Va a I → a ≠ p) → Go (Wl p I) tz D (σ.set m (some (.ref p))) (upd G' p (.lst [v]))) :
    Go I (tSeq (tAsg (tLst (tCons te tNil)) (gName m)) tz) D σ G := fun H e i => h H e i _ fun v G1 H1 e1 f1 i1 r1 => ⟨sz_of (show (1 : Nat) ≤ 100000 by decide), fun p hp => by
  obtain ⟨z1, z2, z3, z4⟩ := wl_enter c f1 i1 hp (Ex.new hp) (upd_same (o := .lst [v]))
  exact k v G1 p e1 r1 z3 z4 _ z1 z2⟩
/-- xs.append(e), e by a call -/
theorem go_appI {l : Addr} {R1 : V → Hp → Prop} (hI : Cl I) (hW : ∀ G H o, I G H → I (upd G l o) (upd H l o)) (hl : G l = some (.lst xs)) (ha : Ev ta σ G (.ref l)) (h : EvI I te σ G R1) (hz : xs.length < 100000)
    (k : ∀ v G', Ex G G' → R1 v G' → GoN I D.nx σ (upd G' l (.lst (xs ++ [v])))) : Go I (tDrop (tBM K "list" rAppend ta (tCons te tNil))) D σ G := fun H e i => ha H e _ fun H1 e1 =>
  ⟨Or.inl ⟨rfl, xs, sq_of ((e.trans e1) l _ hl)⟩, h H1 (e.trans e1) (hI _ _ _ _ (Stp.ex e e1) i) _ fun v G2 H2 e2 f2 i2 r2 => ⟨l, xs, v, rfl, rfl, f2 l _ (e2 l _ hl), sz_lt hz, k v G2 e2 r2 _ (fun b o hb => by
    by_cases q : b = l
    · subst q
      rw [upd_same] at hb ⊢
      exact hb
    · rw [upd_ne q] at hb ⊢
      exact f2 b o hb) (hW _ _ _ i2)⟩⟩
theorem ev_ixU {i : Int} (h : EvU ta σ G xs) (hb : ∀ G', Ev tb σ G' (.int i)) (hx : atI xs i = some v) : Ev (tOp (rIxT K) ta tb) σ G v := fun H1 e Q q => h H1 e _ fun p H2 _ e2 h2 => hb H2 H2 (Ex.refl _) _ fun H3 e3 => ⟨p, xs, i, v, rfl, rfl, st_of (e3 p _ h2), hx, q H3 (e2.trans e3)⟩
theorem eu_call2L {pre : List V → Hp → List V → Prop} (ha : EvL ta σ G xs) (hb : ∀ p G', Ex G G' → G' p = some (.lst xs) → Ev tb σ G' y) (k : ∀ p G', G' p = some (.lst xs) → Ex G G' → pre [.ref p, y] G' ys) : EvU (tCall (PU 2 pre) [] E0 (tCons ta (tCons tb tNil))) σ G ys := fun H e Q q =>
  ha H e _ fun p H1 _ e1 h1 => hb p H1 (e.trans e1) h1 H1 (Ex.refl _) _ fun H2 e2 => ⟨rfl, H2, ys, Ex.refl _, k p H2 (e2 p _ h1) ((e.trans e1).trans e2), fun r H3 hr e3 h3 => q r H3 (fresh_back (e1.trans e2) hr) ((e1.trans e2).trans e3) h3⟩
/-- _law_pluck of a menu written out -/
theorem ei_pluck (hI : Cl I) (va : Va a I) (hv : Ev tv σ G (.ref a)) (hl : EvL tl σ G xs) (h0 : 0 < xs.length) (h1 : xs.length < 1000) : EvI I (tCall (sp__law_pluck K) [] E0 (tCons tv (tCons tl tNil))) σ G (fun v G' => v ∈ xs) := by
  refine ei_call (RA := fun vs G' => ∃ p, vs = [.ref a, .ref p] ∧ G' p = some (.lst xs)) (eai_cons (ei_of hI hv) fun w G1 _ ⟨e1, e2⟩ => ?_) fun vs G' e' ⟨p, ev, hp⟩ => ?_
  · subst e1 e2
    exact eai_one (ei_ofL hI hl) fun w G2 _ ⟨p, e3, hp, e4⟩ => by subst e3 e4; exact ⟨p, rfl, upd_same⟩
  · subst ev
    exact (sp_PI hI (R := fun v G2 => v ∈ xs ∧ G2 = G') ⟨a, p, xs, rfl, va, sq_of hp, h0, h1, rfl⟩).mono fun v G2 _ h => h.1
theorem ei_pour {top : Nat} (hI : Cl I) (va : Va a I) (hv : Ev tv σ G (.ref a)) (ht : Ev tl σ G (nV top)) (h0 : 0 < top) (h1 : top < 2 ^ 30) : EvI I (tCall (sp__law_pour K) [] E0 (tCons tv (tCons tl tNil))) σ G (fun v G' => ∃ d : Nat, d < top ∧ v = nV d ∧ G' = G) :=
  ei_callA hI (vs := [.ref a, nV top]) (ea_cons hv (ea_cons ht ea_nil)) (sp_PI hI ⟨a, top, rfl, va, h0, h1, rfl⟩)
end
end Lm
end
section
set_option Elab.async false
set_option linter.all false
set_option maxRecDepth 100000
set_option maxHeartbeats 2000000
namespace Lm
open PySem PySem.Spec L2 Evl
local macro_rules | `(tactic| infer_instance) => `(tactic| first | (with_reducible exact ev_c) | ((with_reducible apply ev_var); exact rfl) | (with_reducible exact ea_nil) | (intro _; infer_instance) | ((with_reducible apply ev_I0) <;> try infer_instance) | ((with_reducible apply ev_I) <;> try infer_instance) | ((with_reducible apply ev_isInt) <;> try infer_instance) | ((with_reducible apply ev_isBool) <;> try infer_instance) | ((with_reducible apply ev_isStr) <;> try infer_instance) | ((with_reducible apply ev_isTup) <;> try infer_instance) | ((with_reducible apply ev_isN) <;> try infer_instance) | ((with_reducible apply ev_notN) <;> try infer_instance) | ((with_reducible apply ev_neg) <;> try infer_instance) | ((with_reducible apply ev_fld) <;> try infer_instance) | ((with_reducible apply ev_ixT) <;> try infer_instance) | ((with_reducible apply ev_ixL) <;> try infer_instance) | ((with_reducible apply ev_andV) <;> try infer_instance) | ((with_reducible apply ev_orV) <;> try infer_instance) | ((with_reducible apply ev_notV) <;> try infer_instance) | ((with_reducible apply ev_callV) <;> try infer_instance) | ((with_reducible apply ea_cons) <;> try infer_instance) | ((with_reducible apply et_test) <;> try infer_instance) | ((with_reducible apply et_B) <;> try infer_instance) | ((with_reducible apply et_not) <;> try infer_instance) | ((with_reducible apply et_and) <;> try infer_instance) | ((with_reducible apply et_or) <;> try infer_instance) | ((with_reducible apply ev_eq) <;> first | infer_instance | exact rfl | skip) | ((with_reducible apply ev_ne) <;> first | infer_instance | exact rfl | skip) | ((with_reducible apply eu_tup) <;> first | infer_instance | decide | skip) | ((with_reducible apply el_lst) <;> first | infer_instance | decide | skip))
def sp__law_start (K : PySem.W.Frag) : Sp := PV 2 fun vs G v => ∃ (xh yh : V) (ss : List Sp1) (hs : List HM) (s : Nat), vs = [xh, yh] ∧ SlR K G xh ss ∧ HlR K G yh hs ∧ OkS hs ss (hat hs 0) ∧ (∀ n, (val hs ss (hat hs 0) n = none) ↔ n < s) ∧ s ≤ 2 ^ 90 ∧ v = nV s
abbrev N__law_start : List Str := ["_law_strides_here", "_law_homes_here", "_law_low", "_law_high", "_law_turn", "_law_middle"]
abbrev P__law_start : List Str := ["_law_strides_here", "_law_homes_here"]
theorem sc__law_start : FnScope N__law_start P__law_start (defScope s__law_start) := ⟨rfl, rfl, rfl, by decide +kernel, rfl, by decide +kernel, by decide +kernel⟩
theorem F__law_start {P : Program} {w : World} {K : PySem.W.Frag} {mg : Str → Option Value} {base : Heap} (T : Tx K w mg) (F__law_value : Kp P w K mg base 2 "_law_value" P__law_value (sp__law_value K)) : Kp P w K mg base 3 "_law_start" P__law_start (sp__law_start K) := by
  obtain ⟨fd, F⟩ := T.d__law_start
  refine ⟨_, fd, T.g__law_start, F.kp, F.bindsN (fun _ _ _ _ _ _ us hl => match us, hl with | [_, _], _ => rfl), F.ok (N := N__law_start) sc__law_start len_PV fun cdv A outer s H vs Q E hr hpre => ⟨_, PSs.nox (pss_cons (ps_asg (pe_tup (pa_cons (pe_un un_neg pe_int) (pa_cons pe_int pa_nil))) (pg_tup (n := 2) rfl (pgs_cons (pg_name (i := 2) sc__law_start.nd rfl (Or.inl rfl)) (pgs_cons (pg_name (i := 3) sc__law_start.nd rfl (Or.inl rfl)) pgs_nil))))
  (pss_cons (ps_for PassesOwn.never rfl (pi_range1 (by rfl) T.f_range (pa_cons pe_int pa_nil)) (pg_name (i := 4) sc__law_start.nd rfl (Or.inl rfl))
    (pss_cons (ps_if (pt_cmpR op_notN (pe_kall F__law_value (hr.mono (by decide)) (by rfl) (pa_cons (pv 0) (pa_cons (pv 1) (pa_cons (pv 3) pa_nil)))) pe_non (nomark _))
    (pss_one ps_break)
    pss_nil)
  (pss_one (ps_par (i := 2) (j := 3) rfl sc__law_start.nd rfl rfl (by decide) rfl rfl (pa_cons (pv 3) (pa_cons (pe_op op_mul pe_int (pv 3)) pa_nil)) (by rfl)))))
  (pss_cons (ps_for PassesOwn.never rfl (pi_range1 (by rfl) T.f_range (pa_cons pe_int pa_nil)) (pg_name (i := 4) sc__law_start.nd rfl (Or.inl rfl))
    (pss_cons (ps_if (pt_cmpR op_lt (pe_op op_sub (pv 3) (pv 2)) pe_int (nomark _))
    (pss_one ps_break)
    pss_nil)
  (pss_cons (ps_set (i := 5) sc__law_start.nd rfl (.inl rfl) (pe_op op_fdiv (pe_op op_add (pv 2) (pv 3)) pe_int))
  (pss_one (ps_if (pt_cmpR op_isN (pe_kall F__law_value (hr.mono (by decide)) (by rfl) (pa_cons (pv 0) (pa_cons (pv 1) (pa_cons (pv 5) pa_nil)))) pe_non (nomark _))
    (pss_one (ps_set (i := 2) sc__law_start.nd rfl (.inl rfl) (pv 5)))
    (pss_one (ps_set (i := 3) sc__law_start.nd rfl (.inl rfl) (pv 5))))))))
  (pss_one (ps_ret (pv 3)))))), ?_⟩⟩
  exact start_PV hpre (by
    rintro G v I Q hI ⟨xh, yh, ss, hs, s, rfl, hS, hR, ok, hn, hb, rfl⟩ q
    have led : ∀ (σ : St) (n : Nat), σ[0]? = some (some xh) → σ[1]? = some (some yh) → ∀ te : TE, Ev te σ G (nV n) → Ev (tCall (sp__law_value K) [] E0 (tCons (tVar 0) (tCons (tVar 1) (tCons te tNil)))) σ G (oV (val hs ss (hat hs 0) n)) := fun σ n h0 h1 te hte =>
      ev_callV (vs := [xh, yh, nV n]) (ea_cons (ev_var h0) (ea_cons (ev_var h1) (ea_cons hte ea_nil))) (sp_PV ⟨xh, yh, ss, hs, n, rfl, hS, hR, ok, rfl⟩)
    have isn : ∀ n, decide (oV (val hs ss (hat hs 0) n) = .non) = decide (n < s) := fun n => by
      rw [Bool.eq_iff_iff, decide_eq_true_iff, decide_eq_true_iff, ← hn n]
      cases val hs ss (hat hs 0) n with
      | none => simp [oV]
      | some k => simp [oV, nV]
    refine go_un2 hI (x := .int (-1)) (y := nV 1) (eu_tup (ea_cons (ev_neg ev_c) (ea_cons ev_c ea_nil)) (show (2 : Nat) ≤ 100000 by decide)) ?_
    have second : ∀ (lo : Int) (hi : Nat) (t : Option V), -1 ≤ lo → lo < s → s ≤ hi → (hi : Int) - lo ≤ 2 ^ 91 → Go I (tSeq (tFor (iRng1 (tCons (tC (V.int 120)) tNil)) (gName 4)
          (tSeq (tIfS (tTest (tOp (rI0 fun i j => V.bl (decide (i < j))) (tOp (rI0 fun i j => V.int (i - j)) (tVar 3) (tVar 2)) (tC (V.int 2)))) tBreak tNext)
            (tSeq (tAsg (tOp (rI CDiv fun i j => V.int (i / j)) (tOp (rI0 fun i j => V.int (i + j)) (tVar 2) (tVar 3)) (tC (V.int 2))) (gName 5))
              (tIfS (tTest (tOp (fun x y H Q => y = V.non ∧ Q (V.bl (decide (x = V.non))) H) (tCall (sp__law_value K) [] E0 (tCons (tVar 0) (tCons (tVar 1) (tCons (tVar 5) tNil)))) (tC V.non)))
                (tAsg (tVar 5) (gName 2)) (tAsg (tVar 5) (gName 3))))))
        (tRet (tVar 3))) { nx := fun x H' => Q V.non H', rt := Q } [some xh, some yh, some (.int lo), some (nV hi), t, none] G := by
      intro lo hi t h1 h2 h3 h4
      have done : ∀ (lo : Int) (hi : Nat) (t u : Option V), lo < s → s ≤ hi → (hi : Int) - lo < 2 → Go I (tRet (tVar 3)) { nx := fun x H' => Q V.non H', rt := Q } [some xh, some yh, some (.int lo), some (nV hi), t, u] G := fun lo hi t u g1 g2 g3 =>
        go_retV hI (ev_var rfl) (by rw [show hi = s by omega]) (q G (Ex.refl G))
      refine go_forS (α := Int × Nat × Option V × Option V) (n := 120) (Y := YFn fun i => nV i) (fun i x => [some xh, some yh, some (.int x.1), some (nV x.2.1), x.2.2.1, x.2.2.2]) (fun i x => -1 ≤ x.1 ∧ x.1 < s ∧ s ≤ x.2.1 ∧ (x.2.1 : Int) - x.1 ≤ ((2 ^ (91 - i) : Nat) : Int)) (lo, hi, t, none) rfl ⟨h1, h2, h3, h4⟩ hI (ek_rng (m := 120) (ea_cons ev_c ea_nil) (by decide)) ?_ ?_
      · rintro i ⟨lo, hi, t, u⟩ x H H' hi' ⟨w1, w2, w3, w4⟩ eH ⟨e1, y⟩
        subst e1 y
        dsimp only at w1 w2 w3 w4
        refine ⟨_, Ex.refl _, fun Q q => q, ?_⟩
        refine go_when (b := decide ((hi : Int) - lo < 2)) hI (et_test (ev_I0 (ev_I0 (i := (hi : Int)) (j := lo) (ev_var rfl) (ev_var rfl)) ev_c)) (fun hz => ?_) fun hz => ?_
        · refine go_brk ?_
          dsimp only
          exact go_nx (done lo hi (some (nV i)) u w2 w3 (by simpa using hz))
        have hz' : ¬ (hi : Int) - lo < 2 := by simpa using hz
        obtain ⟨m, hm⟩ : ∃ m : Nat, (lo + (hi : Int)) / 2 = (m : Int) := ⟨((lo + (hi : Int)) / 2).toNat, by omega⟩
        refine go_asg2 hI (ev_I (C := CDiv) (i := lo + (hi : Int)) (j := 2) (ev_I0 (ev_var rfl) (ev_var rfl)) ev_c ⟨by decide, by decide⟩) (w := nV m) (by rw [hm]) ?_
        have hp : 2 * (2 ^ (91 - (i + 1)) : Nat) ≥ (2 ^ (91 - i) : Nat) := by
          by_cases h91 : i < 91
          · rw [show 91 - i = (91 - (i + 1)) + 1 by omega, Nat.pow_succ]
            omega
          · rw [show 91 - i = 0 by omega, show 91 - (i + 1) = 0 by omega]
            decide
        have hp1 : i ≥ 91 → (2 ^ (91 - i) : Nat) = 1 := fun h => by rw [show 91 - i = 0 by omega]
        have hp2 : i < 91 → (2 ^ (91 - i) : Nat) = 2 * 2 ^ (91 - (i + 1)) := fun h => by rw [show 91 - i = (91 - (i + 1)) + 1 by omega, Nat.pow_succ, Nat.mul_comm]
        have hi91 : i < 91 := by
          apply Nat.lt_of_not_le
          intro z
          have := hp1 z
          omega
        have hp3 := hp2 hi91
        refine go_if (b := decide (m < s)) hI (et_eqv (et_test (ev_isN (led _ m rfl rfl _ (ev_var rfl)))) (isn _)) (fun hb => ?_) fun hb => ?_
        · have hb' : m < s := by simpa using hb
          refine go_asg1 hI (ev_var rfl) ?_
          dsimp only
          refine LN.mk ((m : Int), hi, some (nV i), some (nV m)) rfl rfl ⟨?_, ?_, ?_, ?_⟩ <;> dsimp only <;> omega
        · have hb' : ¬ m < s := by simpa using hb
          refine go_asg1 hI (ev_var rfl) ?_
          dsimp only
          refine LN.mk (lo, m, some (nV i), some (nV m)) rfl rfl ⟨?_, ?_, ?_, ?_⟩ <;> dsimp only <;> omega
      · rintro ⟨lo, hi, t, u⟩ ⟨w1, w2, w3, w4⟩
        dsimp only at w1 w2 w3 w4
        refine done lo hi t u w2 w3 ?_
        have : (2 ^ (91 - 120) : Nat) = 1 := by decide
        omega
    refine go_forS (α := Int × Nat × Option V) (n := 90) (Y := YFn fun i => nV i) (fun i x => [some xh, some yh, some (.int x.1), some (nV x.2.1), x.2.2, none]) (fun i x => -1 ≤ x.1 ∧ x.1 < s ∧ x.2.1 = 2 ^ i ∧ x.1 < x.2.1) (-1, 1, none) rfl ⟨by omega, by omega, rfl, by omega⟩ hI (ek_rng (m := 90) (ea_cons ev_c ea_nil) (by decide)) ?_ ?_
    · rintro i ⟨lo, hi, t⟩ x H H' hi' ⟨w1, w2, w3, w4⟩ eH ⟨e1, y⟩
      subst e1 y
      dsimp only at w1 w2 w3 w4
      refine ⟨_, Ex.refl _, fun Q q => q, ?_⟩
      have hpow : (2 ^ i : Nat) ≤ 2 ^ 90 := Nat.pow_le_pow_right (by decide) (by omega)
      refine go_when (b := !decide (hi < s)) hI (et_eqv (et_test (ev_notN (led _ hi rfl rfl _ (ev_var rfl)))) (by rw [isn hi])) (fun hz => ?_) fun hz => ?_
      · have hz' : ¬ hi < s := by simpa using hz
        refine go_brk ?_
        dsimp only
        exact go_nx (second lo hi (some (nV i)) w1 w2 (by omega) (by omega))
      · have hz' : hi < s := by simpa using hz
        refine go_par1 hI (x := nV hi) (y := nV (2 * hi)) (ea_cons (ev_var rfl) (ea_cons (ev_eqv (ev_I (C := CMul) (i := 2) (j := (hi : Int)) ev_c (ev_var rfl) (Or.inl ⟨by decide, by decide⟩)) rfl) ea_nil)) ?_
        dsimp only
        refine LN.mk ((hi : Int), 2 * hi, some (nV i)) rfl rfl ⟨?_, ?_, ?_, ?_⟩ <;> dsimp only
        · omega
        · omega
        · rw [w3, Nat.pow_succ, Nat.mul_comm]
        · have : 0 < (2 ^ i : Nat) := Nat.pow_pos (by decide)
          omega
    · rintro ⟨lo, hi, t⟩ ⟨w1, w2, w3, w4⟩
      dsimp only at w1 w2 w3 w4
      exact second lo hi t w1 w2 (by rw [w3]; exact hb) (by rw [w3]; omega))
def sp__law_same (K : PySem.W.Frag) : Sp := PV 2 fun vs G v => ∃ (a b : Addr) (d : PyData), vs = [.ref a, .ref b] ∧ (∀ H, Ex G H → Dp K H (.ref a) d ∧ Dp K H (.ref b) d) ∧ d.showable = true ∧ d.hasDict = false ∧ d.depth ≤ 40 ∧ d.shown.length ≤ sizeLine ∧ v = .bl true
abbrev N__law_same : List Str := ["_law_told", "_law_due"]
abbrev P__law_same : List Str := ["_law_told", "_law_due"]
theorem sc__law_same : FnScope N__law_same P__law_same (defScope s__law_same) := ⟨rfl, rfl, rfl, by decide +kernel, rfl, by decide +kernel, by decide +kernel⟩
theorem F__law_same {P : Program} {w : World} {K : PySem.W.Frag} {mg : Str → Option Value} {base : Heap} (T : Tx K w mg) : KpG P w K mg base 1 "_law_same" P__law_same (sp__law_same K) := by
  obtain ⟨fd, F⟩ := T.d__law_same
  refine ⟨_, fd, T.g__law_same, F.kp, F.bindsN (fun _ _ _ _ _ _ us hl => match us, hl with | [_, _], _ => rfl), okG F (N := N__law_same) sc__law_same len_PV fun cdv A outer s H vs Q E hgd hr hpre => ⟨_, PSs.nox (pss_one (ps_ret (pe_cmpR op_eq (pe_callB (cr_repr hgd hr.units) (by rfl) T.f_repr (by decide +kernel) (pa_cons (pv 0) pa_nil)) (pe_callB (cr_repr hgd hr.units) (by rfl) T.f_repr (by decide +kernel) (pa_cons (pv 1) pa_nil)) (nomark _)))), ?_⟩⟩
  exact start_PV hpre (by
    rintro G v I Q hI ⟨a, b, d, rfl, hd, h1, h2, h3, h4, rfl⟩ q
    refine go_ret hI (ev_eqB (x := .str d.shown) (y := .str d.shown) (ev_cb (vs := [.ref a]) (ea_cons (ev_var rfl) ea_nil) fun H1 e1 Q k => ⟨a, d, rfl, (hd H1 e1).1, h1, h2, h3, h4, k H1 (Ex.refl _)⟩) (ev_cb (vs := [.ref b]) (ea_cons (ev_var rfl) ea_nil) fun H1 e1 Q k => ⟨b, d, rfl, (hd H1 e1).2, h1, h2, h3, h4, k H1 (Ex.refl _)⟩) rfl (by simp)) (q G (Ex.refl G)))
def sp__law_ground (K : PySem.W.Frag) : Sp := PI 2 fun I vs G R => ∃ (a : Addr), vs = [.ref a, nV 4] ∧ Va a I ∧ R = fun v G2 => ∃ p bs, v = .ref p ∧ G2 p = some (.lst (nL bs)) ∧ 1 ≤ bs.length ∧ bs.length ≤ 3 ∧ ∀ b ∈ bs, 2 ≤ b ∧ b ≤ 4
abbrev N__law_ground : List Str := ["_law_vase_here", "_law_most", "_law_turn"]
abbrev P__law_ground : List Str := ["_law_vase_here", "_law_most"]
theorem sc__law_ground : FnScope N__law_ground P__law_ground (defScope s__law_ground) := ⟨rfl, rfl, rfl, by decide +kernel, rfl, by decide +kernel, by decide +kernel⟩
theorem F__law_ground {P : Program} {w : World} {K : PySem.W.Frag} {mg : Str → Option Value} {base : Heap} (T : Tx K w mg) (F__law_pluck : Kp P w K mg base 2 "_law_pluck" P__law_pluck (sp__law_pluck K)) (F__law_pour : Kp P w K mg base 1 "_law_pour" P__law_pour (sp__law_pour K)) : Kp P w K mg base 3 "_law_ground" P__law_ground (sp__law_ground K) := by
  obtain ⟨fd, F⟩ := T.d__law_ground
  refine ⟨_, fd, T.g__law_ground, F.kp, F.bindsN (fun _ _ _ _ _ _ us hl => match us, hl with | [_, _], _ => rfl), F.ok (N := N__law_ground) sc__law_ground len_PI fun cdv A outer s H vs Q E hr hpre => ⟨_, PSs.nox (pss_one (ps_ret (pe_lc (own := [("_law_turn", 2)]) rfl sc__law_ground.nd (pi_range1 (by rfl) T.f_range (pa_cons (pe_kall F__law_pluck (hr.mono (by decide)) (by rfl) (pa_cons (pv 0) (pa_cons (pe_lst (pa_cons pe_int (pa_cons pe_int (pa_cons pe_int (pa_cons pe_int pa_nil))))) pa_nil))) pa_nil)) (blkOk_by (own := [("_law_turn", 2)]) (N := N__law_ground) (sc := defScope s__law_ground) (by decide +kernel)) (fun _ _ _ _ _ => (pg_name (i := 2) sc__law_ground.nd rfl (Or.inl rfl))) (fun _ _ _ _ _ => pts_nil) (fun _ _ _ _ _ => (pe_op op_add pe_int (pe_kall F__law_pour (hr.mono (by decide)) (by rfl) (pa_cons (pv 0) (pa_cons (pe_op op_sub (pv 1) pe_int) pa_nil)))))))), ?_⟩⟩
  exact start_PI hpre (by
    rintro G R I Q hI ⟨a, rfl, va, rfl⟩ q
    refine go_retI (ei_lc hI (wi_rngI (P := fun m => 1 ≤ m ∧ m ≤ 3) (eai_one (ei_pluck hI va (ev_var rfl) (el_lst (vs := [nV 1, nV 2, nV 2, nV 3]) (ea_cons ev_c (ea_cons ev_c (ea_cons ev_c (ea_cons ev_c ea_nil)))) (show (4 : Nat) ≤ 100000 by decide)) (show (0 : Nat) < 4 by decide) (show (4 : Nat) < 1000 by decide)) fun v G' _ hv => ?_)) fun n Y G' e' ⟨hn, hY⟩ => ⟨by omega, fun i acc G2 => ∃ bs, acc = nL bs ∧ ∀ b ∈ bs, 2 ≤ b ∧ b ≤ 4, ⟨[], rfl, fun b hb => by cases hb⟩, ?_, ?_⟩) q
    · have : v = nV 1 ∨ v = nV 2 ∨ v = nV 2 ∨ v = nV 3 := by simpa using hv
      rcases this with rfl | rfl | rfl | rfl
      · exact ⟨1, rfl, ⟨by decide, by decide⟩, by decide⟩
      · exact ⟨2, rfl, ⟨by decide, by decide⟩, by decide⟩
      · exact ⟨2, rfl, ⟨by decide, by decide⟩, by decide⟩
      · exact ⟨3, rfl, ⟨by decide, by decide⟩, by decide⟩
    · rintro I' hI' hva i acc Gi hi eg ⟨bs, rfl, hb⟩ hl x H H' hy
      rw [hY] at hy
      obtain ⟨y1, y2⟩ := hy
      subst y1 y2
      refine ⟨_, fun Q q => q, rfl, rfl, ei_op hI' (x := nV 2) ev_c (ei_pour (top := 3) hI' (hva a va) (ev_var rfl) (ev_eqv (ev_I0 (i := 4) (j := 1) (ev_var rfl) ev_c) rfl) (by decide) (by decide)) fun y G2 _ ⟨d, hd, hy, hG⟩ => ?_⟩
      subst hy hG
      refine ⟨nV (2 + d), rv_I0 (i := 2) (j := (d : Int)) (g := fun i j => .int (i + j)), bs ++ [2 + d], by simp [nL], fun b hb' => ?_⟩
      rcases List.mem_append.mp hb' with h | h
      · exact hb b h
      · have : b = 2 + d := by simpa using h
        omega
    · rintro acc G2 p eg hl ⟨bs, rfl, hb⟩ hp
      rw [nL_len] at hl
      exact ⟨p, bs, rfl, upd_same, by omega, by omega, hb⟩)
end Lm
end
section
set_option Elab.async false
set_option linter.all false
set_option maxRecDepth 100000
set_option maxHeartbeats 2000000
namespace Lm
open PySem PySem.Spec L2 Evl
local macro_rules | `(tactic| infer_instance) => `(tactic| first | (with_reducible exact ev_c) | ((with_reducible apply ev_var); exact rfl) | (with_reducible exact ea_nil) | (intro _; infer_instance) | ((with_reducible apply ev_I0) <;> try infer_instance) | ((with_reducible apply ev_I) <;> try infer_instance) | ((with_reducible apply ev_isInt) <;> try infer_instance) | ((with_reducible apply ev_isBool) <;> try infer_instance) | ((with_reducible apply ev_isStr) <;> try infer_instance) | ((with_reducible apply ev_isTup) <;> try infer_instance) | ((with_reducible apply ev_isN) <;> try infer_instance) | ((with_reducible apply ev_notN) <;> try infer_instance) | ((with_reducible apply ev_neg) <;> try infer_instance) | ((with_reducible apply ev_fld) <;> try infer_instance) | ((with_reducible apply ev_ixT) <;> try infer_instance) | ((with_reducible apply ev_ixL) <;> try infer_instance) | ((with_reducible apply ev_andV) <;> try infer_instance) | ((with_reducible apply ev_orV) <;> try infer_instance) | ((with_reducible apply ev_notV) <;> try infer_instance) | ((with_reducible apply ev_callV) <;> try infer_instance) | ((with_reducible apply ea_cons) <;> try infer_instance) | ((with_reducible apply et_test) <;> try infer_instance) | ((with_reducible apply et_B) <;> try infer_instance) | ((with_reducible apply et_not) <;> try infer_instance) | ((with_reducible apply et_and) <;> try infer_instance) | ((with_reducible apply et_or) <;> try infer_instance) | ((with_reducible apply ev_eq) <;> first | infer_instance | exact rfl | skip) | ((with_reducible apply ev_ne) <;> first | infer_instance | exact rfl | skip) | ((with_reducible apply eu_tup) <;> first | infer_instance | decide | skip) | ((with_reducible apply el_lst) <;> first | infer_instance | decide | skip))
def sp__law_lanes (K : PySem.W.Frag) : Sp := PI 2 fun I vs G R => ∃ (a g : Addr) (bs : List Nat), vs = [.ref a, .ref g] ∧ Va a I ∧ SqL K G g (nL bs) ∧ 1 ≤ bs.length ∧ bs.length ≤ 3 ∧ (∀ b ∈ bs, 2 ≤ b ∧ b ≤ 4) ∧ R = fun v G2 => ∃ p ls rs, v = .ref p ∧ SqL K G2 p ls ∧ AllR (RowL K G2) ls rs ∧ rs.length ≤ 3 ∧ ∀ r ∈ rs, r.1 < bs.length ∧ 1 ≤ r.2.1 ∧ r.2.1 ≤ 4 ∧ r.2.2 < bs.getLastD 0
abbrev N__law_lanes : List Str := ["_law_vase_here", "_law_ground_here", "_law_found", "_law_turn", "_law_field", "_law_every"]
abbrev P__law_lanes : List Str := ["_law_vase_here", "_law_ground_here"]
theorem sc__law_lanes : FnScope N__law_lanes P__law_lanes (defScope s__law_lanes) := ⟨rfl, rfl, rfl, by decide +kernel, rfl, by decide +kernel, by decide +kernel⟩
theorem F__law_lanes {P : Program} {w : World} {K : PySem.W.Frag} {mg : Str → Option Value} {base : Heap} (T : Tx K w mg) (F__law_pluck : Kp P w K mg base 2 "_law_pluck" P__law_pluck (sp__law_pluck K)) (F__law_pour : Kp P w K mg base 1 "_law_pour" P__law_pour (sp__law_pour K)) : Kp P w K mg base 3 "_law_lanes" P__law_lanes (sp__law_lanes K) := by
  obtain ⟨fd, F⟩ := T.d__law_lanes
  refine ⟨_, fd, T.g__law_lanes, F.kp, F.bindsN (fun _ _ _ _ _ _ us hl => match us, hl with | [_, _], _ => rfl), F.ok (N := N__law_lanes) sc__law_lanes len_PI fun cdv A outer s H vs Q E hr hpre => ⟨_, PSs.nox (pss_cons (ps_set (i := 2) sc__law_lanes.nd rfl (.inl rfl) (pe_lst pa_nil))
  (pss_cons (ps_for PassesOwn.never rfl (pi_range1 (by rfl) T.f_range (pa_cons (pe_kall F__law_pluck (hr.mono (by decide)) (by rfl) (pa_cons (pv 0) (pa_cons (pe_lst (pa_cons pe_int (pa_cons pe_int (pa_cons pe_int (pa_cons pe_int (pa_cons pe_int (pa_cons pe_int pa_nil))))))) pa_nil))) pa_nil)) (pg_name (i := 3) sc__law_lanes.nd rfl (Or.inl rfl))
    (pss_cons (ps_par (i := 4) (j := 5) rfl sc__law_lanes.nd rfl rfl (by decide) rfl rfl (pa_cons (pe_kall F__law_pour (hr.mono (by decide)) (by rfl) (pa_cons (pv 0) (pa_cons (pe_callB call_len_seq (by rfl) T.f_len (by decide +kernel) (pa_cons (pv 1) pa_nil)) pa_nil))) (pa_cons (pe_kall F__law_pluck (hr.mono (by decide)) (by rfl) (pa_cons (pv 0) (pa_cons (pe_lst (pa_cons pe_int (pa_cons pe_int (pa_cons pe_int (pa_cons pe_int (pa_cons pe_int pa_nil)))))) pa_nil))) pa_nil)) (by rfl))
  (pss_one (ps_expr (pe_bm PySem.F.plainAttrs_list PySem.F.slot_list_append PySem.F.type_list_append mt_append (pv 2) (pa_cons (pe_lst (pa_cons (pv 4) (pa_cons (pv 5) (pa_cons (pe_kall F__law_pour (hr.mono (by decide)) (by rfl) (pa_cons (pv 0) (pa_cons (pe_ix ix_list (pv 1) (pe_un un_neg pe_int) (fun _ _ => rfl)) pa_nil))) pa_nil)))) pa_nil))))))
  (pss_one (ps_ret (pv 2))))), ?_⟩⟩
  exact start_PI hpre (by
    rintro G R I Q hI ⟨a, g, bs, rfl, va, hg, h1, h3, hb, rfl⟩ q
    have hne : bs ≠ [] := fun z => by rw [z] at h1; exact absurd h1 (by decide)
    have hlast : atI (nL bs) (-1) = some (nV (bs.getLastD 0)) := by
      rw [atI_last (by intro z; exact hne (List.map_eq_nil_iff.mp z))]
      unfold nL
      rw [List.getLast?_map, List.getLast?_eq_some_getLast hne, List.getLastD_eq_getLast?, List.getLast?_eq_some_getLast hne]
      rfl
    have hlb : 2 ≤ bs.getLastD 0 ∧ bs.getLastD 0 ≤ 4 := by
      rw [List.getLastD_eq_getLast?, List.getLast?_eq_some_getLast hne]
      exact hb _ (List.getLast_mem hne)
    refine go_asgO hI (el_lst ea_nil (by decide)) fun f hf haf => ?_
    have cW := cl_wl (l := f) hI
    have vW := va_wl va (haf a va)
    refine go_forRI (α := Hp × List V × List Row × Option V × Option V × Option V) (PP := fun m => m ≤ 3) cW (eai_one (ei_pluck cW vW (ev_var rfl) (el_lst (vs := [nV 0, nV 1, nV 1, nV 2, nV 2, nV 3]) (ea_cons ev_c (ea_cons ev_c (ea_cons ev_c (ea_cons ev_c (ea_cons ev_c (ea_cons ev_c ea_nil)))))) (show (6 : Nat) ≤ 100000 by decide)) (show (0 : Nat) < 6 by decide) (show (6 : Nat) < 1000 by decide)) fun v G' _ hv => ?_)
      (fun i x => [some (.ref a), some (.ref g), some (.ref f), x.2.2.2.1, x.2.2.2.2.1, x.2.2.2.2.2]) (fun i x => x.1)
      (fun i x => Ex G x.1 ∧ x.1 f = some (.lst x.2.1) ∧ AllR (RowL K (del x.1 f)) x.2.1 x.2.2.1 ∧ x.2.2.1.length = i ∧ ∀ r ∈ x.2.2.1, r.1 < bs.length ∧ 1 ≤ r.2.1 ∧ r.2.1 ≤ 4 ∧ r.2.2 < bs.getLastD 0) ?_ ?_ ?_
    · have : v = nV 0 ∨ v = nV 1 ∨ v = nV 1 ∨ v = nV 2 ∨ v = nV 2 ∨ v = nV 3 := by simpa using hv
      rcases this with rfl | rfl | rfl | rfl | rfl | rfl
      · exact ⟨0, rfl, by decide, by decide⟩
      · exact ⟨1, rfl, by decide, by decide⟩
      · exact ⟨1, rfl, by decide, by decide⟩
      · exact ⟨2, rfl, by decide, by decide⟩
      · exact ⟨2, rfl, by decide, by decide⟩
      · exact ⟨3, rfl, by decide, by decide⟩
    · intro m G' e hm
      exact ⟨(G', [], [], none, none, none), rfl, rfl, (Ex.new hf).trans e, e f _ upd_same, trivial, rfl, fun r hr => by cases hr⟩
    · rintro m i ⟨G1, ls, rs, s1, s2, s3⟩ hm hi ⟨w1, w2, w3, w4, w5⟩
      dsimp only at w1 w2 w3 w4 w5
      refine go_parI (RA := fun vs G' => ∃ d e : Nat, vs = [nV d, nV e] ∧ d < bs.length ∧ 1 ≤ e ∧ e ≤ 4) (eai_cons (ei_pour (top := bs.length) cW vW (ev_var rfl) (ev_eqv (ev_lenL (ev_var rfl) (ex_l w1 hg)) (by rw [nL_len])) (by omega) (by omega)) fun v G' _ ⟨d, hd, hv, hG⟩ => ?_) fun vs G' e' ⟨d, e, hvs, hd, he1, he4⟩ => ?_
      · subst hv hG
        refine eai_one (ei_pluck cW vW (ev_var rfl) (el_lst (vs := [nV 1, nV 1, nV 2, nV 3, nV 4]) (ea_cons ev_c (ea_cons ev_c (ea_cons ev_c (ea_cons ev_c (ea_cons ev_c ea_nil))))) (show (5 : Nat) ≤ 100000 by decide)) (show (0 : Nat) < 5 by decide) (show (5 : Nat) < 1000 by decide)) fun v G2 _ hv => ?_
        have : v = nV 1 ∨ v = nV 1 ∨ v = nV 2 ∨ v = nV 3 ∨ v = nV 4 := by simpa using hv
        rcases this with rfl | rfl | rfl | rfl | rfl
        · exact ⟨d, 1, rfl, hd, by decide, by decide⟩
        · exact ⟨d, 1, rfl, hd, by decide, by decide⟩
        · exact ⟨d, 2, rfl, hd, by decide, by decide⟩
        · exact ⟨d, 3, rfl, hd, by decide, by decide⟩
        · exact ⟨d, 4, rfl, hd, by decide, by decide⟩
      · subst hvs
        refine ⟨nV d, nV e, rfl, ?_⟩
        refine go_appI cW (fun _ _ _ j => wl_upd j) (xs := ls) (R1 := fun v G2 => ∃ c : Nat, c < bs.getLastD 0 ∧ RowL K (del G2 f) v (d, e, c)) (e' f _ w2) (ev_var rfl) (ei_lst (RA := fun vs G2 => ∃ c : Nat, c < bs.getLastD 0 ∧ vs = [nV d, nV e, nV c] ∧ Ex G' G2) (eai_cons (ei_of cW (ev_var rfl)) fun v G2 _ ⟨e1, e2⟩ => ?_) cW fun vs G2 e2 ⟨c, hc, hvs, _⟩ => ?_) ?_ fun v G2 e2 ⟨c, hc, hR⟩ => ?_
        · subst e1 e2
          refine eai_cons (ei_of cW (ev_var rfl)) fun v G3 _ ⟨e1, e2⟩ => ?_
          subst e1 e2
          refine eai_one (ei_pour (top := bs.getLastD 0) cW vW (ev_var rfl) (ev_ixL (ev_var rfl) (ev_neg ev_c) (ex_l (w1.trans e') hg) hlast) (by omega) (by omega)) fun v G4 e4 ⟨c, hc, hv, hG⟩ => ?_
          subst hv hG
          exact ⟨c, hc, rfl, Ex.refl _⟩
        · subst hvs
          refine ⟨(show (3 : Nat) ≤ 100000 by decide), fun p hp => ⟨c, hc, p, rfl, sq_of ?_⟩⟩
          have hpf : p ≠ f := fun z => by rw [z, e2 f _ (e' f _ w2)] at hp; cases hp
          rw [del_ne hpf]
          exact upd_same
        · have := w3.len
          omega
        · dsimp only
          have e3 : Ex (del G1 f) (del G2 f) := ex_del (e'.trans e2)
          refine LN.mk (upd G2 f (.lst (ls ++ [v])), ls ++ [v], rs ++ [(d, e, c)], some (nV i), some (nV d), some (nV e)) rfl rfl ⟨?_, upd_same, ?_, by simp [w4], ?_⟩
          · exact ((w1.trans e').trans e2).mut hf
          · rw [del_upd]
            exact (w3.imp fun _ _ => RowL.mono e3).app ⟨hR, trivial⟩
          · intro r hr
            rcases List.mem_append.mp hr with h | h
            · exact w5 r h
            · have : r = (d, e, c) := by simpa using h
              subst this
              exact ⟨hd, he1, he4, hc⟩
    · rintro m ⟨G1, ls, rs, s1, s2, s3⟩ hm ⟨w1, w2, w3, w4, w5⟩
      dsimp only at w1 w2 w3 w4 w5
      refine go_ret cW (ev_var rfl) (gov_out hI (q _ _ w1 ⟨f, ls, rs, rfl, sq_of w2, w3.imp fun _ _ => RowL.mono del_ex, by omega, w5⟩)))
def sp__law_house (K : PySem.W.Frag) : Sp := PI 2 fun I vs G R => ∃ (a : Addr) (gv : V), vs = [.ref a, gv] ∧ Va a I ∧ (gv = .non ∨ ∃ p bs, gv = .ref p ∧ SqL K G p (nL bs) ∧ 1 ≤ bs.length ∧ bs.length ≤ 3 ∧ ∀ b ∈ bs, 2 ≤ b ∧ b ≤ 4) ∧ R = fun v G2 => ∃ h, HomR K G2 v h
abbrev N__law_house : List Str := ["_law_vase_here", "_law_ground_here"]
abbrev P__law_house : List Str := ["_law_vase_here", "_law_ground_here"]
theorem sc__law_house : FnScope N__law_house P__law_house (defScope s__law_house) := ⟨rfl, rfl, rfl, by decide +kernel, rfl, by decide +kernel, by decide +kernel⟩
theorem F__law_house {P : Program} {w : World} {K : PySem.W.Frag} {mg : Str → Option Value} {base : Heap} (T : Tx K w mg) (F__law_place_house : Kp P w K mg base 3 "_law_place_house" P__law_place_house (sp__law_place_house K)) (F__law_lanes : Kp P w K mg base 3 "_law_lanes" P__law_lanes (sp__law_lanes K)) (F__law_ground : Kp P w K mg base 3 "_law_ground" P__law_ground (sp__law_ground K)) : Kp P w K mg base 4 "_law_house" P__law_house (sp__law_house K) := by
  obtain ⟨fd, F⟩ := T.d__law_house
  refine ⟨_, fd, T.g__law_house, F.kp, F.bindsN (fun _ _ _ _ _ _ us hl => match us, hl with | [_, _], _ => rfl), F.ok (N := N__law_house) sc__law_house len_PI fun cdv A outer s H vs Q E hr hpre => ⟨_, PSs.nox (pss_cons (ps_set (i := 1) sc__law_house.nd rfl (.inl rfl) (pe_ifExp (pt_cmpR op_isN (pv 1) pe_non (nomark _)) (pe_kall F__law_ground (hr.mono (by decide)) (by rfl) (pa_cons (pv 0) (pa_cons pe_int pa_nil))) (pv 1)))
  (pss_one (ps_ret (pe_kall F__law_place_house (hr.mono (by decide)) (by rfl) (pa_cons (pv 1) (pa_cons (pe_kall F__law_lanes (hr.mono (by decide)) (by rfl) (pa_cons (pv 0) (pa_cons (pv 1) pa_nil))) pa_nil)))))), ?_⟩⟩
  exact start_PI hpre (by
    rintro G R I Q hI ⟨a, gv, rfl, va, hgv, rfl⟩ q
    have fin : ∀ (p : Addr) (bs : List Nat) (G1 : Hp), Ex G G1 → SqL K G1 p (nL bs) → 1 ≤ bs.length → bs.length ≤ 3 → (∀ b ∈ bs, 2 ≤ b ∧ b ≤ 4) → Go I (tRet (tCall (sp__law_place_house K) [] E0 (tCons (tVar 1) (tCons (tCall (sp__law_lanes K) [] E0 (tCons (tVar 0) (tCons (tVar 1) tNil))) tNil)))) { nx := fun x H' => Q V.non H', rt := Q } [some (.ref a), some (.ref p)] G1 := by
      intro p bs G1 e1 hp h1 h3 hb
      refine go_retI (ei_call (RA := fun vs G2 => ∃ l ls rs, vs = [.ref p, .ref l] ∧ SqL K G2 p (nL bs) ∧ SqL K G2 l ls ∧ AllR (RowL K G2) ls rs ∧ rs.length ≤ 3 ∧ ∀ r ∈ rs, r.1 < bs.length ∧ 1 ≤ r.2.1 ∧ r.2.1 ≤ 4 ∧ r.2.2 < bs.getLastD 0) (eai_cons (ei_of hI (ev_var rfl)) fun v G2 _ ⟨z1, z2⟩ => ?_) fun vs G2 e2 ⟨l, ls, rs, hvs, q1, q2, q3, q4, q5⟩ => ?_) fun v G2 e2 hv => q v G2 (e1.trans e2) hv
      · subst z1 z2
        refine eai_one (ei_callA hI (vs := [.ref a, .ref p]) (ea_cons (ev_var rfl) (ea_cons (ev_var rfl) ea_nil)) (sp_PI hI ⟨a, p, bs, rfl, va, hp, h1, h3, hb, rfl⟩)) fun v G2 e2 ⟨l, ls, rs, hv, q2, q3, q4, q5⟩ => ?_
        subst hv
        exact ⟨l, ls, rs, rfl, ex_l e2 hp, q2, q3, q4, q5⟩
      · subst hvs
        have ok : HM.Ok ⟨bs, rs⟩ := ⟨h1, h3, hb, q4, q5⟩
        exact (sp_PI hI ⟨p, l, ⟨bs, rs⟩, ls, rfl, q1, q2, q3, ok, rfl⟩).mono fun v G3 _ h => ⟨⟨bs, rs⟩, h⟩
    rcases hgv with rfl | ⟨p, bs, rfl, hp, h1, h3, hb⟩
    · refine go_asgI (ei_if (b := true) hI (et_eqv (et_test (ev_isN (ev_var rfl))) rfl) (fun _ => ei_callA hI (vs := [.ref a, nV 4]) (ea_cons (ev_var rfl) (ea_cons ev_c ea_nil)) (sp_PI hI ⟨a, rfl, va, rfl⟩)) fun z => by cases z) fun v G1 e1 ⟨p, bs, hv, hp, h1, h3, hb⟩ => ?_
      subst hv
      exact fin p bs G1 e1 (sq_of hp) h1 h3 hb
    · refine go_asg hI (v := .ref p) (ev_if (b := false) (et_eqv (et_test (ev_isN (ev_var rfl))) rfl) (fun z => by cases z) fun _ => ev_var rfl) ?_
      exact fin p bs G (Ex.refl _) hp h1 h3 hb)
def sp__law_built (K : PySem.W.Frag) : Sp := PI 1 fun I vs G R => ∃ (x : V) (h : HM), vs = [x] ∧ HomR K G x h ∧ R = fun v G2 => HouR K G2 v h
abbrev N__law_built : List Str := ["_law_home", "_law_lane"]
abbrev P__law_built : List Str := ["_law_home"]
theorem sc__law_built : FnScope N__law_built P__law_built (defScope s__law_built) := ⟨rfl, rfl, rfl, by decide +kernel, rfl, by decide +kernel, by decide +kernel⟩
theorem F__law_built {P : Program} {w : World} {K : PySem.W.Frag} {mg : Str → Option Value} {base : Heap} (T : Tx K w mg) (F_House : Np P w K mg base 5 (He.ga K "House") "House" P_House___init__ (sp_House___init__ K)) : Kp P w K mg base 7 "_law_built" P__law_built (sp__law_built K) := by
  obtain ⟨fd, F⟩ := T.d__law_built
  refine ⟨_, fd, T.g__law_built, F.kp, F.bindsN (fun _ _ _ _ _ _ us hl => match us, hl with | [_], _ => rfl), F.ok (N := N__law_built) sc__law_built len_PI fun cdv A outer s H vs Q E hr hpre => ⟨_, PSs.nox (pss_one (ps_ret (pe_kmake F_House hr (by rfl) (pa_cons (pe_callTy call_tuple_of (by rfl) T.f_tuple (by decide +kernel) (pa_cons (pe_dget (units1 hr.units) (pv 0) pe_str (fun _ _ => rfl)) pa_nil)) (pa_cons (pe_callTy call_tuple_of (by rfl) T.f_tuple (by decide +kernel) (pa_cons (pe_lc (own := [("_law_lane", 1)]) rfl sc__law_built.nd (pi_list (pe_dget (units1 hr.units) (pv 0) pe_str (fun _ _ => rfl))) (blkOk_by (own := [("_law_lane", 1)]) (N := N__law_built) (sc := defScope s__law_built) (by decide +kernel)) (fun _ _ _ _ _ => (pg_name (i := 1) sc__law_built.nd rfl (Or.inl rfl))) (fun _ _ _ _ _ => pts_nil) (fun _ _ _ _ _ => (pe_callTy (tupK_of (K := K) rfl) (by rfl) T.f_tuple (by decide +kernel) (pa_cons (pv 1) pa_nil)))) pa_nil)) pa_nil))))), ?_⟩⟩
  exact start_PI hpre (by
    rintro G R I Q hI ⟨x, h, rfl, ⟨a, g, l, sp, be, ls, rfl, hF, ok⟩, rfl⟩ q
    refine go_retI (ei_make (RA := fun vs G2 => ∃ tp tl lt, vs = [.ref tp, .ref tl] ∧ SqT K G2 tp (nL h.bs) ∧ SqT K G2 tl lt ∧ AllR (RowT K G2) lt h.rows) hI (eai_cons (ei_ofU hI (eu_tupOf (hF.gr (ev_var rfl)) hF.g)) fun v G1 e1 ⟨tp, z1, z2, z3⟩ => ?_) (fun vs G2 ⟨_, _, _, e, _⟩ => by rw [e]; rfl) fun vs G2 e2 ⟨tp, tl, lt, hv, k1, k2, k3⟩ => ⟨_, ⟨tp, tl, h, lt, by rw [hv]; rfl, k1, k2, k3, ok, rfl⟩, fun x G3 _ hr => hr⟩) q
    subst z1
    have hF1 : HomF K G1 a h g l sp be ls := ⟨e1 _ _ hF.d, ex_l e1 hF.g, ex_l e1 hF.l, hF.ls.imp fun _ _ => RowL.mono e1, ex_l e1 hF.s, ex_l e1 hF.b⟩
    have htp : SqT K G1 tp (nL h.bs) := by rw [z3]; exact st_of upd_same
    refine eai_one (ei_tuple (R1 := fun lt G2 => Ex G1 G2 ∧ AllR (RowT K G2) lt h.rows) (R := fun v G2 => ∃ tl lt, v = .ref tl ∧ Ex G1 G2 ∧ SqT K G2 tl lt ∧ AllR (RowT K G2) lt h.rows) hI (EvI.imp (ei_lc (R := fun v G2 => ∃ p xs, v = .ref p ∧ SqL K G2 p xs ∧ Ex G1 G2 ∧ AllR (RowT K G2) xs h.rows) hI (ek_wi hI (ek_list (hF1.la (ev_var rfl)) hF1.l)) fun n Y G2 e2 ⟨hn, hY, hG⟩ => ⟨?_, fun i acc Gi => Ex G1 Gi ∧ AllR (RowT K Gi) acc (h.rows.take i), ⟨by rw [hG]; exact Ex.refl _, trivial⟩, ?_, ?_⟩) fun v G2 _ ⟨p, xs, c1, c2, c3, c4⟩ => ⟨p, xs, c1, c2, c3, c4⟩) fun xs G2 p e2 ⟨c1, c2⟩ hp => ⟨p, xs, rfl, c1.trans (Ex.new hp), st_of upd_same, c2.imp fun _ _ => RowT.mono (Ex.new hp)⟩) fun v G2 e2 ⟨tl, lt, c1, c2, c3, c4⟩ => ⟨tp, tl, lt, by rw [c1], ex_t c2 htp, c3, c4⟩
    · rw [hn, hF1.ls.len]
      have := ok.r3
      omega
    · rintro I' hI' hva i acc Gi hi eg ⟨c1, c2⟩ hl x H H' hy
      rw [hY] at hy
      obtain ⟨y1, y2⟩ := hy
      subst y1
      obtain ⟨r, hr, p, rfl, hp⟩ := hF1.ls.at y2
      refine ⟨_, fun Q q => q, rfl, rfl, EvI.imp (ei_ofU hI' (eu_tupOf (ev_var rfl) (ex_l c1 hp))) fun v G3 e3 ⟨t, t1, t2, t3⟩ => ⟨c1.trans e3, ?_⟩⟩
      rw [List.take_succ, hr]
      subst t1
      exact (c2.imp fun _ _ => RowT.mono e3).app ⟨⟨t, rfl, by rw [t3]; exact st_of upd_same⟩, trivial⟩
    · rintro acc G3 p eg hl ⟨c1, c2⟩ hp
      rw [hn, hF1.ls.len, List.take_length] at c2
      exact ⟨p, acc, rfl, sq_of upd_same, c1.trans (Ex.new hp), c2.imp fun _ _ => RowT.mono (Ex.new hp)⟩)
end Lm
end
section
set_option Elab.async false
set_option linter.all false
set_option maxRecDepth 100000
set_option maxHeartbeats 2000000
namespace Lm
open PySem PySem.Spec L2 Evl
local macro_rules | `(tactic| infer_instance) => `(tactic| first | (with_reducible exact ev_c) | ((with_reducible apply ev_var); exact rfl) | (with_reducible exact ea_nil) | (intro _; infer_instance) | ((with_reducible apply ev_I0) <;> try infer_instance) | ((with_reducible apply ev_I) <;> try infer_instance) | ((with_reducible apply ev_isInt) <;> try infer_instance) | ((with_reducible apply ev_isBool) <;> try infer_instance) | ((with_reducible apply ev_isStr) <;> try infer_instance) | ((with_reducible apply ev_isTup) <;> try infer_instance) | ((with_reducible apply ev_isN) <;> try infer_instance) | ((with_reducible apply ev_notN) <;> try infer_instance) | ((with_reducible apply ev_neg) <;> try infer_instance) | ((with_reducible apply ev_fld) <;> try infer_instance) | ((with_reducible apply ev_ixT) <;> try infer_instance) | ((with_reducible apply ev_ixL) <;> try infer_instance) | ((with_reducible apply ev_andV) <;> try infer_instance) | ((with_reducible apply ev_orV) <;> try infer_instance) | ((with_reducible apply ev_notV) <;> try infer_instance) | ((with_reducible apply ev_callV) <;> try infer_instance) | ((with_reducible apply ea_cons) <;> try infer_instance) | ((with_reducible apply et_test) <;> try infer_instance) | ((with_reducible apply et_B) <;> try infer_instance) | ((with_reducible apply et_not) <;> try infer_instance) | ((with_reducible apply et_and) <;> try infer_instance) | ((with_reducible apply et_or) <;> try infer_instance) | ((with_reducible apply ev_eq) <;> first | infer_instance | exact rfl | skip) | ((with_reducible apply ev_ne) <;> first | infer_instance | exact rfl | skip) | ((with_reducible apply eu_tup) <;> first | infer_instance | decide | skip) | ((with_reducible apply el_lst) <;> first | infer_instance | decide | skip))
theorem vals_len (s : Sp1) : s.vals.length ≤ 100000 := by cases s <;> simp [Sp1.vals]
def sp__law_move (K : PySem.W.Frag) : Sp := PI 2 fun I vs G R => ∃ (xh yh : V) (ss : List Sp1) (hs : List HM) (s : Nat) (tb : List Nat), vs = [xh, yh] ∧ SlR K G xh ss ∧ HlR K G yh hs ∧ OkS hs ss (hat hs 0) ∧ HsOk hs ∧ (∀ n, (val hs ss (hat hs 0) n = none) ↔ n < s) ∧ 0 < (thr hs ss (hat hs 0) 1 1).1 ∧ (thr hs ss (hat hs 0) 1 1).1 ≤ 60 ∧ tb.length = (thr hs ss (hat hs 0) 1 1).1 ∧ (∀ i, i < tb.length → val hs ss (hat hs 0) (s + i) = some (tb.getD i 0)) ∧ R = fun v G2 => MovR K G2 v (thr hs ss (hat hs 0) 1 1).1 (thr hs ss (hat hs 0) 1 1).2 s tb
abbrev N__law_move : List Str := ["_law_strides_here", "_law_homes_here", "_law_home"]
abbrev P__law_move : List Str := ["_law_strides_here", "_law_homes_here"]
theorem sc__law_move : FnScope N__law_move P__law_move (defScope s__law_move) := ⟨rfl, rfl, rfl, by decide +kernel, rfl, by decide +kernel, by decide +kernel⟩
theorem F__law_move {P : Program} {w : World} {K : PySem.W.Frag} {mg : Str → Option Value} {base : Heap} (T : Tx K w mg) (F_Move : Np P w K mg base 7 (He.ga K "Move") "Move" P_Move___init__ (sp_Move___init__ K)) (F__law_built : Kp P w K mg base 7 "_law_built" P__law_built (sp__law_built K)) : Kp P w K mg base 9 "_law_move" P__law_move (sp__law_move K) := by
  obtain ⟨fd, F⟩ := T.d__law_move
  refine ⟨_, fd, T.g__law_move, F.kp, F.bindsN (fun _ _ _ _ _ _ us hl => match us, hl with | [_, _], _ => rfl), F.ok (N := N__law_move) sc__law_move len_PI fun cdv A outer s H vs Q E hr hpre => ⟨_, PSs.nox (pss_one (ps_ret (pe_kmake F_Move hr (by rfl) (pa_cons (pe_callTy call_tuple_of (by rfl) T.f_tuple (by decide +kernel) (pa_cons (pe_lc (own := [("_law_home", 2)]) rfl sc__law_move.nd (pi_list (pv 1)) (blkOk_by (own := [("_law_home", 2)]) (N := N__law_move) (sc := defScope s__law_move) (by decide +kernel)) (fun _ _ _ _ _ => (pg_name (i := 2) sc__law_move.nd rfl (Or.inl rfl))) (fun _ _ _ _ _ => pts_nil) (fun _ _ _ _ _ => (pe_kall F__law_built (hr.mono (by decide)) (by rfl) (pa_cons (pv 2) pa_nil)))) pa_nil)) (pa_cons (pe_callTy call_tuple_of (by rfl) T.f_tuple (by decide +kernel) (pa_cons (pv 0) pa_nil)) pa_nil))))), ?_⟩⟩
  exact start_PI hpre (by
    rintro G R I Q hI ⟨xh, yh, ss, hs, s, tb, rfl, ⟨sp, sxs, rfl, hss, hsall, hs4⟩, ⟨hp, hxs, rfl, hh, hhall, hh3, hh1⟩, ok, oh, hn, hT0, hT1, htl, htb, rfl⟩ q
    refine go_retI (ei_make (RA := fun vs G2 => ∃ u w : V, vs = [w, u] ∧ StsR K G2 u ss ∧ HsR K G2 w hs) hI (eai_cons (ei_tuple (R1 := fun xs G2 => Ex G G2 ∧ AllR (HouR K G2) xs hs) (R := fun v G2 => Ex G G2 ∧ HsR K G2 v hs) hI (EvI.imp (ei_lc (R := fun v G2 => ∃ p xs, v = .ref p ∧ SqL K G2 p xs ∧ Ex G G2 ∧ AllR (HouR K G2) xs hs) hI (ek_wi hI (ek_list (ev_var rfl) hh)) fun n Y G2 e2 ⟨hn, hY, hG⟩ => ⟨?_, fun i acc Gi => Ex G Gi ∧ AllR (HouR K Gi) acc (hs.take i), ⟨by rw [hG]; exact Ex.refl _, trivial⟩, ?_, ?_⟩) fun v G2 _ ⟨p, xs, c1, c2, c3, c4⟩ => ⟨p, xs, c1, c2, c3, c4⟩) fun xs G2 p e2 ⟨c1, c2⟩ hp => ⟨c1.trans (Ex.new hp), p, xs, rfl, st_of upd_same, c2.imp fun _ _ => HouR.mono (Ex.new hp), hh3, hh1⟩) fun v G1 e1 ⟨c1, c2⟩ => ?_) (fun vs G2 ⟨_, _, e, _⟩ => by rw [e]; rfl) fun vs G2 e2 ⟨u, w, hv, k1, k2⟩ => ⟨_, ⟨u, w, ss, hs, s, tb, by rw [hv]; rfl, k1, k2, ok, oh, hn, hT0, hT1, htl, htb, rfl⟩, fun x G3 _ hr => hr⟩) q
    · rw [hn, hhall.len]
      omega
    · rintro I' hI' hva i acc Gi hi eg ⟨c1, c2⟩ hl x H H' hy
      rw [hY] at hy
      obtain ⟨y1, y2⟩ := hy
      subst y1
      obtain ⟨h, hr, hR⟩ := hhall.at y2
      refine ⟨_, fun Q q => q, rfl, rfl, EvI.imp (ei_callA hI' (vs := [x]) (ea_cons (ev_var rfl) ea_nil) (sp_PI hI' ⟨x, h, rfl, hR.mono c1, rfl⟩)) fun v G3 e3 hv => ⟨c1.trans e3, ?_⟩⟩
      rw [List.take_succ, hr]
      exact (c2.imp fun _ _ => HouR.mono e3).app ⟨hv, trivial⟩
    · rintro acc G3 p eg hl ⟨c1, c2⟩ hp
      rw [hn, hhall.len, List.take_length] at c2
      exact ⟨p, acc, rfl, sq_of upd_same, c1.trans (Ex.new hp), c2.imp fun _ _ => HouR.mono (Ex.new hp)⟩
    · refine eai_one (ei_ofU hI (eu_tupOf (ev_var rfl) (ex_l c1 hss))) fun v G2 e2 ⟨t, t1, t2, t3⟩ => ?_
      subst t1
      exact ⟨.ref t, _, rfl, ⟨t, sxs, rfl, by rw [t3]; exact st_of upd_same, hsall.imp fun _ _ => StR.mono (c1.trans e2), hs4⟩, c2.mono e2⟩)
def sp__law_stride (K : PySem.W.Frag) : Sp := PI 3 fun I vs G R => ∃ (a : Addr) (xh yh : V) (h : HM) (hs : List HM), vs = [.ref a, xh, yh] ∧ Va a I ∧ HomR K G xh h ∧ HlR K G yh hs ∧ R = fun v G2 => ∃ s : Sp1, StR K G2 v s ∧ s.Ok hs h
abbrev N__law_stride : List Str := ["_law_vase_here", "_law_home", "_law_homes_here", "_law_manner", "_law_way_here", "_law_amount", "_law_same_here", "_law_k"]
abbrev P__law_stride : List Str := ["_law_vase_here", "_law_home", "_law_homes_here"]
theorem sc__law_stride : FnScope N__law_stride P__law_stride (defScope s__law_stride) := ⟨rfl, rfl, rfl, by decide +kernel, rfl, by decide +kernel, by decide +kernel⟩
theorem F__law_stride {P : Program} {w : World} {K : PySem.W.Frag} {mg : Str → Option Value} {base : Heap} (T : Tx K w mg) (F__law_pour : Kp P w K mg base 1 "_law_pour" P__law_pour (sp__law_pour K)) (F__law_pluck : Kp P w K mg base 2 "_law_pluck" P__law_pluck (sp__law_pluck K)) : Kp P w K mg base 3 "_law_stride" P__law_stride (sp__law_stride K) := by
  obtain ⟨fd, F⟩ := T.d__law_stride
  refine ⟨_, fd, T.g__law_stride, F.kp, F.bindsN (fun _ _ _ _ _ _ us hl => match us, hl with | [_, _, _], _ => rfl), F.ok (N := N__law_stride) sc__law_stride len_PI fun cdv A outer s H vs Q E hr hpre => ⟨_, PSs.nox (pss_cons (ps_par (i := 3) (j := 4) rfl sc__law_stride.nd rfl rfl (by decide) rfl rfl (pa_cons (pe_kall F__law_pluck (hr.mono (by decide)) (by rfl) (pa_cons (pv 0) (pa_cons (pe_lst (pa_cons pe_str (pa_cons pe_str pa_nil))) pa_nil))) (pa_cons (pe_kall F__law_pour (hr.mono (by decide)) (by rfl) (pa_cons (pv 0) (pa_cons pe_int pa_nil))) pa_nil)) (by rfl))
  (pss_cons (ps_set (i := 5) sc__law_stride.nd rfl (.inl rfl) (pe_kall F__law_pluck (hr.mono (by decide)) (by rfl) (pa_cons (pv 0) (pa_cons (pe_lst (pa_cons pe_int (pa_cons pe_int (pa_cons pe_int (pa_cons pe_int (pa_cons pe_int (pa_cons pe_int (pa_cons pe_int (pa_cons pe_int (pa_cons (pe_op op_add (pe_op op_pow pe_int pe_int) pe_int) (pa_cons (pe_op op_add (pe_op op_pow pe_int pe_int) pe_int) pa_nil))))))))))) pa_nil))))
  (pss_cons (ps_setLc (i := 6) (own := [("_law_k", 7)]) rfl sc__law_stride.nd rfl rfl (sw_true rfl rfl rfl (by decide +kernel)) (pi_range1 (by rfl) T.f_range (pa_cons (pe_callB call_len_seq (by rfl) T.f_len (by decide +kernel) (pa_cons (pv 2) pa_nil)) pa_nil)) (blkOk_by (own := [("_law_k", 7)]) (N := N__law_stride) (sc := defScope s__law_stride) (by decide +kernel)) (fun _ _ _ _ _ => (pg_name (i := 7) sc__law_stride.nd rfl (Or.inl rfl))) (fun _ _ _ _ _ => (pts_one (pt_cmpR (eqK_D (K := K) rfl hr.units) (pe_dget (units1 hr.units) (pe_ix (ixK_list (K := K) rfl) (pv 2) (pv 7) (fun _ _ => rfl)) pe_str (fun _ _ => rfl)) (pe_dget (units1 hr.units) (pv 1) pe_str (fun _ _ => rfl)) (nomark _)))) (fun _ _ _ _ _ => (pv 7)))
  (pss_cons (ps_if (pt_cmpR op_lt (pv 4) pe_int (nomark _))
    (pss_one (ps_ret (pe_ifExp (pt_cmpR op_eq (pv 4) pe_int (nomark _)) (pe_tup (pa_cons pe_str (pa_cons (pv 5) pa_nil))) (pe_tup (pa_cons pe_str (pa_cons (pe_op op_mod (pe_callTy call_int1 (by rfl) T.f_int (by decide +kernel) (pa_cons (pv 5) pa_nil)) pe_int) pa_nil))))))
    pss_nil)
  (pss_cons (ps_if (pt_cmpR op_lt (pv 4) pe_int (nomark _))
    (pss_one (ps_ret (pe_ifExp (pt_cmpR op_lt (pv 4) pe_int (nomark _)) (pe_tup (pa_cons pe_str (pa_cons (pv 5) (pa_cons (pv 3) pa_nil)))) (pe_tup (pa_cons pe_str (pa_cons (pe_op op_mod (pe_callTy call_int1 (by rfl) T.f_int (by decide +kernel) (pa_cons (pv 5) pa_nil)) pe_int) (pa_cons (pv 3) pa_nil)))))))
    pss_nil)
  (pss_cons (ps_if (pt_cmpR op_lt (pv 4) pe_int (nomark _))
    (pss_one (ps_ret (pe_tup (pa_cons (pe_ix ix_list (pe_lst (pa_cons pe_str (pa_cons pe_str pa_nil))) (pe_op op_mod (pe_callTy call_int1 (by rfl) T.f_int (by decide +kernel) (pa_cons (pv 4) pa_nil)) pe_int) (fun _ _ => rfl)) (pa_cons (pe_kall F__law_pour (hr.mono (by decide)) (by rfl) (pa_cons (pv 0) (pa_cons (pe_callB call_len_seq (by rfl) T.f_len (by decide +kernel) (pa_cons (pe_dget (units1 hr.units) (pv 1) pe_str (fun _ _ => rfl)) pa_nil)) pa_nil))) pa_nil)))))
    pss_nil)
  (pss_cons (ps_if (PW.pt (pw_and (pt_cmpR op_lt (pv 4) pe_int (nomark _)) (pw_and1 (pt_cmpR (op_neD hr.units) (pv 6) (pe_lst pa_nil) (nomark _)))))
    (pss_one (ps_ret (pe_tup (pa_cons pe_str (pa_cons (pe_kall F__law_pluck (hr.mono (by decide)) (by rfl) (pa_cons (pv 0) (pa_cons (pv 6) pa_nil))) (pa_cons (pv 3) pa_nil))))))
    pss_nil)
  (pss_cons (ps_if (pt_cmpR op_eq (pv 4) pe_int (nomark _))
    (pss_one (ps_ret (pe_tup (pa_cons pe_str (pa_cons (pe_kall F__law_pour (hr.mono (by decide)) (by rfl) (pa_cons (pv 0) (pa_cons (pe_callB call_len_seq (by rfl) T.f_len (by decide +kernel) (pa_cons (pv 2) pa_nil)) pa_nil))) pa_nil)))))
    pss_nil)
  (pss_one (ps_ret (pe_tup (pa_cons pe_str (pa_cons (pe_op op_add pe_int (pe_kall F__law_pour (hr.mono (by decide)) (by rfl) (pa_cons (pv 0) (pa_cons pe_int pa_nil)))) (pa_cons (pe_op op_add pe_int (pe_kall F__law_pour (hr.mono (by decide)) (by rfl) (pa_cons (pv 0) (pa_cons pe_int pa_nil)))) pa_nil)))))))))))))), ?_⟩⟩
  exact start_PI hpre (by
    rintro G R I Q hI ⟨a, xh, yh, h, hs, rfl, va, hR, hH, rfl⟩ q
    have pack : ∀ {σ : St} {G1 : Hp} {s : Sp1} {ts : TA}, Ex G G1 → EvA ts σ G1 s.vals → s.Ok hs h → EvI I (tTup ts) σ G1 (fun v G2 => ∃ s : Sp1, StR K G2 v s ∧ s.Ok hs h) := fun {σ G1 s ts} e1 h1 h2 => EvI.imp (ei_ofU hI (eu_tup h1 (vals_len s))) fun v G2 _ ⟨t, t1, t2, t3⟩ => ⟨s, ⟨t, t1, by rw [t3]; exact st_of upd_same⟩, h2⟩
    have packI : ∀ {σ : St} {G1 : Hp} {ts : TA}, EvAI I ts σ G1 (fun vs G2 => ∃ s : Sp1, vs = s.vals ∧ s.Ok hs h) → EvI I (tTup ts) σ G1 (fun v G2 => ∃ s : Sp1, StR K G2 v s ∧ s.Ok hs h) := fun {σ G1 ts} h1 => ei_tup h1 hI fun vs G2 e2 ⟨s, hv, hok⟩ => ⟨by rw [hv]; exact vals_len s, fun p hp => ⟨s, ⟨p, rfl, by rw [hv]; exact st_of upd_same⟩, hok⟩⟩
    refine go_parI (RA := fun vs G' => ∃ (nx : Bool) (w : Nat), vs = [nxS nx, nV w] ∧ w < 12) (eai_cons (ei_pluck hI va (ev_var rfl) (el_lst (vs := [nxS true, nxS false]) (ea_cons ev_c (ea_cons ev_c ea_nil)) (show (2 : Nat) ≤ 100000 by decide)) (show (0 : Nat) < 2 by decide) (show (2 : Nat) < 1000 by decide)) fun v G1 _ hv => eai_one (ei_pour (top := 12) hI va (ev_var rfl) ev_c (by decide) (by decide)) fun u G2 _ ⟨d, hd, hu, _⟩ => ?_) fun vs G1 e1 ⟨nx, w, hvs, hw⟩ => ⟨nxS nx, nV w, hvs, ?_⟩
    · have : v = nxS true ∨ v = nxS false := by simpa using hv
      rcases this with rfl | rfl
      · exact ⟨true, d, by rw [hu], hd⟩
      · exact ⟨false, d, by rw [hu], hd⟩
    refine go_asgI (EvI.imp (R' := fun v _ => ∃ c : Nat, v = nV c ∧ c ≤ 10 ^ 38 + 3) (ei_pluck hI va (ev_var rfl) (el_lst (vs := [nV 0, nV 1, nV 2, nV 3, nV 5, nV 7, nV 12, nV 40, nV (10 ^ 9 + 1), nV (10 ^ 38 + 3)]) (ea_cons ev_c (ea_cons ev_c (ea_cons ev_c (ea_cons ev_c (ea_cons ev_c (ea_cons ev_c (ea_cons ev_c (ea_cons ev_c (ea_cons (ev_eqv (ev_I0 (ev_I (C := CPow) (i := 10) (j := 9) ev_c ev_c ⟨by decide, by decide, by decide⟩) ev_c) (by decide)) (ea_cons (ev_eqv (ev_I0 (ev_I (C := CPow) (i := 10) (j := 38) ev_c ev_c ⟨by decide, by decide, by decide⟩) ev_c) (by decide)) ea_nil)))))))))) (show (10 : Nat) ≤ 100000 by decide)) (show (0 : Nat) < 10 by decide) (show (10 : Nat) < 1000 by decide)) fun v G2 _ hv => ?_) fun v G2 e2 ⟨c, hv, hc⟩ => ?_
    · have : ∀ u ∈ [nV 0, nV 1, nV 2, nV 3, nV 5, nV 7, nV 12, nV 40, nV (10 ^ 9 + 1), nV (10 ^ 38 + 3)], ∃ c : Nat, u = nV c ∧ c ≤ 10 ^ 38 + 3 := by
        intro u hu
        simp only [List.mem_cons, List.not_mem_nil, or_false] at hu
        rcases hu with rfl | rfl | rfl | rfl | rfl | rfl | rfl | rfl | rfl | rfl <;> exact ⟨_, rfl, by decide⟩
      exact this v hv
    subst hv
    have e12 := e1.trans e2
    have hR2 := hR.mono e12
    have hH2 := hH.mono e12
    obtain ⟨ha, hg, hl, hsp, hbe, hls, rfl, hF, okh⟩ := id hR2
    obtain ⟨hp, hxs, rfl, hh, hhall, hh3, hh1⟩ := id hH2
    have hmod : ∀ {σ : St} {i : Nat}, σ[5]? = some (some (nV c)) → ∀ G', Ev (tOp (rI (fun _ j => 0 < j) fun i j => .int (i % j)) (tCB (fun xs H Q => (∃ i, xs = [.int i] ∧ Q (.int i) H) ∨ ∃ k, xs = [.bl k] ∧ Q (.int (if k then 1 else 0)) H) (tCons (tVar 5) tNil)) (tC (.int 1000))) σ G' (nV (c % 1000)) := fun h5 G' => ev_eqv (ev_I (i := (c : Int)) (j := 1000) (ev_int1 (ev_var h5)) ev_c (by decide)) rfl
    have hhat : ∀ k, k < hs.length → ∃ y, atI hxs (k : Int) = some y ∧ HomR K G2 y (hat hs k) := fun k hk => by
      obtain ⟨y, y1, y2⟩ := hhall.to (i := k) (a := hat hs k) (by unfold hat; rw [List.getD_eq_getElem?_getD, List.getElem?_eq_getElem hk]; rfl)
      exact ⟨y, by rw [atI_nat]; exact y1, y2⟩
    refine go_asgL hI (xs := nL ((List.range hs.length).filter fun k => (hat hs k).bs == h.bs)) (el_eqv (el_lcF (n := hs.length) (fun k => (hat hs k).bs == h.bs) (fun k => nV k) (fun k => nV k) (ew_rng (ea_cons (ev_eqv (ev_lenL (ev_var rfl) hh) (by rw [hhall.len])) ea_nil) (by omega)) (by omega) (fun _ => rfl) ?_) ?_) fun sm hsm => ?_
    · intro k hk
      obtain ⟨y, y1, y2⟩ := hhat k hk
      obtain ⟨a2, g2, l2, sp2, be2, ls2, rfl, hF2, okh2⟩ := y2
      exact ⟨et_test (ev_op (hF2.gr (ev_ixL (ev_var rfl) (ev_var rfl) hh y1)) (hF.gr (ev_var rfl)) (rv_eqL hF2.g hF.g)), fun _ => ev_var rfl⟩
    · unfold given nL
      rfl
    have e3 : Ex G2 (upd G2 sm (.lst (nL ((List.range hs.length).filter fun k => (hat hs k).bs == h.bs)))) := Ex.new hsm
    have hsm3 : upd G2 sm (.lst (nL ((List.range hs.length).filter fun k => (hat hs k).bs == h.bs))) sm = some (.lst (nL ((List.range hs.length).filter fun k => (hat hs k).bs == h.bs))) := upd_same
    generalize upd G2 sm (.lst (nL ((List.range hs.length).filter fun k => (hat hs k).bs == h.bs))) = G3 at e3 hsm3 ⊢
    have e13 := e12.trans e3
    have hw2 : ∀ {σ : St} {j : Int}, σ[4]? = some (some (nV w)) → EvT (tTest (tOp (rI0 fun i j => .bl (decide (i < j))) (tVar 4) (tC (.int j)))) σ G3 (decide ((w : Int) < j)) := fun h4 => et_test (ev_I0 (ev_var h4) ev_c)
    have hwe : ∀ {σ : St} {j : Nat}, σ[4]? = some (some (nV w)) → EvT (tTest (tOp rEq (tVar 4) (tC (nV j)))) σ G3 (decide (w = j)) := fun h4 => et_eqv (et_test (ev_eq (ev_var h4) ev_c rfl)) dec_nV
    refine go_when hI (hw2 rfl) (fun _ => go_retI (ei_if hI (hwe (j := 0) rfl) (fun _ => pack (s := .on c) e13 (ea_cons ev_c (ea_cons (ev_var rfl) ea_nil)) hc) fun _ => pack (s := .back (c % 1000)) e13 (ea_cons ev_c (ea_cons (hmod (i := 0) rfl _) ea_nil)) (Nat.mod_lt _ (by decide))) fun v G4 e4 hv => q v G4 (e13.trans e4) hv) fun _ => ?_
    refine go_when hI (hw2 rfl) (fun _ => go_retI (ei_if hI (hw2 rfl) (fun _ => pack (s := .lab c nx) e13 (ea_cons ev_c (ea_cons (ev_var rfl) (ea_cons (ev_var rfl) ea_nil))) hc) fun _ => pack (s := .unlab (c % 1000) nx) e13 (ea_cons ev_c (ea_cons (hmod (i := 0) rfl _) (ea_cons (ev_var rfl) ea_nil))) (Nat.mod_lt _ (by decide))) fun v G4 e4 hv => q v G4 (e13.trans e4) hv) fun _ => ?_
    refine go_when hI (hw2 rfl) (fun _ => go_retI (packI (eai_cons (R1 := fun v G4 => Ex G3 G4 ∧ (v = .str "to" ∨ v = .str "after")) ?_ fun v G4 e4 ⟨_, hv⟩ => eai_one (ei_pour (top := h.bs.length) hI va (ev_var rfl) (ev_eqv (ev_lenL (HomF.gr (h := h) (ls := hls) (g := hg) (l := hl) (sp := hsp) (be := hbe) ⟨e4 _ _ (e3 _ _ hF.d), ex_l (e3.trans e4) hF.g, ex_l (e3.trans e4) hF.l, hF.ls.imp fun _ _ => RowL.mono (e3.trans e4), ex_l (e3.trans e4) hF.s, ex_l (e3.trans e4) hF.b⟩ (ev_var rfl)) (ex_l (e3.trans e4) hF.g)) (by rw [nL_len])) (by have := okh.n1; omega) (by have := okh.n3; omega)) fun u G5 _ ⟨d, hd, hu, _⟩ => ?_)) fun v G4 e4 hv => q v G4 (e13.trans e4) hv) fun _ => ?_
    · have hm2 : ((w % 2 : Nat) = 0) ∨ ((w % 2 : Nat) = 1) := by omega
      refine EvI.imp (ei_of hI (v := if w % 2 = 0 then .str "to" else .str "after") (ev_ixN (xs := [.str "to", .str "after"]) (el_lst (ea_cons ev_c (ea_cons ev_c ea_nil)) (show (2 : Nat) ≤ 100000 by decide)) (fun G' => ev_eqv (ev_I (i := (w : Int)) (j := 2) (ev_int1 (ev_var rfl)) ev_c (by decide)) (w := nV (w % 2)) rfl) ?_)) fun v G4 _ ⟨z1, z2⟩ => ⟨by rw [z2]; exact Ex.refl _, ?_⟩
      · show atI _ ((w % 2 : Nat) : Int) = _
        rw [atI_nat]
        rcases hm2 with z | z <;> rw [z] <;> rfl
      · rw [z1]
        rcases hm2 with z | z <;> rw [z]
        · exact Or.inl rfl
        · exact Or.inr rfl
    · rcases hv with rfl | rfl
      · exact ⟨.to d, by rw [hu]; rfl, hd⟩
      · exact ⟨.after d, by rw [hu]; rfl, hd⟩
    have hne : EvT (tTest (tOp (rNeD K) (tVar 6) (tLst tNil))) [some (.ref a), some (.ref ha), some (.ref hp), some (nxS nx), some (nV w), some (nV c), some (.ref sm), none] G3 (!(((List.range hs.length).filter fun k => (hat hs k).bs == h.bs) == [])) := et_test (ev_opL (ev_var rfl) (el_lst ea_nil (by decide)) fun p H1 h1 eH H2 e2 Q k => ⟨_, _, .lst (sq_of (e2 _ _ (eH _ _ hsm3))) (dp_nL _), .lst (sq_of (e2 _ _ h1)) (dp_nL []), (shaped_L _).1, (shaped_L []).1, by
      show Q (.bl (!(PyData.eqvAll (dI _) (dI [])))) H2
      rw [eqv_dI]
      exact k H2 (Ex.refl H2)⟩)
    refine go_when hI (et_and (hw2 rfl) fun _ => hne) (fun hz => ?_) fun _ => ?_
    · have hz2 : ((List.range hs.length).filter fun k => (hat hs k).bs == h.bs) ≠ [] := by
        rw [Bool.and_eq_true] at hz
        simpa using hz.2
      refine go_retI (packI (eai_cons (ei_of hI ev_c) fun v G4 e4 ⟨z1, z2⟩ => ?_)) fun v G4 e4 hv => q v G4 (e13.trans e4) hv
      subst z1 z2
      refine eai_cons (EvI.imp (R' := fun v _ => ∃ k, v = nV k ∧ k < hs.length ∧ (hat hs k).bs = h.bs) (ei_callA hI (vs := [.ref a, .ref sm]) (ea_cons (ev_var rfl) (ea_cons (ev_var rfl) ea_nil)) (sp_PI hI ⟨a, sm, _, rfl, va, sq_of hsm3, by rw [nL_len]; exact List.length_pos_iff.mpr hz2, ?_, rfl⟩)) fun v G5 e5 ⟨hv, _⟩ => ?_) fun v G5 e5 ⟨k, hv, hk1, hk2⟩ => eai_one (ei_of hI (ev_var rfl)) fun u G6 _ ⟨z1, z2⟩ => ⟨.read k nx, by rw [hv, z1]; rfl, hk1, hk2⟩
      · rw [nL_len]
        have := List.length_filter_le (fun k => (hat hs k).bs == h.bs) (List.range hs.length)
        rw [List.length_range] at this
        omega
      · unfold nL at hv
        rw [List.mem_map] at hv
        obtain ⟨k, hk, rfl⟩ := hv
        rw [List.mem_filter, List.mem_range, beq_iff_eq] at hk
        exact ⟨k, rfl, hk.1, hk.2⟩
    refine go_when hI (hwe (j := 10) rfl) (fun _ => go_retI (packI (eai_cons (ei_of hI ev_c) fun v G4 e4 ⟨z1, z2⟩ => ?_)) fun v G4 e4 hv => q v G4 (e13.trans e4) hv) fun _ => ?_
    · subst z1 z2
      exact eai_one (ei_pour (top := hs.length) hI va (ev_var rfl) (ev_eqv (ev_lenL (ev_var rfl) (ex_l e3 hh)) (by rw [hhall.len])) (by omega) (by omega)) fun u G5 _ ⟨d, hd, hu, _⟩ => ⟨.call d, by rw [hu]; rfl, hd⟩
    refine go_retI (packI (eai_cons (ei_of hI ev_c) fun v G4 e4 ⟨z1, z2⟩ => ?_)) fun v G4 e4 hv => q v G4 (e13.trans e4) hv
    subst z1 z2
    have one : ∀ G', EvI I (tOp (rI0 fun i j => .int (i + j)) (tC (.int 1)) (tCall (sp__law_pour K) [] E0 (tCons (tVar 0) (tCons (tC (.int 4)) tNil)))) [some (.ref a), some (.ref ha), some (.ref hp), some (nxS nx), some (nV w), some (nV c), some (.ref sm), none] G' (fun v _ => ∃ d : Nat, v = nV d ∧ 1 ≤ d ∧ d ≤ 4) := fun G' => ei_op hI (x := nV 1) ev_c (ei_pour (top := 4) hI va (ev_var rfl) ev_c (by decide) (by decide)) fun y G5 _ ⟨d, hd, hy, hG⟩ => by
      subst hy hG
      exact ⟨nV (1 + d), rv_I0 (i := 1) (j := (d : Int)) (g := fun i j => .int (i + j)), 1 + d, rfl, by omega, by omega⟩
    exact eai_cons (one _) fun v G5 _ ⟨d, hv, d1, d2⟩ => eai_one (one _) fun u G6 _ ⟨b, hu, b1, b2⟩ => ⟨.rate d b, by rw [hv, hu]; rfl, d1, d2, b1, b2⟩)
end Lm
end
section
set_option Elab.async false
set_option linter.all false
set_option maxRecDepth 100000
set_option maxHeartbeats 2000000
namespace Lm
open PySem PySem.Spec L2 Evl
local macro_rules | `(tactic| infer_instance) => `(tactic| first | (with_reducible exact ev_c) | ((with_reducible apply ev_var); exact rfl) | (with_reducible exact ea_nil) | (intro _; infer_instance) | ((with_reducible apply ev_I0) <;> try infer_instance) | ((with_reducible apply ev_I) <;> try infer_instance) | ((with_reducible apply ev_isInt) <;> try infer_instance) | ((with_reducible apply ev_isBool) <;> try infer_instance) | ((with_reducible apply ev_isStr) <;> try infer_instance) | ((with_reducible apply ev_isTup) <;> try infer_instance) | ((with_reducible apply ev_isN) <;> try infer_instance) | ((with_reducible apply ev_notN) <;> try infer_instance) | ((with_reducible apply ev_neg) <;> try infer_instance) | ((with_reducible apply ev_fld) <;> try infer_instance) | ((with_reducible apply ev_ixT) <;> try infer_instance) | ((with_reducible apply ev_ixL) <;> try infer_instance) | ((with_reducible apply ev_andV) <;> try infer_instance) | ((with_reducible apply ev_orV) <;> try infer_instance) | ((with_reducible apply ev_notV) <;> try infer_instance) | ((with_reducible apply ev_callV) <;> try infer_instance) | ((with_reducible apply ea_cons) <;> try infer_instance) | ((with_reducible apply et_test) <;> try infer_instance) | ((with_reducible apply et_B) <;> try infer_instance) | ((with_reducible apply et_not) <;> try infer_instance) | ((with_reducible apply et_and) <;> try infer_instance) | ((with_reducible apply et_or) <;> try infer_instance) | ((with_reducible apply ev_eq) <;> first | infer_instance | exact rfl | skip) | ((with_reducible apply ev_ne) <;> first | infer_instance | exact rfl | skip) | ((with_reducible apply eu_tup) <;> first | infer_instance | decide | skip) | ((with_reducible apply el_lst) <;> first | infer_instance | decide | skip))
theorem eti_test {I : Hp → Hp → Prop} {te : TE} {σ : St} {G : Hp} {RB : Bool → Hp → Prop} (h : EvI I te σ G fun v G' => ∃ b, v = .bl b ∧ RB b G') : EvTI I (tTest te) σ G RB := fun H e i Q q => h H e i _ fun v G' H' e1 f1 i1 ⟨b, hv, hb⟩ => ⟨b, hv, q b G' H' e1 f1 i1 hb⟩
theorem ei_hide {I : Hp → Hp → Prop} {te : TE} {σ : St} {G : Hp} {R : V → Hp → Prop} {f : Addr} {acc : List V} (hf : G f = some (.lst acc)) (h : EvI (Hd f acc I) te σ (del G f) R) : EvI (Wl f I) te σ G fun v G4 => R v (del G4 f) ∧ G4 f = some (.lst acc) := fun H e i Q q =>
  h H (del_ex.trans e) ⟨del_same, e f _ hf, i.1⟩ Q fun v G4 H4 e4 f4 i4 r4 => by
    have ed : del (upd G4 f (.lst acc)) f = G4 := by rw [del_upd, del_none i4.1]
    refine q v (upd G4 f (.lst acc)) H4 (fun b o hb => ?_) (fun b o hb => ?_) ⟨by rw [ed]; exact i4.2.2, by rw [upd_same]; exact (fun z => by cases z)⟩ ⟨by rw [ed]; exact r4, upd_same⟩
    · by_cases z : b = f
      · subst z
        rw [upd_same, ← hb, hf]
      · rw [upd_ne z]
        exact e4 b o (by rw [del_ne z]; exact hb)
    · by_cases z : b = f
      · subst z
        rw [upd_same] at hb
        rw [← hb, i4.2.1]
      · rw [upd_ne z] at hb
        exact f4 b o hb
def endH (hs : List HM) : List Sp1 → HM → HM
  | [], h => h
  | s :: ss, h => endH hs ss (nextH hs h s)
theorem endH_app (hs : List HM) : ∀ (ss : List Sp1) (s : Sp1) (h : HM), endH hs (ss ++ [s]) h = nextH hs (endH hs ss h) s
  | [], _, _ => rfl
  | _ :: ss, s, h => endH_app hs ss s _
theorem OkS_app (hs : List HM) : ∀ (ss : List Sp1) (s : Sp1) (h : HM), OkS hs ss h → s.Ok hs (endH hs ss h) → OkS hs (ss ++ [s]) h
  | [], _, _, _, k => ⟨k, trivial⟩
  | _ :: ss, s, h, o, k => ⟨o.1, OkS_app hs ss s _ o.2 k⟩
def sp__law_homes (K : PySem.W.Frag) : Sp := PI 1 fun I vs G R => ∃ (a : Addr), vs = [.ref a] ∧ Va a I ∧ R = fun v G2 => ∃ hs, HlR K G2 v hs ∧ HsOk hs
abbrev N__law_homes : List Str := ["_law_vase_here", "_law_ground_here", "_law_found", "_law_turn"]
abbrev P__law_homes : List Str := ["_law_vase_here"]
theorem sc__law_homes : FnScope N__law_homes P__law_homes (defScope s__law_homes) := ⟨rfl, rfl, rfl, by decide +kernel, rfl, by decide +kernel, by decide +kernel⟩
theorem F__law_homes {P : Program} {w : World} {K : PySem.W.Frag} {mg : Str → Option Value} {base : Heap} (T : Tx K w mg) (F__law_ground : Kp P w K mg base 3 "_law_ground" P__law_ground (sp__law_ground K)) (F__law_house : Kp P w K mg base 4 "_law_house" P__law_house (sp__law_house K)) (F__law_pour : Kp P w K mg base 1 "_law_pour" P__law_pour (sp__law_pour K)) : Kp P w K mg base 5 "_law_homes" P__law_homes (sp__law_homes K) := by
  obtain ⟨fd, F⟩ := T.d__law_homes
  refine ⟨_, fd, T.g__law_homes, F.kp, F.bindsN (fun _ _ _ _ _ _ us hl => match us, hl with | [_], _ => rfl), F.ok (N := N__law_homes) sc__law_homes len_PI fun cdv A outer s H vs Q E hr hpre => ⟨_, PSs.nox (pss_cons (ps_set (i := 1) sc__law_homes.nd rfl (.inl rfl) (pe_kall F__law_ground (hr.mono (by decide)) (by rfl) (pa_cons (pv 0) (pa_cons pe_int pa_nil))))
  (pss_cons (ps_set (i := 2) sc__law_homes.nd rfl (.inl rfl) (pe_lst (pa_cons (pe_kall F__law_house (hr.mono (by decide)) (by rfl) (pa_cons (pv 0) (pa_cons (pv 1) pa_nil))) pa_nil)))
  (pss_cons (ps_for PassesOwn.never rfl (pi_range1 (by rfl) T.f_range (pa_cons (pe_kall F__law_pour (hr.mono (by decide)) (by rfl) (pa_cons (pv 0) (pa_cons pe_int pa_nil))) pa_nil)) (pg_name (i := 3) sc__law_homes.nd rfl (Or.inl rfl))
    (pss_one (ps_expr (pe_bm PySem.F.plainAttrs_list PySem.F.slot_list_append PySem.F.type_list_append mt_append (pv 2) (pa_cons (pe_kall F__law_house (hr.mono (by decide)) (by rfl) (pa_cons (pv 0) (pa_cons (pe_ifExp (pt_cmpR op_gt (pe_kall F__law_pour (hr.mono (by decide)) (by rfl) (pa_cons (pv 0) (pa_cons pe_int pa_nil))) pe_int (nomark _)) (pv 1) pe_non) pa_nil))) pa_nil)))))
  (pss_one (ps_ret (pv 2)))))), ?_⟩⟩
  exact start_PI hpre (by
    rintro G R I Q hI ⟨a, rfl, va, rfl⟩ q
    refine go_asgI (ei_callA hI (vs := [.ref a, nV 4]) (ea_cons (ev_var rfl) (ea_cons ev_c ea_nil)) (sp_PI hI ⟨a, rfl, va, rfl⟩)) fun v G1 e1 ⟨p, bs, hv, hp, h1, h3, hb⟩ => ?_
    subst hv
    refine go_asgO1 hI (ei_callA hI (vs := [.ref a, .ref p]) (ea_cons (ev_var rfl) (ea_cons (ev_var rfl) ea_nil)) (sp_PI hI ⟨a, .ref p, rfl, va, Or.inr ⟨p, bs, rfl, sq_of hp, h1, h3, hb⟩, rfl⟩)) fun v G2 f e2 ⟨h0, hR0⟩ hf haf => ?_
    have cW := cl_wl (l := f) hI
    have vW := va_wl va (haf a va)
    have hpf : p ≠ f := fun z => by rw [← z, e2 _ _ hp] at hf; cases hf
    refine go_forRI (α := Hp × List V × List HM × Option V) (PP := fun m => m ≤ 2) cW (eai_one (ei_pour (top := 3) cW vW (ev_var rfl) ev_c (by decide) (by decide)) fun u G3 _ ⟨d, hd, hu, _⟩ => ⟨d, by rw [hu], by omega, by omega⟩)
      (fun i x => [some (.ref a), some (.ref p), some (.ref f), x.2.2.2]) (fun i x => x.1)
      (fun i x => Ex G2 (del x.1 f) ∧ x.1 f = some (.lst x.2.1) ∧ AllR (HomR K (del x.1 f)) x.2.1 x.2.2.1 ∧ x.2.2.1.length = i + 1) ?_ ?_ ?_
    · intro m G3 e3 hm
      have e4 : Ex G2 (del G3 f) := fun b o hb' => by
        have hbf : b ≠ f := fun z => by rw [z, hf] at hb'; cases hb'
        rw [del_ne hbf]
        exact e3 b o (by rw [upd_ne hbf]; exact hb')
      exact ⟨(G3, [v], [h0], none), rfl, rfl, e4, e3 f _ upd_same, ⟨hR0.mono e4, trivial⟩, rfl⟩
    · rintro m i ⟨G3, xs, hs, s1⟩ hm hi ⟨w1, w2, w3, w4⟩
      dsimp only at w1 w2 w3 w4
      have cH := cl_hd (D := f) (acc := xs) hI
      have vH := va_hd (D := f) (acc := xs) va (haf a va)
      refine go_appI cW (fun _ _ _ j => wl_upd j) (xs := xs) w2 (ev_var rfl) (ei_hide (R := fun v G5 => ∃ h, HomR K G5 v h ∧ Ex (del G3 f) G5) w2 (ei_call (RA := fun vs G4 => Ex (del G3 f) G4 ∧ ∃ gv, vs = [.ref a, gv] ∧ (gv = .non ∨ gv = .ref p)) (eai_cons (ei_of cH (ev_var rfl)) fun v G4 e4 ⟨z1, z2⟩ => ?_) fun vs G4 _ ⟨e4, gv, hvs, hgv⟩ => ?_)) (by have := w3.len; omega) fun v G4 e4 ⟨⟨h, hR, e5⟩, hf4⟩ => ?_
      · subst z1 z2
        refine eai_one (R1 := fun v G4 => Ex (del G3 f) G4 ∧ (v = .non ∨ v = .ref p)) (ei_ifI (RB := fun _ G4 => True) (eti_test (ei_opR cH (ei_pour (top := 4) cH vH (ev_var rfl) ev_c (by decide) (by decide)) fun x G5 e5 ⟨d, hd, hx, hG⟩ => ⟨.int 0, .bl (decide ((0 : Int) < (d : Int))), ev_c, by rw [hx]; exact rv_I0 (i := (d : Int)) (j := 0) (g := fun i j => .bl (decide (j < i))), _, rfl, trivial⟩)) fun b G5 e5 _ => ?_) fun v G5 e5 ⟨e6, hv⟩ => ⟨e6, v, rfl, hv⟩
        cases b
        · exact (ei_of cH ev_c).imp fun v G6 e6 ⟨z1, z2⟩ => ⟨e5.trans e6, Or.inl z1⟩
        · exact (ei_of cH (ev_var rfl)).imp fun v G6 e6 ⟨z1, z2⟩ => ⟨e5.trans e6, Or.inr z1⟩
      · subst hvs
        refine (sp_PI cH ⟨a, gv, rfl, vH, ?_, rfl⟩).mono (R' := fun v G5 => ∃ h, HomR K G5 v h ∧ Ex (del G3 f) G5) fun v G5 e5 ⟨h, hh⟩ => ⟨h, hh, e4.trans e5⟩
        rcases hgv with z | z
        · exact Or.inl z
        · exact Or.inr ⟨p, bs, z, sq_of (e4 _ _ (w1 _ _ (e2 _ _ hp))), h1, h3, hb⟩
      · dsimp only
        refine LN.mk (upd G4 f (.lst (xs ++ [v])), xs ++ [v], hs ++ [h], some (nV i)) rfl rfl ⟨?_, upd_same, ?_, by simp [w4]⟩
        · rw [del_upd]
          exact w1.trans e5
        · rw [del_upd]
          exact (w3.imp fun _ _ => HomR.mono e5).app ⟨hR, trivial⟩
    · rintro m ⟨G3, xs, hs, s1⟩ hm ⟨w1, w2, w3, w4⟩
      dsimp only at w1 w2 w3 w4
      refine go_ret cW (ev_var rfl) (gov_out hI (q _ _ ?_ ⟨hs, ⟨f, xs, rfl, sq_of w2, w3.imp fun _ _ => HomR.mono del_ex, by omega, by omega⟩, ?_⟩))
      · exact ((e1.trans e2).trans w1).trans del_ex
      · intro i hi
        obtain ⟨y, y1, y2⟩ := w3.to (i := i) (a := hat hs i) (by unfold hat; rw [List.getD_eq_getElem?_getD, List.getElem?_eq_getElem hi]; rfl)
        obtain ⟨_, _, _, _, _, _, _, _, z⟩ := y2
        exact z)
def sp__law_strides (K : PySem.W.Frag) : Sp := PI 4 fun I vs G R => ∃ (a : Addr) (yh : V) (hs : List HM), vs = [.ref a, yh, nV 4, nV 60] ∧ Va a I ∧ HlR K G yh hs ∧ HsOk hs ∧ R = fun v G2 => ∃ ss, SlR K G2 v ss ∧ OkS hs ss (hat hs 0) ∧ (thr hs ss (hat hs 0) 1 1).1 ≤ 60
abbrev N__law_strides : List Str := ["_law_vase_here", "_law_homes_here", "_law_most", "_law_longest", "_law_found", "_law_home", "_law_turn", "_law_fresh"]
abbrev P__law_strides : List Str := ["_law_vase_here", "_law_homes_here", "_law_most", "_law_longest"]
theorem sc__law_strides : FnScope N__law_strides P__law_strides (defScope s__law_strides) := ⟨rfl, rfl, rfl, by decide +kernel, rfl, by decide +kernel, by decide +kernel⟩
theorem F__law_strides {P : Program} {w : World} {K : PySem.W.Frag} {mg : Str → Option Value} {base : Heap} (T : Tx K w mg) (F__law_pour : Kp P w K mg base 1 "_law_pour" P__law_pour (sp__law_pour K)) (F__law_through : Kp P w K mg base 4 "_law_through" P__law_through (sp__law_through K)) (F__law_stride : Kp P w K mg base 3 "_law_stride" P__law_stride (sp__law_stride K)) : Kp P w K mg base 5 "_law_strides" P__law_strides (sp__law_strides K) := by
  obtain ⟨fd, F⟩ := T.d__law_strides
  refine ⟨_, fd, T.g__law_strides, F.kp, F.bindsN (fun _ _ _ _ _ _ us hl => match us, hl with | [_, _, _, _], _ => rfl), F.ok (N := N__law_strides) sc__law_strides len_PI fun cdv A outer s H vs Q E hr hpre => ⟨_, PSs.nox (pss_cons (ps_par (i := 4) (j := 5) rfl sc__law_strides.nd rfl rfl (by decide) rfl rfl (pa_cons (pe_lst pa_nil) (pa_cons (pe_ix ix_list (pv 1) pe_int (fun _ _ => rfl)) pa_nil)) (by rfl))
  (pss_cons (ps_for PassesOwn.never rfl (pi_range1 (by rfl) T.f_range (pa_cons (pe_kall F__law_pour (hr.mono (by decide)) (by rfl) (pa_cons (pv 0) (pa_cons (pe_op op_add (pv 2) pe_int) pa_nil))) pa_nil)) (pg_name (i := 6) sc__law_strides.nd rfl (Or.inl rfl))
    (pss_cons (ps_set (i := 7) sc__law_strides.nd rfl (.inl rfl) (pe_kall F__law_stride (hr.mono (by decide)) (by rfl) (pa_cons (pv 0) (pa_cons (pv 5) (pa_cons (pv 1) pa_nil)))))
  (pss_one (ps_if (pt_cmpR op_le (pe_ix ix_tup (pe_kall F__law_through (hr.mono (by decide)) (by rfl) (pa_cons (pe_op op_cat (pv 4) (pe_lst (pa_cons (pv 7) pa_nil))) (pa_cons (pv 1) pa_nil))) pe_int (fun _ _ => rfl)) (pv 3) (nomark _))
    (pss_cons (ps_set (i := 4) sc__law_strides.nd rfl (.inl rfl) (pe_op op_cat (pv 4) (pe_lst (pa_cons (pv 7) pa_nil))))
  (pss_one (ps_set (i := 5) sc__law_strides.nd rfl (.inl rfl) (pe_ifExp (pt_cmpR op_in_seq (pe_ix ix_tup (pv 7) pe_int (fun _ _ => rfl)) (pe_lst (pa_cons pe_str (pa_cons pe_str pa_nil))) (by rfl)) (pe_ix ix_list (pv 1) (pe_ix ix_tup (pv 7) pe_int (fun _ _ => rfl)) (fun _ _ => rfl)) (pv 5)))))
    pss_nil))))
  (pss_one (ps_ret (pv 4))))), ?_⟩⟩
  exact start_PI hpre (by
    rintro G R I Q hI ⟨a, yh, hs, rfl, va, hH, oh, rfl⟩ q
    obtain ⟨hp, hxs, hx0, e1, hh, hat0, h0⟩ := hH.at (i := 0) (by obtain ⟨_, _, _, _, _, _, z⟩ := hH; omega)
    subst e1
    refine go_parL hI (xs := []) (y := hx0) (el_lst ea_nil (by decide)) (fun p hp' => ev_ixL (ev_var rfl) ev_c (ex_l (Ex.new hp') hh) hat0) fun p hp' => ?_
    refine go_forRI (α := Hp × V × Addr × List V × List Sp1 × Option V × Option V) (PP := fun m => m ≤ 4) hI (eai_one (ei_pour (top := 5) hI va (ev_var rfl) (ev_eqv (ev_I0 (i := 4) (j := 1) (ev_var rfl) ev_c) rfl) (by decide) (by decide)) fun u G3 _ ⟨d, hd, hu, _⟩ => ⟨d, by rw [hu], by omega, by omega⟩)
      (fun i x => [some (.ref a), some (.ref hp), some (nV 4), some (nV 60), some (.ref x.2.2.1), some x.2.1, x.2.2.2.2.2.1, x.2.2.2.2.2.2]) (fun i x => x.1)
      (fun i x => Ex G x.1 ∧ x.1 x.2.2.1 = some (.lst x.2.2.2.1) ∧ AllR (StR K x.1) x.2.2.2.1 x.2.2.2.2.1 ∧ OkS hs x.2.2.2.2.1 (hat hs 0) ∧ (thr hs x.2.2.2.2.1 (hat hs 0) 1 1).1 ≤ 60 ∧ x.2.2.2.2.1.length ≤ i ∧ HomR K x.1 x.2.1 (endH hs x.2.2.2.2.1 (hat hs 0))) ?_ ?_ ?_
    · intro m G3 e3 hm
      have e4 : Ex G G3 := (Ex.new hp').trans e3
      exact ⟨(G3, hx0, p, [], [], none, none), rfl, rfl, e4, e3 _ _ upd_same, trivial, trivial, (show (1 : Nat) ≤ 60 by decide), Nat.le_refl _, h0.mono e4⟩
    · rintro m i ⟨G3, hx, f, xs, ss, s1, s2⟩ hm hi ⟨w1, w2, w3, w4, w5, w6, w7⟩
      dsimp only at w1 w2 w3 w4 w5 w6 w7
      refine go_asgI (ei_callA hI (vs := [.ref a, hx, .ref hp]) (ea_cons (ev_var rfl) (ea_cons (ev_var rfl) (ea_cons (ev_var rfl) ea_nil))) (sp_PI hI ⟨a, hx, .ref hp, _, hs, rfl, va, w7, hH.mono w1, rfl⟩)) fun v G4 e4 ⟨s, hs1, hs2⟩ => ?_
      have e14 := w1.trans e4
      have okn := OkS_app hs ss s _ w4 hs2
      obtain ⟨sp, rfl, hspv⟩ := id hs1
      have w3' := w3.len
      have w2' := e4 _ _ w2
      have w3b : AllR (StR K G4) (xs ++ [.ref sp]) (ss ++ [s]) := (w3.imp fun _ _ => StR.mono e4).app ⟨hs1, trivial⟩
      have cat : ∀ {σ : St}, σ[4]? = some (some (.ref f)) → σ[7]? = some (some (.ref sp)) → EvL (tOp rCat (tVar 4) (tLst (tCons (tVar 7) tNil))) σ G4 (xs ++ [.ref sp]) := fun h4 h7 => el_cat (ev_var h4) w2' (el_lst (ea_cons (ev_var h7) ea_nil) (show (1 : Nat) ≤ 100000 by decide)) (by simp; omega)
      refine go_if (b := decide (((thr hs (ss ++ [s]) (hat hs 0) 1 1).1 : Int) ≤ 60)) hI (et_test (ev_I0 (i := ((thr hs (ss ++ [s]) (hat hs 0) 1 1).1 : Int)) (j := 60) (ev_ixU (xs := [nV (thr hs (ss ++ [s]) (hat hs 0) 1 1).1, nV (thr hs (ss ++ [s]) (hat hs 0) 1 1).2]) (eu_call2L (cat rfl rfl) (fun r G5 e5 h5 => ev_var rfl) fun r G5 h5 e5 => ⟨.ref r, .ref hp, ss ++ [s], hs, rfl, ⟨r, _, rfl, sq_of h5, w3b.imp fun _ _ => StR.mono e5, by simp; omega⟩, hH.mono (e14.trans e5), okn, oh, rfl⟩) (fun _ => ev_c) rfl) (ev_var rfl))) (fun hz => ?_) fun hz => ?_
      · have hz' : (thr hs (ss ++ [s]) (hat hs 0) 1 1).1 ≤ 60 := by
          have := of_decide_eq_true hz
          omega
        refine go_asgL hI (cat rfl rfl) fun r hr => ?_
        have e5 : Ex G4 (upd G4 r (.lst (xs ++ [.ref sp]))) := Ex.new hr
        have hr5 : upd G4 r (.lst (xs ++ [.ref sp])) r = some (.lst (xs ++ [.ref sp])) := upd_same
        generalize upd G4 r (.lst (xs ++ [.ref sp])) = G5 at e5 hr5 ⊢
        obtain ⟨z2, z3, z4⟩ := ev_behindL (G := G5) (σ := [some (.ref a), some (.ref hp), some (nV 4), some (nV 60), some (.ref r), some hx, some (nV i), some (.ref sp)]) (i := 7) (j := 5) (k := 1) (w7.mono (e4.trans e5)) (hH.mono (e14.trans e5)) hs2 (ex_t e5 hspv) rfl rfl rfl
        refine go_asg1 hI z4 ?_
        dsimp only
        refine LN.mk (G5, z2, r, xs ++ [.ref sp], ss ++ [s], some (nV i), some (.ref sp)) rfl rfl ⟨e14.trans e5, hr5, w3b.imp fun _ _ => StR.mono e5, okn, hz', by simp; omega, ?_⟩
        dsimp only
        rw [endH_app]
        exact z3
      · refine go_next ?_
        dsimp only
        exact LN.mk (G4, hx, f, xs, ss, some (nV i), some (.ref sp)) rfl rfl ⟨e14, w2', w3.imp fun _ _ => StR.mono e4, w4, w5, by dsimp only; omega, w7.mono e4⟩
    · rintro m ⟨G3, hx, f, xs, ss, s1, s2⟩ hm ⟨w1, w2, w3, w4, w5, w6, w7⟩
      dsimp only at w1 w2 w3 w4 w5 w6 w7
      exact go_ret hI (ev_var rfl) (q _ _ w1 ⟨ss, ⟨f, xs, rfl, sq_of w2, w3, by omega⟩, w4, w5⟩))
end Lm
end
section
set_option Elab.async false
set_option linter.all false
set_option maxRecDepth 100000
namespace Lm
namespace HM
variable {h : HM}
theorem mod_add_mul {p P k : Nat} : (p + P * k) % P = p % P := Nat.add_mul_mod_self_left p P k
theorem div_add_mul {p P k : Nat} (hP : 0 < P) : (p + P * k) / P = p / P + k := Nat.add_mul_div_left p k hP
theorem Ok.near_add (o : h.Ok) (p k : Nat) (nx : Bool) : h.near (p + h.P * k) nx = h.near p nx + ((h.F * k : Nat) : Int) := by
  unfold near
  rw [mod_add_mul, div_add_mul o.P_bd.1]
  have : (p / h.P + k) * h.F = p / h.P * h.F + h.F * k := by rw [Nat.add_mul, Nat.mul_comm k]
  rw [this]
  omega
theorem Ok.place_add (o : h.Ok) (n k : Nat) : h.place (n + h.F * k) = h.place n + h.P * k := by
  unfold place
  rw [mod_add_mul, div_add_mul o.F_bd.1, Nat.add_mul, Nat.mul_comm k]
  omega
/-- near, told by its two parts -/
theorem near_hi (p : Nat) (nx : Bool) : h.near p nx ≤ ((p / h.P * h.F + h.cnt (p % h.P) : Nat) : Int) := by
  unfold near
  split <;> omega
theorem near_lo (p : Nat) (nx : Bool) : ((p / h.P * h.F + h.cnt (p % h.P) : Nat) : Int) - 1 ≤ h.near p nx := by
  unfold near
  split <;> omega
/-- how many are borne before p, over all rounds -/
def gc (h : HM) (p : Nat) : Nat := p / h.P * h.F + h.cnt (p % h.P)
def gb (h : HM) (p : Nat) : Bool := h.bo (p % h.P)
theorem near_gc (p : Nat) (nx : Bool) : h.near p nx = (h.gc p : Int) - (if nx || h.gb p then 0 else 1) := rfl
theorem Ok.gc_succ (o : h.Ok) (p : Nat) : h.gc (p + 1) = h.gc p + (if h.gb p then 1 else 0) := by
  have P0 := o.P_bd.1
  unfold gc gb
  have hlt := Nat.mod_lt p P0
  have hdm := Nat.div_add_mod p h.P
  by_cases e : p % h.P + 1 = h.P
  · have h1 : p + 1 = 0 + h.P * (p / h.P + 1) := by rw [Nat.mul_add]; omega
    have h2 : (p + 1) / h.P = p / h.P + 1 := by rw [h1, div_add_mul P0, Nat.zero_div, Nat.zero_add]
    have h3 : (p + 1) % h.P = 0 := by rw [h1, mod_add_mul, Nat.zero_mod]
    rw [h2, h3, cnt_zero, Nat.add_mul, Nat.one_mul, F_eq]
    have := cnt_succ h (p % h.P)
    rw [e] at this
    rw [this]
    split <;> omega
  · have h1 : p + 1 = (p % h.P + 1) + h.P * (p / h.P) := by omega
    have h2 : (p + 1) / h.P = p / h.P := by rw [h1, div_add_mul P0, Nat.div_eq_of_lt (by omega), Nat.zero_add]
    have h3 : (p + 1) % h.P = p % h.P + 1 := by rw [h1, mod_add_mul, Nat.mod_eq_of_lt (by omega)]
    rw [h2, h3, cnt_succ]
    omega
theorem Ok.gc_le (o : h.Ok) {p q : Nat} (e : p ≤ q) : h.gc p ≤ h.gc q := by
  induction q with
  | zero => have : p = 0 := by omega
            subst this; exact Nat.le_refl _
  | succ q ih =>
    by_cases z : p = q + 1
    · subst z; exact Nat.le_refl _
    · rw [o.gc_succ]
      have := ih (by omega)
      omega
theorem Ok.gc_lip (o : h.Ok) (p k : Nat) : h.gc (p + k) ≤ h.gc p + k := by
  induction k with
  | zero => exact Nat.le_refl _
  | succ k ih =>
    rw [← Nat.add_assoc, o.gc_succ]
    split <;> omega
theorem Ok.near_mono (o : h.Ok) {p q : Nat} (e : p ≤ q) (nx : Bool) : h.near p nx ≤ h.near q nx := by
  rw [near_gc, near_gc]
  by_cases z : p = q
  · subst z; exact Int.le_refl _
  · have h1 := o.gc_le (p := p + 1) (q := q) (by omega)
    rw [o.gc_succ] at h1
    cases nx with
    | true => simp only [Bool.true_or, if_true]; omega
    | false =>
      simp only [Bool.false_or]
      by_cases g1 : h.gb p = true <;> by_cases g2 : h.gb q = true <;> simp only [g1, g2, if_true] at h1 ⊢ <;> simp at h1 ⊢ <;> omega
theorem Ok.near_lip (o : h.Ok) (p k : Nat) (nx : Bool) : h.near (p + k) nx ≤ h.near p nx + k + 1 := by
  have h1 := o.gc_lip p k
  have h2 := near_hi (h := h) (p + k) nx
  have h3 := near_lo (h := h) p nx
  unfold gc at h1
  omega
theorem Ok.spot (o : h.Ok) {i : Nat} (hi : i < h.F) : h.spots.getD i 0 < h.P ∧ h.bo (h.spots.getD i 0) = true ∧ h.cnt (h.spots.getD i 0) = i := by
  obtain ⟨g, g0, g1, g2⟩ := o.find_grp hi
  rw [o.opn_succ g0] at g2
  have hs := o.sk_lt g
  have := o.at_grp (g := g) (t := i - h.opn g) g0 (by omega)
  rw [show h.opn g + (i - h.opn g) = i by omega] at this
  rw [this, Nat.add_assoc]
  refine ⟨?_, ?_, ?_⟩
  · have : (g + 1) * h.last ≤ h.size * h.last := Nat.mul_le_mul_right _ g0
    rw [Nat.succ_mul] at this
    unfold P
    omega
  · rw [bo_at o (by omega)]
    simp
  · rw [o.cnt_eq (by omega) (by omega)]
    omega
theorem Ok.near_place (o : h.Ok) (n : Nat) (nx : Bool) : h.near (h.place n) nx = (n : Int) := by
  have hi : n % h.F < h.F := Nat.mod_lt _ o.F_bd.1
  obtain ⟨s1, s2, s3⟩ := o.spot hi
  have e : h.place n = h.spots.getD (n % h.F) 0 + h.P * (n / h.F) := by unfold place; rw [Nat.mul_comm]; omega
  rw [e, o.near_add]
  unfold near
  rw [Nat.mod_eq_of_lt s1, Nat.div_eq_of_lt s1, s2, s3, Bool.or_true, if_pos rfl]
  have := Nat.div_add_mod n h.F
  omega
theorem Ok.place_mono (o : h.Ok) {n m : Nat} (e : n ≤ m) : h.place n ≤ h.place m := by
  apply Nat.le_of_not_lt
  intro z
  have h1 := o.near_mono (p := h.place m + 1) (q := h.place n) z true
  rw [o.near_place] at h1
  have h2 := o.near_place m true
  rw [near_gc] at h1 h2
  rw [o.gc_succ] at h1
  have hg : h.gb (h.place m) = true := by
    have h3 := o.near_place m false
    rw [near_gc] at h3
    cases g : h.gb (h.place m) with
    | true => rfl
    | false =>
      rw [g] at h3
      simp at h2 h3
      omega
  rw [hg] at h1
  simp at h1 h2
  omega
theorem Ok.F4 (o : h.Ok) : h.P ≤ 4 * h.F := by
  have h1 : ∀ k, k ≤ h.size → k ≤ h.opn k := by
    intro k
    induction k with
    | zero => intro _; exact Nat.zero_le _
    | succ k ih =>
      intro hk
      rw [o.opn_succ (by omega)]
      have := o.sk_lt k
      have := ih (by omega)
      omega
  have h2 := h1 h.size (Nat.le_refl _)
  rw [o.opn_F] at h2
  have h3 := o.last_bd
  unfold P
  have : h.size * h.last ≤ h.size * 4 := Nat.mul_le_mul_left _ h3.2
  omega
theorem Ok.near_low (o : h.Ok) (p : Nat) (nx : Bool) : (p : Int) ≤ 4 * h.near p nx + 772 := by
  have h1 := near_lo (h := h) p nx
  have h2 := Nat.div_add_mod p h.P
  have h3 := Nat.mod_lt p o.P_bd.1
  have h4 : h.P * (p / h.P) ≤ 4 * h.F * (p / h.P) := Nat.mul_le_mul_right _ o.F4
  have h5 : 4 * h.F * (p / h.P) = 4 * (p / h.P * h.F) := by rw [Nat.mul_assoc, Nat.mul_comm h.F]
  have h6 := o.P_bd.2
  omega
theorem Ok.near_up (o : h.Ok) (p : Nat) (nx : Bool) : h.near p nx ≤ (p : Int) := by
  have h1 := near_hi (h := h) p nx
  have h2 := Nat.div_add_mod p h.P
  have h4 : p / h.P * h.F ≤ p / h.P * h.P := Nat.mul_le_mul_left _ o.F_bd.2
  have h5 := h.cnt_lip 0 (p % h.P)
  rw [Nat.zero_add, cnt_zero] at h5
  rw [Nat.mul_comm (p / h.P) h.P] at h4
  omega
theorem Ok.place_up (o : h.Ok) (n : Nat) : h.place n ≤ 4 * n + 772 := by
  have := o.near_low (h.place n) true
  rw [o.near_place] at this
  omega
theorem Ok.place_low (o : h.Ok) (n : Nat) : n ≤ h.place n := by
  have := o.near_up (h.place n) true
  rw [o.near_place] at this
  omega
end HM
section
variable {hs : List HM} {h : HM} {s : Sp1}
theorem step_mono (o : h.Ok) (oh : HsOk hs) (ok : s.Ok hs h) {n m : Nat} (e : n ≤ m) : stepV hs h s n ≤ stepV hs h s m := by
  have hp := o.place_mono e
  cases s with
  | on a => simp only [stepV]; omega
  | back a => simp only [stepV]; omega
  | call i => simp only [stepV]; omega
  | lab a nx => exact o.near_mono (by omega) nx
  | unlab a nx =>
    simp only [stepV]
    by_cases z : a ≤ h.place n
    · rw [if_pos z, if_pos (by omega)]
      exact o.near_mono (by omega) nx
    · rw [if_neg z]
      by_cases w : a ≤ h.place m
      · rw [if_pos w]
        have := HM.near_lo (h := h) (h.place m - a) nx
        omega
      · rw [if_neg w]
        exact Int.le_refl _
  | to k => exact o.near_mono (Nat.mul_le_mul_right _ (Nat.div_le_div_right hp)) true
  | after k => exact o.near_mono (Nat.add_le_add_right (Nat.mul_le_mul_right _ (Nat.div_le_div_right hp)) _) true
  | read i nx => exact (oh i ok.1).near_mono hp nx
  | rate a b =>
    simp only [stepV]
    have : n * a / b ≤ m * a / b := Nat.div_le_div_right (Nat.mul_le_mul_right _ e)
    omega
theorem step_per (o : h.Ok) (oh : HsOk hs) (ok : s.Ok hs h) (n k : Nat) (hv : 0 ≤ stepV hs h s n) : stepV hs h s (n + (roundS hs h s).1 * k) = stepV hs h s n + (((roundS hs h s).2 * k : Nat) : Int) := by
  have two : ∀ u, 0 < u → h.place (n + h.F * (lcmN h.P u / h.P) * k) = h.place n + u * (lcmN h.P u / u * k) ∧ h.place (n + h.F * (lcmN h.P u / h.P) * k) = h.place n + h.P * (lcmN h.P u / h.P * k) := by
    intro u hu
    have hl := lcmN_eq h.P u
    have d1 : h.P ∣ lcmN h.P u := by rw [hl]; exact Nat.dvd_lcm_left _ _
    have d2 : u ∣ lcmN h.P u := by rw [hl]; exact Nat.dvd_lcm_right _ _
    rw [Nat.mul_assoc, o.place_add]
    refine ⟨?_, rfl⟩
    rw [← Nat.mul_assoc, Nat.mul_div_cancel' d1, ← Nat.mul_assoc, Nat.mul_div_cancel' d2]
  have lenU := fun k => o.unit_bd k
  cases s with
  | on a => simp only [stepV, roundS]; omega
  | back a => simp only [stepV, roundS]; omega
  | call i => simp only [stepV, roundS]; omega
  | lab a nx =>
    simp only [stepV, roundS]
    rw [o.place_add, show h.place n + h.P * k + a = h.place n + a + h.P * k by omega, o.near_add]
  | unlab a nx =>
    simp only [stepV] at hv
    show (if a ≤ h.place (n + h.F * k) then h.near (h.place (n + h.F * k) - a) nx else -1) = (if a ≤ h.place n then h.near (h.place n - a) nx else -1) + ((h.F * k : Nat) : Int)
    by_cases z : a ≤ h.place n
    · rw [if_pos z, if_pos (show a ≤ h.place (n + h.F * k) by rw [o.place_add]; omega), o.place_add, show h.place n + h.P * k - a = h.place n - a + h.P * k by omega, o.near_add]
    · rw [if_neg z] at hv
      omega
  | to j =>
    simp only [stepV, roundS]
    obtain ⟨t1, t2⟩ := two (h.unit j) (lenU j).1
    have hW : h.unit j * (lcmN h.P (h.unit j) / h.unit j * k) = h.P * (lcmN h.P (h.unit j) / h.P * k) := by omega
    rw [t1, HM.div_add_mul (lenU j).1, Nat.add_mul, Nat.mul_comm (lcmN h.P (h.unit j) / h.unit j * k) (h.unit j), hW, o.near_add, Nat.mul_assoc]
  | after j =>
    simp only [stepV, roundS]
    obtain ⟨t1, t2⟩ := two (h.unit j) (lenU j).1
    have hW : h.unit j * (lcmN h.P (h.unit j) / h.unit j * k) = h.P * (lcmN h.P (h.unit j) / h.P * k) := by omega
    rw [t1, HM.div_add_mul (lenU j).1, Nat.add_mul, Nat.mul_comm (lcmN h.P (h.unit j) / h.unit j * k) (h.unit j), hW, Nat.add_right_comm, o.near_add, Nat.mul_assoc]
  | read i nx =>
    have o2 := oh i ok.1
    simp only [stepV, roundS]
    obtain ⟨t1, t2⟩ := two (hat hs i).P o2.P_bd.1
    rw [t1, o2.near_add, Nat.mul_assoc]
  | rate a b =>
    obtain ⟨a1, a2, a3, a4⟩ := ok
    simp only [stepV, roundS]
    have hg : 0 < Nat.gcd a b := Nat.gcd_pos_of_pos_left _ a1
    obtain ⟨c, hc⟩ := Nat.gcd_dvd_left a b
    obtain ⟨d, hd⟩ := Nat.gcd_dvd_right a b
    have e1 : b / Nat.gcd a b = d := Nat.div_eq_of_eq_mul_right hg hd
    have e2 : a / Nat.gcd a b = c := Nat.div_eq_of_eq_mul_right hg hc
    rw [e1, e2]
    have e3 : (n + d * k) * a = n * a + b * (c * k) := by
      rw [Nat.add_mul]
      congr 1
      calc d * k * a = d * k * (Nat.gcd a b * c) := by rw [← hc]
        _ = Nat.gcd a b * d * (c * k) := by ac_rfl
        _ = b * (c * k) := by rw [← hd]
    rw [e3, HM.div_add_mul (by omega)]
    omega
theorem step_low (o : h.Ok) (oh : HsOk hs) (ok : s.Ok hs h) (n : Nat) : (n : Int) ≤ 4 * stepV hs h s n + 10000 := by
  have pl := o.place_low n
  have np := o.near_place n true
  cases s with
  | on a => simp only [stepV]; omega
  | back a => simp only [stepV]; simp only [Sp1.Ok] at ok; omega
  | call i => simp only [stepV]; omega
  | lab a nx =>
    have h1 := o.near_mono (p := h.place n) (q := h.place n + a) (by omega) nx
    rw [o.near_place] at h1
    simp only [stepV]
    omega
  | unlab a nx =>
    simp only [Sp1.Ok] at ok
    simp only [stepV]
    by_cases z : a ≤ h.place n
    · rw [if_pos z]
      have h1 := o.near_lip (h.place n - a) a nx
      rw [show h.place n - a + a = h.place n by omega, o.near_place] at h1
      omega
    · rw [if_neg z]
      omega
  | to k =>
    have U := o.unit_bd k
    have h1 := o.near_lip (h.place n / h.unit k * h.unit k) (h.place n % h.unit k) true
    have h2 := Nat.div_add_mod (h.place n) (h.unit k)
    rw [Nat.mul_comm] at h2
    rw [h2, np] at h1
    have h3 := Nat.mod_lt (h.place n) U.1
    simp only [stepV]
    omega
  | after k =>
    have U := o.unit_bd k
    have h2 := Nat.div_add_mod (h.place n) (h.unit k)
    rw [Nat.mul_comm] at h2
    have h3 := Nat.mod_lt (h.place n) U.1
    have h1 := o.near_mono (p := h.place n) (q := h.place n / h.unit k * h.unit k + h.unit k) (by omega) true
    rw [np] at h1
    simp only [stepV]
    omega
  | read i nx =>
    have h1 := (oh i ok.1).near_low (h.place n) nx
    simp only [stepV]
    omega
  | rate a b =>
    obtain ⟨a1, a2, a3, a4⟩ := ok
    simp only [stepV]
    have h1 : n / b ≤ n * a / b := Nat.div_le_div_right (Nat.le_mul_of_pos_right n a1)
    have h2 : n / 4 ≤ n / b := Nat.div_le_div_left a4 a3
    omega
theorem step_up (o : h.Ok) (oh : HsOk hs) (ok : s.Ok hs h) (n : Nat) : stepV hs h s n ≤ 4 * (n : Int) + 10 ^ 39 := by
  have pl := o.place_up n
  cases s with
  | on a => simp only [Sp1.Ok] at ok; simp only [stepV]; omega
  | back a => simp only [stepV]; omega
  | call i => simp only [stepV]; omega
  | lab a nx =>
    simp only [Sp1.Ok] at ok
    have h1 := o.near_up (h.place n + a) nx
    simp only [stepV]
    omega
  | unlab a nx =>
    simp only [stepV]
    have h1 := o.near_up (h.place n - a) nx
    split <;> omega
  | to k =>
    have h1 := o.near_up (h.place n / h.unit k * h.unit k) true
    have h2 := Nat.div_mul_le_self (h.place n) (h.unit k)
    simp only [stepV]
    omega
  | after k =>
    have U := o.unit_bd k
    have h1 := o.near_up (h.place n / h.unit k * h.unit k + h.unit k) true
    have h2 := Nat.div_mul_le_self (h.place n) (h.unit k)
    simp only [stepV]
    omega
  | read i nx =>
    have h1 := (oh i ok.1).near_up (h.place n) nx
    simp only [stepV]
    omega
  | rate a b =>
    obtain ⟨a1, a2, a3, a4⟩ := ok
    simp only [stepV]
    have h1 : n * a / b ≤ n * a := Nat.div_le_self _ _
    have h2 : n * a ≤ n * 4 := Nat.mul_le_mul_left _ a2
    omega
end
end Lm
end
section
set_option Elab.async false
set_option linter.all false
set_option maxRecDepth 100000
namespace Lm
/-! ### moves -/
section
variable {hs : List HM}
theorem nextH_ok {h : HM} {s : Sp1} (o : h.Ok) (oh : HsOk hs) (ok : s.Ok hs h) : (nextH hs h s).Ok := by
  cases s with
  | read i nx => exact oh i ok.1
  | call i => exact oh i ok
  | on a => exact o
  | back a => exact o
  | lab a nx => exact o
  | unlab a nx => exact o
  | to k => exact o
  | after k => exact o
  | rate a b => exact o
theorem val_cons {s : Sp1} {ss : List Sp1} {h : HM} {n v : Nat} (e : val hs (s :: ss) h n = some v) : ∃ m : Nat, stepV hs h s n = (m : Int) ∧ val hs ss (nextH hs h s) m = some v := by
  have e : (match stepV hs h s n with | .ofNat j => val hs ss (nextH hs h s) j | .negSucc _ => none) = some v := e
  cases hsv : stepV hs h s n with
  | ofNat m => rw [hsv] at e; exact ⟨m, rfl, e⟩
  | negSucc k => rw [hsv] at e; cases e
theorem val_of {s : Sp1} {ss : List Sp1} {h : HM} {n m : Nat} (e : stepV hs h s n = (m : Int)) : val hs (s :: ss) h n = val hs ss (nextH hs h s) m := by
  show (match stepV hs h s n with | .ofNat j => val hs ss (nextH hs h s) j | .negSucc _ => none) = _
  rw [e]
theorem val_mono (oh : HsOk hs) : ∀ (ss : List Sp1) (h : HM), h.Ok → OkS hs ss h → ∀ n m v, n ≤ m → val hs ss h n = some v → ∃ u, val hs ss h m = some u ∧ v ≤ u
  | [], h, o, ok, n, m, v, e, hv => ⟨m, rfl, by have : n = v := Option.some.inj hv; omega⟩
  | s :: ss, h, o, ok, n, m, v, e, hv => by
    obtain ⟨a, ha, hv2⟩ := val_cons hv
    have h1 := step_mono o oh ok.1 e
    obtain ⟨b, hb⟩ := Int.eq_ofNat_of_zero_le (show 0 ≤ stepV hs h s m by omega)
    obtain ⟨u, hu, hle⟩ := val_mono oh ss _ (nextH_ok o oh ok.1) ok.2 a b v (by omega) hv2
    exact ⟨u, by rw [val_of hb]; exact hu, hle⟩
theorem val_per (oh : HsOk hs) : ∀ (ss : List Sp1) (h : HM), h.Ok → OkS hs ss h → ∀ f b, 0 < b → ∃ t, 0 < t ∧ (thr hs ss h f b).1 = f * t ∧ ∀ n v, val hs ss h n = some v → ∀ k, val hs ss h (n + b * t * k) = some (v + (thr hs ss h f b).2 * k)
  | [], h, o, ok, f, b, hb => ⟨1, by decide, (Nat.mul_one f).symm, fun n v e k => by
    have : n = v := Option.some.inj e
    show some (n + b * 1 * k) = some (v + b * k)
    rw [this, Nat.mul_one]⟩
  | s :: ss, h, o, ok, f, b, hb => by
    obtain ⟨r1, _, r3, _⟩ := round_bd o oh ok.1
    have hg : 0 < Nat.gcd b (roundS hs h s).1 := Nat.gcd_pos_of_pos_left _ hb
    obtain ⟨c, hc⟩ := Nat.gcd_dvd_left b (roundS hs h s).1
    obtain ⟨d, hd⟩ := Nat.gcd_dvd_right b (roundS hs h s).1
    have hd1 : (roundS hs h s).1 / Nat.gcd b (roundS hs h s).1 = d := Nat.div_eq_of_eq_mul_right hg hd
    have hc0 : 0 < c := by
      rcases Nat.eq_zero_or_pos c with z | z
      · rw [z, Nat.mul_zero] at hc; omega
      · exact z
    have hd0 : 0 < d := by
      rcases Nat.eq_zero_or_pos d with z | z
      · rw [z, Nat.mul_zero] at hd; omega
      · exact z
    have hbd : b * d = (roundS hs h s).1 * c := by
      calc b * d = Nat.gcd b (roundS hs h s).1 * c * d := by rw [← hc]
        _ = Nat.gcd b (roundS hs h s).1 * d * c := by ac_rfl
        _ = (roundS hs h s).1 * c := by rw [← hd]
    have hdiv : b * d / (roundS hs h s).1 = c := by rw [hbd]; exact Nat.mul_div_cancel_left _ r1
    obtain ⟨t, ht, h1, h2⟩ := val_per oh ss (nextH hs h s) (nextH_ok o oh ok.1) ok.2 (f * d) (c * (roundS hs h s).2) (Nat.mul_pos hc0 r3)
    have hth : thr hs (s :: ss) h f b = thr hs ss (nextH hs h s) (f * d) (c * (roundS hs h s).2) := by
      show thr hs ss (nextH hs h s) (f * ((roundS hs h s).1 / Nat.gcd b (roundS hs h s).1)) (b * ((roundS hs h s).1 / Nat.gcd b (roundS hs h s).1) / (roundS hs h s).1 * (roundS hs h s).2) = _
      rw [hd1, hdiv]
    rw [hth]
    refine ⟨d * t, Nat.mul_pos hd0 ht, by rw [h1, Nat.mul_assoc], fun n v e k => ?_⟩
    obtain ⟨a, ha, hv⟩ := val_cons e
    have hp := step_per o oh ok.1 n (c * t * k) (by rw [ha]; exact Int.natCast_nonneg a)
    have e1 : b * (d * t) * k = (roundS hs h s).1 * (c * t * k) := by
      calc b * (d * t) * k = b * d * (t * k) := by ac_rfl
        _ = (roundS hs h s).1 * c * (t * k) := by rw [hbd]
        _ = (roundS hs h s).1 * (c * t * k) := by ac_rfl
    rw [e1]
    have e2 : stepV hs h s (n + (roundS hs h s).1 * (c * t * k)) = ((a + c * (roundS hs h s).2 * t * k : Nat) : Int) := by
      rw [hp, ha]
      have : (roundS hs h s).2 * (c * t * k) = c * (roundS hs h s).2 * t * k := by ac_rfl
      rw [this]
      omega
    rw [val_of e2]
    exact h2 a v hv k
/-- the round of a move -/
theorem val_round (oh : HsOk hs) {ss : List Sp1} {h : HM} (o : h.Ok) (ok : OkS hs ss h) : 0 < (thr hs ss h 1 1).1 ∧ ∀ n v, val hs ss h n = some v → ∀ k, val hs ss h (n + (thr hs ss h 1 1).1 * k) = some (v + (thr hs ss h 1 1).2 * k) := by
  obtain ⟨t, ht, h1, h2⟩ := val_per oh ss h o ok 1 1 (by decide)
  rw [Nat.one_mul] at h1
  refine ⟨by omega, fun n v e k => ?_⟩
  have := h2 n v e k
  rw [Nat.one_mul] at this
  rw [h1]
  exact this
def low : Nat → Nat
  | 0 => 0
  | k + 1 => 4 * low k + 10000
theorem val_low (oh : HsOk hs) : ∀ (ss : List Sp1) (h : HM), h.Ok → OkS hs ss h → ∀ n, low ss.length ≤ n → val hs ss h n ≠ none
  | [], _, _, _, _, _ => fun z => by cases z
  | s :: ss, h, o, ok, n, hn => by
    have h1 := step_low o oh ok.1 n
    have hn' : 4 * low ss.length + 10000 ≤ n := hn
    obtain ⟨b, hb⟩ := Int.eq_ofNat_of_zero_le (show 0 ≤ stepV hs h s n by omega)
    rw [val_of hb]
    exact val_low oh ss _ (nextH_ok o oh ok.1) ok.2 b (by omega)
theorem val_up (oh : HsOk hs) : ∀ (ss : List Sp1) (h : HM), h.Ok → OkS hs ss h → ∀ n v, val hs ss h n = some v → v + 10 ^ 39 ≤ 4 ^ ss.length * (n + 10 ^ 39)
  | [], _, _, _, n, v, e => by
    have : n = v := Option.some.inj e
    simp only [List.length_nil, Nat.pow_zero, Nat.one_mul]
    omega
  | s :: ss, h, o, ok, n, v, e => by
    obtain ⟨a, ha, hv⟩ := val_cons e
    have h1 := step_up o oh ok.1 n
    have h2 := val_up oh ss _ (nextH_ok o oh ok.1) ok.2 a v hv
    have h3 : 4 ^ ss.length * (a + 10 ^ 39) ≤ 4 ^ ss.length * (4 * (n + 10 ^ 39)) := Nat.mul_le_mul_left _ (by omega)
    have h4 : 4 ^ (ss.length + 1) = 4 ^ ss.length * 4 := Nat.pow_succ _ _
    rw [List.length_cons, h4, Nat.mul_assoc]
    exact Nat.le_trans h2 h3
theorem least {p : Nat → Prop} : ∀ N, p N → ∃ s, s ≤ N ∧ p s ∧ ∀ m, m < s → ¬ p m := by
  intro N
  induction N using Nat.strongRecOn with
  | _ N ih =>
    intro hN
    by_cases z : ∃ m, m < N ∧ p m
    · obtain ⟨m, hm, pm⟩ := z
      obtain ⟨s, s1, s2, s3⟩ := ih m hm pm
      exact ⟨s, by omega, s2, s3⟩
    · exact ⟨N, Nat.le_refl _, hN, fun m hm pm => z ⟨m, hm, pm⟩⟩
theorem val_start (oh : HsOk hs) {ss : List Sp1} {h : HM} (o : h.Ok) (ok : OkS hs ss h) (hl : ss.length ≤ 4) : ∃ s, s ≤ 2 ^ 90 ∧ ∀ n, (val hs ss h n = none) ↔ n < s := by
  have hlow : low ss.length ≤ 2 ^ 90 := by
    have : ss.length = 0 ∨ ss.length = 1 ∨ ss.length = 2 ∨ ss.length = 3 ∨ ss.length = 4 := by omega
    rcases this with e | e | e | e | e <;> rw [e] <;> decide
  obtain ⟨s, s1, s2, s3⟩ := least (p := fun n => val hs ss h n ≠ none) (2 ^ 90) (val_low oh ss h o ok _ hlow)
  refine ⟨s, s1, fun n => ⟨fun e => ?_, fun e => Classical.not_not.mp (s3 n e)⟩⟩
  apply Nat.lt_of_not_le
  intro z
  cases hv : val hs ss h s with
  | none => exact s2 hv
  | some v =>
    obtain ⟨u, hu, _⟩ := val_mono oh ss h o ok s n v z hv
    rw [e] at hu
    cases hu
end
/-! ### stretches of a mounting, periodic function -/
structure Per (V : Nat → Nat) (s T U : Nat) : Prop where
  T0 : 0 < T
  per : ∀ n, s ≤ n → ∀ k, V (n + T * k) = V n + U * k
  mono : ∀ n m, s ≤ n → n ≤ m → V n ≤ V m
def sL (V : Nat → Nat) (s T e : Nat) : List Int := (List.range T).map fun t => (V (s + t + e) : Int) - (V (s + t) : Nat)
def Lo (L : List Int) (x : Int) : Prop := x ∈ L ∧ ∀ y ∈ L, x ≤ y
def Hi (L : List Int) (x : Int) : Prop := x ∈ L ∧ ∀ y ∈ L, y ≤ x
theorem lo_ex : ∀ L : List Int, L ≠ [] → ∃ x, Lo L x
  | [], h => absurd rfl h
  | [a], _ => ⟨a, by simp, by simp⟩
  | a :: b :: l, _ => by
    obtain ⟨x, x1, x2⟩ := lo_ex (b :: l) (by simp)
    by_cases h : a ≤ x
    · exact ⟨a, by simp, fun y hy => by
        rcases List.mem_cons.mp hy with z | z
        · omega
        · have := x2 y z; omega⟩
    · exact ⟨x, List.mem_cons_of_mem _ x1, fun y hy => by
        rcases List.mem_cons.mp hy with z | z
        · omega
        · exact x2 y z⟩
theorem hi_ex : ∀ L : List Int, L ≠ [] → ∃ x, Hi L x
  | [], h => absurd rfl h
  | [a], _ => ⟨a, by simp, by simp⟩
  | a :: b :: l, _ => by
    obtain ⟨x, x1, x2⟩ := hi_ex (b :: l) (by simp)
    by_cases h : x ≤ a
    · exact ⟨a, by simp, fun y hy => by
        rcases List.mem_cons.mp hy with z | z
        · omega
        · have := x2 y z; omega⟩
    · exact ⟨x, List.mem_cons_of_mem _ x1, fun y hy => by
        rcases List.mem_cons.mp hy with z | z
        · omega
        · exact x2 y z⟩
section
variable {V : Nat → Nat} {s T U : Nat}
theorem sL_mem {e : Nat} {x : Int} : x ∈ sL V s T e ↔ ∃ t, t < T ∧ x = (V (s + t + e) : Int) - (V (s + t) : Nat) := by
  unfold sL
  rw [List.mem_map]
  constructor
  · rintro ⟨t, h1, h2⟩
    exact ⟨t, List.mem_range.mp h1, h2.symm⟩
  · rintro ⟨t, h1, h2⟩
    exact ⟨t, List.mem_range.mpr h1, h2.symm⟩
theorem sL_ne (P : Per V s T U) (e : Nat) : sL V s T e ≠ [] := fun z => by
  have : (V (s + 0 + e) : Int) - (V (s + 0) : Nat) ∈ sL V s T e := sL_mem.mpr ⟨0, P.T0, rfl⟩
  rw [z] at this
  cases this
/-- at any place behind the start -/
theorem Per.far (P : Per V s T U) {n : Nat} (hn : s ≤ n) (e : Nat) : (V (n + e) : Int) - (V n : Nat) ∈ sL V s T e := by
  have hm : (n - s) % T < T := Nat.mod_lt _ P.T0
  have hd := Nat.div_add_mod (n - s) T
  have e1 : n = s + (n - s) % T + T * ((n - s) / T) := by omega
  refine sL_mem.mpr ⟨(n - s) % T, hm, ?_⟩
  have h1 := P.per (s + (n - s) % T) (by omega) ((n - s) / T)
  have h2 := P.per (s + (n - s) % T + e) (by omega) ((n - s) / T)
  rw [← e1] at h1
  rw [show s + (n - s) % T + e + T * ((n - s) / T) = n + e by omega] at h2
  omega
theorem Per.add (P : Per V s T U) (e : Nat) : sL V s T (e + T) = (sL V s T e).map (· + (U : Int)) := by
  unfold sL
  rw [List.map_map]
  apply List.map_congr_left
  intro t _
  have h1 := P.per (s + t + e) (by omega) 1
  rw [Nat.mul_one, Nat.mul_one, Nat.add_assoc] at h1
  show (V (s + t + (e + T)) : Int) - _ = _ - _ + _
  rw [h1]
  omega
theorem Lo.add {L : List Int} {x u : Int} (h : Lo L x) : Lo (L.map (· + u)) (x + u) := ⟨List.mem_map_of_mem h.1, fun y hy => by
  rw [List.mem_map] at hy
  obtain ⟨z, hz, rfl⟩ := hy
  have := h.2 z hz
  omega⟩
theorem Hi.add {L : List Int} {x u : Int} (h : Hi L x) : Hi (L.map (· + u)) (x + u) := ⟨List.mem_map_of_mem h.1, fun y hy => by
  rw [List.mem_map] at hy
  obtain ⟨z, hz, rfl⟩ := hy
  have := h.2 z hz
  omega⟩
theorem Lo.uniq {L : List Int} {x y : Int} (a : Lo L x) (b : Lo L y) : x = y := by
  have := a.2 y b.1
  have := b.2 x a.1
  omega
theorem Hi.uniq {L : List Int} {x y : Int} (a : Hi L x) (b : Hi L y) : x = y := by
  have := a.2 y b.1
  have := b.2 x a.1
  omega
theorem Per.sum (P : Per V s T U) {a b : Nat} {x y z : Int} (hx : Lo (sL V s T a) x) (hy : Lo (sL V s T b) y) (hz : Lo (sL V s T (a + b)) z) : x + y ≤ z := by
  obtain ⟨t, _, ht⟩ := sL_mem.mp hz.1
  have h1 := hx.2 _ (P.far (n := s + t) (by omega) a)
  have h2 := hy.2 _ (P.far (n := s + t + a) (by omega) b)
  rw [show s + t + a + b = s + t + (a + b) by omega] at h2
  omega
theorem Per.sumH (P : Per V s T U) {a b : Nat} {x y z : Int} (hx : Hi (sL V s T a) x) (hy : Hi (sL V s T b) y) (hz : Hi (sL V s T (a + b)) z) : z ≤ x + y := by
  obtain ⟨t, _, ht⟩ := sL_mem.mp hz.1
  have h1 := hx.2 _ (P.far (n := s + t) (by omega) a)
  have h2 := hy.2 _ (P.far (n := s + t + a) (by omega) b)
  rw [show s + t + a + b = s + t + (a + b) by omega] at h2
  omega
theorem Per.lo_le (P : Per V s T U) {a b : Nat} {x y : Int} (h : a ≤ b) (hx : Lo (sL V s T a) x) (hy : Lo (sL V s T b) y) : x ≤ y := by
  obtain ⟨t, _, ht⟩ := sL_mem.mp hy.1
  have h1 := hx.2 _ (P.far (n := s + t) (by omega) a)
  have h2 := P.mono (s + t + a) (s + t + b) (by omega) (by omega)
  omega
theorem Per.hi_le (P : Per V s T U) {a b : Nat} {x y : Int} (h : a ≤ b) (hx : Hi (sL V s T a) x) (hy : Hi (sL V s T b) y) : x ≤ y := by
  obtain ⟨t, _, ht⟩ := sL_mem.mp hx.1
  have h1 := hy.2 _ (P.far (n := s + t) (by omega) b)
  have h2 := P.mono (s + t + a) (s + t + b) (by omega) (by omega)
  omega
end
end Lm
end
section
set_option Elab.async false
set_option linter.all false
set_option maxRecDepth 100000
set_option maxHeartbeats 2000000
namespace Lm
open PySem PySem.Spec L2 Evl
def VV (hs : List HM) (ss : List Sp1) (n : Nat) : Nat := (val hs ss (hat hs 0) n).getD 0
theorem move_facts {hs : List HM} {ss : List Sp1} (oh : HsOk hs) (o : (hat hs 0).Ok) (ok : OkS hs ss (hat hs 0)) (hl : ss.length ≤ 4) (hT : (thr hs ss (hat hs 0) 1 1).1 ≤ 60) : ∃ s, s ≤ 2 ^ 90 ∧ (∀ n, (val hs ss (hat hs 0) n = none) ↔ n < s) ∧
    Per (VV hs ss) s (thr hs ss (hat hs 0) 1 1).1 (thr hs ss (hat hs 0) 1 1).2 ∧ (∀ n, s ≤ n → val hs ss (hat hs 0) n = some (VV hs ss n)) ∧ (thr hs ss (hat hs 0) 1 1).2 < 2 ^ 200 ∧ ∀ n, s ≤ n → VV hs ss n ≤ 256 * (n + 10 ^ 39) := by
  obtain ⟨s, s1, s2⟩ := val_start oh o ok hl
  obtain ⟨T0, hp⟩ := val_round oh o ok
  have hv : ∀ n, s ≤ n → val hs ss (hat hs 0) n = some (VV hs ss n) := fun n hn => by
    unfold VV
    cases e : val hs ss (hat hs 0) n with
    | none => have := (s2 n).mp e; omega
    | some v => rfl
  have hu : ∀ n, s ≤ n → VV hs ss n ≤ 256 * (n + 10 ^ 39) := fun n hn => by
    have h1 := val_up oh ss _ o ok n _ (hv n hn)
    have h2 : 4 ^ ss.length ≤ 4 ^ 4 := Nat.pow_le_pow_right (by decide) hl
    have h3 : 4 ^ ss.length * (n + 10 ^ 39) ≤ 4 ^ 4 * (n + 10 ^ 39) := Nat.mul_le_mul_right _ h2
    omega
  have P : Per (VV hs ss) s (thr hs ss (hat hs 0) 1 1).1 (thr hs ss (hat hs 0) 1 1).2 := ⟨T0, fun n hn k => by
      have h1 := hp n _ (hv n hn) k
      rw [hv _ (by omega)] at h1
      exact Option.some.inj h1, fun n m hn hm => by
      obtain ⟨u, h1, h2⟩ := val_mono oh ss _ o ok n m _ hm (hv n hn)
      rw [hv m (by omega)] at h1
      have := Option.some.inj h1
      omega⟩
  refine ⟨s, s1, s2, P, hv, ?_, hu⟩
  have h1 := P.per s (Nat.le_refl _) 1
  have h2 := hu (s + (thr hs ss (hat hs 0) 1 1).1 * 1) (by omega)
  omega
def tbl (V : Nat → Nat) (s T : Nat) : List Nat := (List.range T).map fun i => V (s + i)
theorem tbl_len {V : Nat → Nat} {s T : Nat} : (tbl V s T).length = T := by unfold tbl; rw [List.length_map, List.length_range]
theorem tbl_at {V : Nat → Nat} {s T i : Nat} (h : i < T) : (tbl V s T).getD i 0 = V (s + i) := by
  unfold tbl
  rw [List.getD_eq_getElem?_getD, List.getElem?_map, List.getElem?_range h]
  rfl
theorem tval_eq {V : Nat → Nat} {s T U n : Nat} (P : Per V s T U) (hn : s ≤ n) : tval (tbl V s T) T U s n = V n := by
  have hm : (n - s) % T < T := Nat.mod_lt _ P.T0
  have hd := Nat.div_add_mod (n - s) T
  have h1 := P.per (s + (n - s) % T) (by omega) ((n - s) / T)
  rw [show s + (n - s) % T + T * ((n - s) / T) = n by omega] at h1
  unfold tval
  rw [tbl_at hm, h1, Nat.mul_comm U]
theorem strI_eq {V : Nat → Nat} {s T U e : Nat} (P : Per V s T U) : strI (tbl V s T) T U s e = sL V s T e := by
  unfold strI sL
  apply List.map_congr_left
  intro t ht
  rw [List.mem_range] at ht
  rw [tval_eq P (by omega), tbl_at ht]
section
variable {K : PySem.W.Frag} {I : Hp → Hp → Prop} {σ : St} {G : Hp} {ta tb tc te tv tl : TE} {D : Ends} {tu tw tz t : TS} {R : V → Hp → Prop} {vs xs ys : List V} {x y z v : V}
theorem ev_call2LL {pre : List V → Hp → V → Prop} (ha : EvL ta σ G xs) (hb : EvL tb σ G ys) (k : ∀ p q G', Ex G G' → G' p = some (.lst xs) → G' q = some (.lst ys) → pre [.ref p, .ref q] G' v) : Ev (tCall (PV 2 pre) [] E0 (tCons ta (tCons tb tNil))) σ G v := fun H e Q w =>
  ha H e _ fun p H1 _ e1 h1 => hb H1 (e.trans e1) _ fun q H2 _ e2 h2 => ⟨rfl, H2, v, Ex.refl _, k p q H2 ((e.trans e1).trans e2) (e2 p _ h1) h2, fun H3 e3 => w H3 ((e1.trans e2).trans e3)⟩
theorem ev_call2UU {pre : List V → Hp → V → Prop} (ha : EvU ta σ G xs) (hb : EvU tb σ G ys) (k : ∀ p q G', Ex G G' → G' p = some (.tup xs) → G' q = some (.tup ys) → pre [.ref p, .ref q] G' v) : Ev (tCall (PV 2 pre) [] E0 (tCons ta (tCons tb tNil))) σ G v := fun H e Q w =>
  ha H e _ fun p H1 _ e1 h1 => hb H1 (e.trans e1) _ fun q H2 _ e2 h2 => ⟨rfl, H2, v, Ex.refl _, k p q H2 ((e.trans e1).trans e2) (e2 p _ h1) h2, fun H3 e3 => w H3 ((e1.trans e2).trans e3)⟩
theorem ev_min {L : List Int} {p : Addr} {m : Int} (h : Ev ta σ G (.ref p)) (hp : SqL K G p (L.map V.int)) (hm : Lo L m) : Ev (tCB (rMin K) (tCons ta tNil)) σ G (.int m) := fun H e Q q => h H e _ fun H1 e1 => ⟨p, L, rfl, ex_l (e.trans e1) hp, List.length_pos_of_mem hm.1, fun m2 a1 a2 => by
  rw [Lo.uniq ⟨a1, a2⟩ hm]
  exact q H1 e1⟩
theorem ev_max {L : List Int} {p : Addr} {m : Int} (h : Ev ta σ G (.ref p)) (hp : SqL K G p (L.map V.int)) (hm : Hi L m) : Ev (tCB (rMax K) (tCons ta tNil)) σ G (.int m) := fun H e Q q => h H e _ fun H1 e1 => ⟨p, L, rfl, ex_l (e.trans e1) hp, List.length_pos_of_mem hm.1, fun m2 a1 a2 => by
  rw [Hi.uniq ⟨a1, a2⟩ hm]
  exact q H1 e1⟩
/-- what _law_same asks of two equal pairs -/
theorem same_L {p q : Addr} {i j : Int} (hi : small i) (hj : small j) (hp : SqL K G p [.int i, .int j]) (hq : SqL K G q [.int i, .int j]) : (∀ H, Ex G H → Dp K H (.ref p) (.list [.int i, .int j]) ∧ Dp K H (.ref q) (.list [.int i, .int j])) ∧ (PyData.list [.int i, .int j]).showable = true ∧ (PyData.list [.int i, .int j]).hasDict = false ∧ (PyData.list [.int i, .int j]).depth ≤ 40 ∧ (PyData.list [.int i, .int j]).shown.length ≤ sizeLine :=
  ⟨fun H e => ⟨.lst (ex_l e hp) (.cons (.int i) (.cons (.int j) .nil)), .lst (ex_l e hq) (.cons (.int i) (.cons (.int j) .nil))⟩, by simp [PyData.showable, PyData.showableAll, show i.natAbs.log2 < 1920 from hi, show j.natAbs.log2 < 1920 from hj], by simp [PyData.hasDict, PyData.hasDictAll], by simp [PyData.depth, PyData.depthAll], list2_le hi hj⟩
theorem same_T {p q : Addr} {i j : Int} (hi : small i) (hj : small j) (hp : SqT K G p [.int i, .int j]) (hq : SqT K G q [.int i, .int j]) : (∀ H, Ex G H → Dp K H (.ref p) (.tuple [.int i, .int j]) ∧ Dp K H (.ref q) (.tuple [.int i, .int j])) ∧ (PyData.tuple [.int i, .int j]).showable = true ∧ (PyData.tuple [.int i, .int j]).hasDict = false ∧ (PyData.tuple [.int i, .int j]).depth ≤ 40 ∧ (PyData.tuple [.int i, .int j]).shown.length ≤ sizeLine :=
  ⟨fun H e => ⟨.tup (ex_t e hp) (.cons (.int i) (.cons (.int j) .nil)), .tup (ex_t e hq) (.cons (.int i) (.cons (.int j) .nil))⟩, by simp [PyData.showable, PyData.showableAll, show i.natAbs.log2 < 1920 from hi, show j.natAbs.log2 < 1920 from hj], by simp [PyData.hasDict, PyData.hasDictAll], by simp [PyData.depth, PyData.depthAll], tup2_le hi hj⟩
theorem small_of {i : Int} (h0 : 0 ≤ i) (h : i < 2 ^ 300) : small i := by
  unfold small
  have : i.natAbs < 2 ^ 300 := by omega
  by_cases z : i.natAbs = 0
  · rw [z]; decide
  · have := (Nat.log2_lt z).mpr this
    omega
/-- a, b = sorted(l), l of two -/
theorem go_sort2 {m n : Nat} {f : Addr} {B : Int} {d : Nat} (hI : Cl I) (h : Ev ta σ G (.ref f)) (hf : SqL K G f [x, y]) (hb : ∀ w ∈ [x, y], ∀ H, Ex G H → ∃ ns, TupI K H w ns ∧ ns.length = d ∧ TS.Bd B ns)
    (k1 : ∀ H, Ex G H → (∀ n m, TupI K H x n → TupI K H y m → TS.code B n ≤ TS.code B m) → Go I tz D ((σ.set m (some x)).set n (some y)) G)
    (k2 : ∀ H, Ex G H → (∀ n m, TupI K H y n → TupI K H x m → TS.code B n ≤ TS.code B m) → Go I tz D ((σ.set m (some y)).set n (some x)) G) :
    Go I (tSeq (tAsg (tCB (rSortU K d B) (tCons ta tNil)) (gUnl K 2 (gCons (gName m) (gCons (gName n) gNil)))) tz) D σ G := fun H e i => h H e _ fun H1 e1 => by
  refine ⟨f, [x, y], rfl, ex_l (e.trans e1) hf, (show (2 : Nat) < 64 by decide), fun w hw => hb w hw H1 (e.trans e1), fun ws p hp hs hn => ?_⟩
  have i2 := hI _ _ _ _ (Stp.ex e (e1.trans (Ex.new (o := .lst ws) hn))) i
  have e2 : Ex G (upd H1 p (.lst ws)) := (e.trans e1).trans (Ex.new (o := .lst ws) hn)
  have hperm : ws = [x, y] ∨ ws = [y, x] := by
    have hl := hp.length_eq
    match ws, hl with
    | [a, b], _ =>
      have ha : a ∈ [x, y] := hp.subset (by simp)
      rcases List.mem_cons.mp ha with z | z
      · subst z
        have := List.Perm.cons_inv hp
        have := List.perm_singleton.mp this
        exact Or.inl (by rw [this])
      · have z : a = y := by simpa using z
        subst z
        have h2 : [a, b].Perm [a, x] := hp.trans (List.Perm.swap _ _ _)
        have := List.perm_singleton.mp (List.Perm.cons_inv h2)
        exact Or.inr (by rw [this])
  rcases hperm with z | z
  · subst z
    refine ⟨p, [x, y], rfl, sq_of upd_same, rfl, x, [y], rfl, y, [], rfl, rfl, k1 H1 (e.trans e1) ?_ _ e2 i2⟩
    rw [List.pairwise_cons] at hs
    exact hs.1 y (by simp)
  · subst z
    refine ⟨p, [y, x], rfl, sq_of upd_same, rfl, y, [x], rfl, x, [], rfl, rfl, k2 H1 (e.trans e1) ?_ _ e2 i2⟩
    rw [List.pairwise_cons] at hs
    exact hs.1 x (by simp)
end
end Lm
end
section
set_option Elab.async false
set_option linter.all false
set_option maxRecDepth 100000
set_option maxHeartbeats 2000000
namespace Lm
open PySem PySem.Spec L2 Evl
local macro_rules | `(tactic| infer_instance) => `(tactic| first | (with_reducible exact ev_c) | ((with_reducible apply ev_var); exact rfl) | (with_reducible exact ea_nil) | (intro _; infer_instance) | ((with_reducible apply ev_I0) <;> try infer_instance) | ((with_reducible apply ev_I) <;> try infer_instance) | ((with_reducible apply ev_isInt) <;> try infer_instance) | ((with_reducible apply ev_isBool) <;> try infer_instance) | ((with_reducible apply ev_isStr) <;> try infer_instance) | ((with_reducible apply ev_isTup) <;> try infer_instance) | ((with_reducible apply ev_isN) <;> try infer_instance) | ((with_reducible apply ev_notN) <;> try infer_instance) | ((with_reducible apply ev_neg) <;> try infer_instance) | ((with_reducible apply ev_fld) <;> try infer_instance) | ((with_reducible apply ev_ixT) <;> try infer_instance) | ((with_reducible apply ev_ixL) <;> try infer_instance) | ((with_reducible apply ev_andV) <;> try infer_instance) | ((with_reducible apply ev_orV) <;> try infer_instance) | ((with_reducible apply ev_notV) <;> try infer_instance) | ((with_reducible apply ev_callV) <;> try infer_instance) | ((with_reducible apply ea_cons) <;> try infer_instance) | ((with_reducible apply et_test) <;> try infer_instance) | ((with_reducible apply et_B) <;> try infer_instance) | ((with_reducible apply et_not) <;> try infer_instance) | ((with_reducible apply et_and) <;> try infer_instance) | ((with_reducible apply et_or) <;> try infer_instance) | ((with_reducible apply ev_eq) <;> first | infer_instance | exact rfl | skip) | ((with_reducible apply ev_ne) <;> first | infer_instance | exact rfl | skip) | ((with_reducible apply eu_tup) <;> first | infer_instance | decide | skip) | ((with_reducible apply el_lst) <;> first | infer_instance | decide | skip))
theorem two_of {α : Type} : ∀ {l : List α}, l.length = 2 → ∃ a b, l = [a, b]
  | [a, b], _ => ⟨a, b, rfl⟩
abbrev EndX := Nat × Int × Int
def EndR (K : PySem.W.Frag) (G : Hp) (v : V) (x : EndX) : Prop := ∃ p, v = .ref p ∧ SqT K G p [nV x.1, .int x.2.1, .int x.2.2]
theorem EndR.mono {K : PySem.W.Frag} {G G' : Hp} {v : V} {x : EndX} (e : Ex G G') : EndR K G v x → EndR K G' v x := fun ⟨p, h1, h2⟩ => ⟨p, h1, ex_t e h2⟩
theorem go_un3I {K : PySem.W.Frag} {I : Hp → Hp → Prop} {σ : St} {G : Hp} {te : TE} {tz : TS} {D : Ends} {R : V → Hp → Prop} {n m l : Nat} (h : EvI I te σ G R) (k : ∀ v G', Ex G G' → R v G' → ∃ p x y z, v = .ref p ∧ SqT K G' p [x, y, z] ∧ Go I tz D (((σ.set n (some x)).set m (some y)).set l (some z)) G') : Go I (tSeq (tAsg te (gTup K 3 (gCons (gName n) (gCons (gName m) (gCons (gName l) gNil))))) tz) D σ G := fun H e i =>
  h H e i _ fun v G' H1 e1 f1 i1 r => by
    obtain ⟨p, x, y, z, ev, hp, g⟩ := k v G' e1 r
    subst ev
    exact ⟨p, [x, y, z], rfl, ex_t f1 hp, rfl, x, [y, z], rfl, y, [z], rfl, z, [], rfl, rfl, g H1 f1 i1⟩
theorem go_forK0 {I : Hp → Hp → Prop} {σ : St} {G : Hp} {tu tz : TS} {D : Ends} {ts : TA} {α : Type} {n j : Nat} (hI : Cl I) (h : EvA ts σ G [nV n]) (hn : n ≤ 100000) (S : Nat → α → St) (P : Nat → α → Hp) (W : Nat → α → Prop) (a0 : α) (hσ : σ = S 0 a0) (hG : G = P 0 a0) (w0 : W 0 a0)
    (hs : ∀ i a, i < n → W i a → Go I tu { D with nx := LN I S P W (i + 1), ct := LN I S P W (i + 1), bk := tz D } ((S i a).set j (some (nV i))) (P i a)) (hd : ∀ a, W n a → Go I tz D (S n a) (P n a)) : Go I (tSeq (tFor (iRng1 ts) (gName j) tu) tz) D σ G :=
  go_for (J := Itr 0 n) (n := n) (Gd := fun _ => True) (Y := YFn fun i => nV i) (walk_range.mono (fun _ h => h) fun i H x H' _ _ y => ⟨y.1, y.2.trans (by show V.int (0 + (i : Int)) = V.int (i : Int); rw [Int.zero_add])⟩) S P W a0 hσ hG w0 hI (fun H e R q => h H e _ fun H1 e1 => ⟨(n : Int), rfl, by omega, by omega, by rw [Int.toNat_natCast]; exact q H1 e1⟩) (fun _ _ _ _ _ _ => trivial)
    (fun i a x H H' hi wa ea ia y => by
      obtain ⟨e1, y⟩ := y
      subst e1 y
      exact hs i a hi wa H' ea ia) hd
def sp__law_right (K : PySem.W.Frag) : Sp := PI 1 fun I vs G R => ∃ (a : Addr), vs = [.ref a] ∧ Va a I ∧ R = fun v G2 => v = .bl true
abbrev N__law_right : List Str := ["_law_vase_here", "_law_homes_here", "_law_mine", "_law_begin", "_law_known", "_law_made", "_law_ends", "_law_turn", "_law_extent", "_law_least", "_law_most", "_law_run", "_law_found", "_law_far", "_law_short", "_law_long_here", "_law_k"]
abbrev P__law_right : List Str := ["_law_vase_here"]
theorem sc__law_right : FnScope N__law_right P__law_right (defScope s__law_right) := ⟨rfl, rfl, rfl, by decide +kernel, rfl, by decide +kernel, by decide +kernel⟩
theorem F__law_right {P : Program} {w : World} {K : PySem.W.Frag} {mg : Str → Option Value} {base : Heap} (T : Tx K w mg) (F__law_homes : Kp P w K mg base 5 "_law_homes" P__law_homes (sp__law_homes K)) (F__law_strides : Kp P w K mg base 5 "_law_strides" P__law_strides (sp__law_strides K)) (F__law_move : Kp P w K mg base 9 "_law_move" P__law_move (sp__law_move K)) (F__law_through : Kp P w K mg base 4 "_law_through" P__law_through (sp__law_through K)) (F__law_start : Kp P w K mg base 3 "_law_start" P__law_start (sp__law_start K)) (F__law_pluck : Kp P w K mg base 2 "_law_pluck" P__law_pluck (sp__law_pluck K)) (F__law_pour : Kp P w K mg base 1 "_law_pour" P__law_pour (sp__law_pour K)) (F_stretch : Kp P w K mg base 4 "stretch" P_stretch (sp_stretch K)) (F__law_value : Kp P w K mg base 2 "_law_value" P__law_value (sp__law_value K)) (F__law_same : KpG P w K mg base 1 "_law_same" P__law_same (sp__law_same K)) : KpG P w K mg base 10 "_law_right" P__law_right (sp__law_right K) := by
  obtain ⟨fd, F⟩ := T.d__law_right
  refine ⟨_, fd, T.g__law_right, F.kp, F.bindsN (fun _ _ _ _ _ _ us hl => match us, hl with | [_], _ => rfl), okG F (N := N__law_right) sc__law_right len_PI fun cdv A outer s H vs Q E hgd hr hpre => ⟨_, PSs.nox (pss_cons (ps_set (i := 1) sc__law_right.nd rfl (.inr rfl) (pe_kall F__law_homes (hr.mono (by decide)) (by rfl) (pa_cons (pv 0) pa_nil)))
  (pss_cons (ps_set (i := 2) sc__law_right.nd rfl (.inr rfl) (pe_kall F__law_strides (hr.mono (by decide)) (by rfl) (pa_cons (pv 0) (pa_cons (pv 1) (pa_cons pe_int (pa_cons pe_int pa_nil))))))
  (pss_cons (ps_asg (pe_tup (pa_cons (pe_kall F__law_start (hr.mono (by decide)) (by rfl) (pa_cons (pv 2) (pa_cons (pv 1) pa_nil))) (pa_cons (pe_kall F__law_through (hr.mono (by decide)) (by rfl) (pa_cons (pv 2) (pa_cons (pv 1) pa_nil))) (pa_cons (pe_kall F__law_move (hr.mono (by decide)) (by rfl) (pa_cons (pv 2) (pa_cons (pv 1) pa_nil))) pa_nil)))) (pg_tup (n := 3) rfl (pgs_cons (pg_name (i := 3) sc__law_right.nd rfl (Or.inr rfl)) (pgs_cons (pg_name (i := 4) sc__law_right.nd rfl (Or.inl rfl)) (pgs_cons (pg_name (i := 5) sc__law_right.nd rfl (Or.inl rfl)) pgs_nil)))))
  (pss_cons (ps_set (i := 6) sc__law_right.nd rfl (.inl rfl) (pe_lst pa_nil))
  (pss_cons (ps_for PassesOwn.never rfl (pi_range1 (by rfl) T.f_range (pa_cons pe_int pa_nil)) (pg_name (i := 7) sc__law_right.nd rfl (Or.inl rfl))
    (pss_cons (ps_set (i := 8) sc__law_right.nd rfl (.inr rfl) (pe_op op_add (pe_kall F__law_pluck (hr.mono (by decide)) (by rfl) (pa_cons (pv 0) (pa_cons (pe_lst (pa_cons (pe_op op_pow pe_int pe_int) (pa_cons (pe_op op_add (pe_op op_pow pe_int pe_int) pe_int) (pa_cons (pe_op op_mul (pe_ix ix_tup (pv 4) pe_int (fun _ _ => rfl)) (pe_op op_pow pe_int pe_int)) pa_nil)))) pa_nil))) (pe_kall F__law_pour (hr.mono (by decide)) (by rfl) (pa_cons (pv 0) (pa_cons pe_int pa_nil)))))
  (pss_cons (ps_asg (pe_kall F_stretch (hr.mono (by decide)) (by rfl) (pa_cons (pv 5) (pa_cons (pv 8) pa_nil))) (pg_tup (n := 2) rfl (pgs_cons (pg_name (i := 9) sc__law_right.nd rfl (Or.inl rfl)) (pgs_cons (pg_name (i := 10) sc__law_right.nd rfl (Or.inl rfl)) pgs_nil))))
  (pss_cons (ps_set (i := 11) sc__law_right.nd rfl (.inr rfl) (pe_lc (own := [("_law_k", 16)]) rfl sc__law_right.nd (pi_range1 (by rfl) T.f_range (pa_cons (pe_ix ix_tup (pv 4) pe_int (fun _ _ => rfl)) pa_nil)) (blkOk_by (own := [("_law_k", 16)]) (N := N__law_right) (sc := defScope s__law_right) (by decide +kernel)) (fun _ _ _ _ _ => (pg_name (i := 16) sc__law_right.nd rfl (Or.inl rfl))) (fun _ _ _ _ _ => pts_nil) (fun _ _ _ _ _ => (pe_kall F__law_value (hr.mono (by decide)) (by rfl) (pa_cons (pv 2) (pa_cons (pv 1) (pa_cons (pe_op op_add (pv 3) (pv 16)) pa_nil)))))))
  (pss_cons (ps_setLc (i := 12) (own := [("_law_k", 16)]) rfl sc__law_right.nd rfl rfl (sw_true rfl rfl rfl (by decide +kernel)) (pi_range1 (by rfl) T.f_range (pa_cons (pe_ix ix_tup (pv 4) pe_int (fun _ _ => rfl)) pa_nil)) (blkOk_by (own := [("_law_k", 16)]) (N := N__law_right) (sc := defScope s__law_right) (by decide +kernel)) (fun _ _ _ _ _ => (pg_name (i := 16) sc__law_right.nd rfl (Or.inl rfl))) (fun _ _ _ _ _ => pts_nil) (fun _ _ _ _ _ => (pe_op op_sub (pe_kall F__law_value (hr.mono (by decide)) (by rfl) (pa_cons (pv 2) (pa_cons (pv 1) (pa_cons (pe_op op_add (pe_op op_add (pv 3) (pv 16)) (pv 8)) pa_nil)))) (pe_ix (ixK_list (K := K) rfl) (pv 11) (pv 16) (fun _ _ => rfl)))))
  (pss_cons (ps_if (pt_not (pt_val (pe_kallG F__law_same hgd (hr.mono (by decide)) (by rfl) (pa_cons (pe_lst (pa_cons (pv 9) (pa_cons (pv 10) pa_nil))) (pa_cons (pe_lst (pa_cons (pe_callB (cr_min rfl) (by rfl) T.f_min (by decide +kernel) (pa_cons (pv 12) pa_nil)) (pa_cons (pe_callB (cr_max rfl) (by rfl) T.f_max (by decide +kernel) (pa_cons (pv 12) pa_nil)) pa_nil))) pa_nil)))))
    (pss_one (ps_ret pe_bl))
    pss_nil)
  (pss_cons (ps_if (pt_not (pt_val (pe_kallG F__law_same hgd (hr.mono (by decide)) (by rfl) (pa_cons (pe_kall F_stretch (hr.mono (by decide)) (by rfl) (pa_cons (pv 5) (pa_cons (pe_op op_add (pv 8) (pe_ix ix_tup (pv 4) pe_int (fun _ _ => rfl))) pa_nil))) (pa_cons (pe_tup (pa_cons (pe_op op_add (pv 9) (pe_ix ix_tup (pv 4) pe_int (fun _ _ => rfl))) (pa_cons (pe_op op_add (pv 10) (pe_ix ix_tup (pv 4) pe_int (fun _ _ => rfl))) pa_nil))) pa_nil)))))
    (pss_one (ps_ret pe_bl))
    pss_nil)
  (pss_cons (ps_set (i := 13) sc__law_right.nd rfl (.inl rfl) (pe_op op_add (pe_op op_add (pv 3) (pe_op op_pow pe_int pe_int)) (pe_kall F__law_pour (hr.mono (by decide)) (by rfl) (pa_cons (pv 0) (pa_cons pe_int pa_nil)))))
  (pss_cons (ps_if (pt_not (pt_chain op_le op_le (pv 9) (pe_op op_sub (pe_kall F__law_value (hr.mono (by decide)) (by rfl) (pa_cons (pv 2) (pa_cons (pv 1) (pa_cons (pe_op op_add (pv 13) (pv 8)) pa_nil)))) (pe_kall F__law_value (hr.mono (by decide)) (by rfl) (pa_cons (pv 2) (pa_cons (pv 1) (pa_cons (pv 13) pa_nil))))) (pv 10)))
    (pss_one (ps_ret pe_bl))
    pss_nil)
  (pss_one (ps_expr (pe_bm PySem.F.plainAttrs_list PySem.F.slot_list_append PySem.F.type_list_append mt_append (pv 6) (pa_cons (pe_tup (pa_cons (pv 8) (pa_cons (pv 9) (pa_cons (pv 10) pa_nil)))) pa_nil)))))))))))))
  (pss_cons (ps_asg (pe_kall F_stretch (hr.mono (by decide)) (by rfl) (pa_cons (pv 5) (pa_cons (pe_op op_add (pe_ix ix_tup (pe_ix ix_list (pv 6) pe_int (fun _ _ => rfl)) pe_int (fun _ _ => rfl)) (pe_ix ix_tup (pe_ix ix_list (pv 6) pe_int (fun _ _ => rfl)) pe_int (fun _ _ => rfl))) pa_nil))) (pg_tup (n := 2) rfl (pgs_cons (pg_name (i := 9) sc__law_right.nd rfl (Or.inl rfl)) (pgs_cons (pg_name (i := 10) sc__law_right.nd rfl (Or.inl rfl)) pgs_nil))))
  (pss_cons (ps_if (PW.pt (pw_or (pt_cmpR op_lt (pv 9) (pe_op op_add (pe_ix ix_tup (pe_ix ix_list (pv 6) pe_int (fun _ _ => rfl)) pe_int (fun _ _ => rfl)) (pe_ix ix_tup (pe_ix ix_list (pv 6) pe_int (fun _ _ => rfl)) pe_int (fun _ _ => rfl))) (nomark _)) (pw_or1 (pt_cmpR op_gt (pv 10) (pe_op op_add (pe_ix ix_tup (pe_ix ix_list (pv 6) pe_int (fun _ _ => rfl)) pe_int (fun _ _ => rfl)) (pe_ix ix_tup (pe_ix ix_list (pv 6) pe_int (fun _ _ => rfl)) pe_int (fun _ _ => rfl))) (nomark _)))))
    (pss_one (ps_ret pe_bl))
    pss_nil)
  (pss_cons (ps_asg (pe_callB (cr_sortT (d := 3) (B := 2 ^ 200) (by decide)) (by rfl) T.f_sorted (by decide +kernel) (pa_cons (pv 6) pa_nil)) (pg_unl (n := 2) rfl (pgs_cons (pg_name (i := 14) sc__law_right.nd rfl (Or.inl rfl)) (pgs_cons (pg_name (i := 15) sc__law_right.nd rfl (Or.inl rfl)) pgs_nil))))
  (pss_one (ps_ret (pe_and (pe_cmpR op_le (pe_ix ix_tup (pv 14) pe_int (fun _ _ => rfl)) (pe_ix ix_tup (pv 15) pe_int (fun _ _ => rfl)) (nomark _)) (pe_one (pe_cmpR op_le (pe_ix ix_tup (pv 14) pe_int (fun _ _ => rfl)) (pe_ix ix_tup (pv 15) pe_int (fun _ _ => rfl)) (nomark _)))))))))))))), ?_⟩⟩
  exact start_PI hpre (by
    rintro G R I Q hI ⟨a, rfl, va, rfl⟩ q
    refine go_asgI (ei_callA hI (vs := [.ref a]) (ea_cons (ev_var rfl) ea_nil) (sp_PI hI ⟨a, rfl, va, rfl⟩)) fun yh Ga ea ⟨hs, hH, oh⟩ => ?_
    refine go_asgI (ei_callA hI (vs := [.ref a, yh, nV 4, nV 60]) (ea_cons (ev_var rfl) (ea_cons (ev_var rfl) (ea_cons ev_c (ea_cons ev_c ea_nil)))) (sp_PI hI ⟨a, yh, hs, rfl, va, hH, oh, rfl⟩)) fun xh Gb eb ⟨ss, hS, ok, hT⟩ => ?_
    have hHb := hH.mono eb
    have hs1 : 1 ≤ hs.length := by obtain ⟨_, _, _, _, _, _, z⟩ := hH; exact z
    have hl4 : ss.length ≤ 4 := by obtain ⟨_, _, _, _, _, z⟩ := hS; exact z
    obtain ⟨s, sb, sn, P, hv, hU, hup⟩ := move_facts oh (oh 0 hs1) ok hl4 hT
    have T0 := P.T0
    refine go_un3I (R := fun v G2 => ∃ p kp mv, v = .ref p ∧ SqT K G2 p [nV s, .ref kp, mv] ∧ SqT K G2 kp [nV (thr hs ss (hat hs 0) 1 1).1, nV (thr hs ss (hat hs 0) 1 1).2] ∧ MovR K G2 mv (thr hs ss (hat hs 0) 1 1).1 (thr hs ss (hat hs 0) 1 1).2 s (tbl (VV hs ss) s (thr hs ss (hat hs 0) 1 1).1)) (ei_tup (RA := fun vs G2 => ∃ kp mv, vs = [nV s, .ref kp, mv] ∧ SqT K G2 kp [nV (thr hs ss (hat hs 0) 1 1).1, nV (thr hs ss (hat hs 0) 1 1).2] ∧ MovR K G2 mv (thr hs ss (hat hs 0) 1 1).1 (thr hs ss (hat hs 0) 1 1).2 s (tbl (VV hs ss) s (thr hs ss (hat hs 0) 1 1).1)) (eai_cons (ei_of hI (ev_callV (vs := [xh, yh]) (ea_cons (ev_var rfl) (ea_cons (ev_var rfl) ea_nil)) (sp_PV ⟨xh, yh, ss, hs, s, rfl, hS, hHb, ok, sn, sb, rfl⟩))) fun v G2 _ ⟨z1, z2⟩ => ?_) hI fun vs G2 e2 ⟨kp, mv, hvs, k1, k2⟩ => ⟨by rw [hvs]; exact (show (3 : Nat) ≤ 100000 by decide), fun p hp => ⟨p, kp, mv, rfl, by rw [hvs]; exact st_of upd_same, ex_t (Ex.new hp) k1, k2.mono (Ex.new hp)⟩⟩) fun v Gc ec ⟨p, kp, mv, hvp, hp3, hkp, hM⟩ => ⟨p, nV s, .ref kp, mv, hvp, hp3, ?_⟩
    · subst z1 z2
      refine eai_cons (ei_ofU hI (eu_callP (vs := [xh, yh]) (ea_cons (ev_var rfl) (ea_cons (ev_var rfl) ea_nil)) ⟨xh, yh, ss, hs, rfl, hS, hHb, ok, oh, rfl⟩)) fun v G3 e3 ⟨kp, y1, y2, y3⟩ => ?_
      subst y1
      refine eai_one (ei_callA hI (vs := [xh, yh]) (ea_cons (ev_var rfl) (ea_cons (ev_var rfl) ea_nil)) (sp_PI hI ⟨xh, yh, ss, hs, s, tbl (VV hs ss) s (thr hs ss (hat hs 0) 1 1).1, rfl, hS.mono e3, hHb.mono e3, ok, oh, sn, T0, hT, tbl_len, fun i hi => ?_, rfl⟩)) fun mv G4 e4 hm => ⟨kp, mv, rfl, ex_t e4 (by rw [y3]; exact st_of upd_same), hm⟩
      rw [tbl_len] at hi
      rw [tbl_at hi]
      exact hv _ (by omega)
    have hHc := hHb.mono ec
    have hSc := hS.mono ec
    have eGc := (ea.trans eb).trans ec
    clear hvp hp3
    have hval : ∀ {σ : St} {G1 : Hp} {te : TE} {n : Nat}, Ex Gc G1 → s ≤ n → σ[2]? = some (some xh) → σ[1]? = some (some yh) → Ev te σ G1 (nV n) → Ev (tCall (sp__law_value K) [] E0 (tCons (tVar 2) (tCons (tVar 1) (tCons te tNil)))) σ G1 (nV (VV hs ss n)) := fun {σ G1 te n} e hn h2 h1 hte =>
      ev_callV (vs := [xh, yh, nV n]) (ea_cons (ev_var h2) (ea_cons (ev_var h1) (ea_cons hte ea_nil))) (sp_PV ⟨xh, yh, ss, hs, n, rfl, hSc.mono e, hHc.mono e, ok, by rw [hv n hn]; rfl⟩)
    generalize (thr hs ss (hat hs 0) 1 1).1 = T1 at *
    generalize (thr hs ss (hat hs 0) 1 1).2 = U at *
    generalize VV hs ss = VF at *
    have hstr : ∀ {σ : St} {G1 : Hp} {te : TE} {e : Nat} {lo hi : Int}, Ex Gc G1 → e < 2 ^ 300 → σ[5]? = some (some mv) → Ev te σ G1 (nV e) → Lo (sL VF s T1 e) lo → Hi (sL VF s T1 e) hi → EvU (tCall (sp_stretch K) [] E0 (tCons (tVar 5) (tCons te tNil))) σ G1 [.int lo, .int hi] := fun {σ G1 te e lo hi} e1 he h5 hte hlo hhi =>
      eu_callP (vs := [mv, nV e]) (ea_cons (ev_var h5) (ea_cons hte ea_nil)) ⟨mv, T1, U, s, e, _, lo, hi, rfl, hM.mono e1, T0, by omega, tbl_len, by omega, by omega, by rw [strI_eq P]; exact hlo, by rw [strI_eq P]; exact hhi, rfl⟩
    have hbd : ∀ {e : Nat} {x : Int}, e ≤ 2 ^ 110 → x ∈ sL VF s T1 e → 0 ≤ x ∧ x < 2 ^ 150 := fun {e x} he hx => by
      obtain ⟨t, ht, rfl⟩ := sL_mem.mp hx
      have h1 := P.mono (s + t) (s + t + e) (by omega) (by omega)
      have h2 := hup (s + t + e) (by omega)
      omega
    refine go_asgO hI (el_lst ea_nil (by decide)) fun f hf haf => ?_
    have cJ := cl_wl (l := f) hI
    have vJ := va_wl va (haf a va)
    refine go_forK0 (α := Hp × List V × List EndX × Option V × Option V × Option V × Option V × Option V × Option V × Option V) (n := 2) cJ (ea_cons ev_c ea_nil) (by decide) (fun i x => [some (.ref a), some yh, some xh, some (nV s), some (.ref kp), some mv, some (.ref f), x.2.2.2.1, x.2.2.2.2.1, x.2.2.2.2.2.1, x.2.2.2.2.2.2.1, x.2.2.2.2.2.2.2.1, x.2.2.2.2.2.2.2.2.1, x.2.2.2.2.2.2.2.2.2, none, none, none]) (fun i x => x.1)
      (fun i x => Ex Gc (del x.1 f) ∧ x.1 f = some (.lst x.2.1) ∧ AllR (EndR K (del x.1 f)) x.2.1 x.2.2.1 ∧ x.2.2.1.length = i ∧ ∀ y ∈ x.2.2.1, y.1 ≤ 10 ^ 31 ∧ Lo (sL VF s T1 y.1) y.2.1 ∧ Hi (sL VF s T1 y.1) y.2.2)
      (upd Gc f (.lst []), [], [], none, none, none, none, none, none, none) rfl rfl ⟨by rw [del_upd, del_none hf]; exact Ex.refl _, upd_same, trivial, rfl, fun y hy => by cases hy⟩ ?_ ?_
    · rintro i ⟨G1, xs, ends, s7, s8, s9, s10, s11, s12, s13⟩ hi ⟨w1, w2, w3, w4, w5⟩
      dsimp only at w1 w2 w3 w4 w5
      have e01 : Ex Gc G1 := w1.trans del_ex
      have hkp1 := ex_t e01 hkp
      refine go_asgI (R := fun v G2 => ∃ e : Nat, v = nV e ∧ e ≤ 10 ^ 31) (ei_opI cJ (ei_pluck cJ vJ (ev_var rfl) (el_lst (vs := [nV (10 ^ 12), nV (10 ^ 30 + 1), nV (T1 * 10 ^ 28)]) (ea_cons (ev_eqv (ev_I (C := CPow) (i := 10) (j := 12) ev_c ev_c ⟨by decide, by decide, by decide⟩) (by decide)) (ea_cons (ev_eqv (ev_I0 (ev_I (C := CPow) (i := 10) (j := 30) ev_c ev_c ⟨by decide, by decide, by decide⟩) ev_c) (by decide)) (ea_cons (ev_eqv (ev_I (C := CMul) (i := (T1 : Int)) (j := 10 ^ 28) (ev_ixT (ev_var rfl) ev_c hkp1 rfl) (ev_I (C := CPow) (i := 10) (j := 28) ev_c ev_c ⟨by decide, by decide, by decide⟩) (Or.inl ⟨by omega, by omega⟩)) (by show V.int _ = V.int _; congr 1)) ea_nil))) (show (3 : Nat) ≤ 100000 by decide)) (show (0 : Nat) < 3 by decide) (show (3 : Nat) < 1000 by decide)) fun x G2 e2 hx => EvI.imp (ei_pour (top := 200) cJ vJ (ev_var rfl) ev_c (by decide) (by decide)) fun y G3 e3 ⟨d, hd, hy, _⟩ => ?_) fun v G2 e2 ⟨e, hve, he⟩ => ?_
      · have hx' : x = nV (10 ^ 12) ∨ x = nV (10 ^ 30 + 1) ∨ x = nV (T1 * 10 ^ 28) := by simpa using hx
        have : ∃ c : Nat, x = nV c ∧ c ≤ 10 ^ 30 + 1 := by
          rcases hx' with z | z | z
          · exact ⟨_, z, by decide⟩
          · exact ⟨_, z, Nat.le_refl _⟩
          · exact ⟨_, z, by omega⟩
        obtain ⟨c, hc, hc2⟩ := this
        subst hc hy
        exact ⟨nV (c + d), rv_I0 (i := (c : Int)) (j := (d : Int)) (g := fun i j => .int (i + j)), c + d, rfl, by omega⟩
      subst hve
      obtain ⟨lo, hlo⟩ := lo_ex _ (sL_ne P e)
      obtain ⟨hi', hhi⟩ := hi_ex _ (sL_ne P e)
      have blo := hbd (e := e) (by omega) hlo.1
      have bhi := hbd (e := e) (by omega) hhi.1
      have e02 := e01.trans e2
      have hkp2 := ex_t e02 hkp
      refine go_un2 cJ (x := .int lo) (y := .int hi') (hstr e02 (by omega) rfl (ev_var rfl) hlo hhi) ?_
      refine go_asgL cJ (xs := nL (tbl VF s T1)) (el_eqv (el_lcF (n := T1) (fun _ => true) (fun k => nV (VF (s + k))) (fun k => nV k) (ew_rng (ea_cons (ev_ixT (ev_var rfl) ev_c hkp2 rfl) ea_nil) (by omega)) (by omega) (fun _ => rfl) fun k hk => ⟨et_yes, fun _ => hval e02 (by omega) rfl rfl (ev_eqv (ev_I0 (i := (s : Int)) (j := (k : Int)) (ev_var rfl) (ev_var rfl)) rfl)⟩) (by rw [given_all]; unfold nL tbl; rw [List.map_map]; rfl)) fun r1 hr1 => ?_
      have e23 : Ex G2 (upd G2 r1 (.lst (nL (tbl VF s T1)))) := Ex.new hr1
      have hr13 : upd G2 r1 (.lst (nL (tbl VF s T1))) r1 = some (.lst (nL (tbl VF s T1))) := upd_same
      generalize upd G2 r1 (.lst (nL (tbl VF s T1))) = G3 at e23 hr13 ⊢
      have e03 := e02.trans e23
      have hkp3 := ex_t e03 hkp
      refine go_asgL cJ (xs := (sL VF s T1 e).map V.int) (el_eqv (el_lcF (n := T1) (fun _ => true) (fun k => .int ((VF (s + k + e) : Int) - (VF (s + k) : Nat))) (fun k => nV k) (ew_rng (ea_cons (ev_ixT (ev_var rfl) ev_c hkp3 rfl) ea_nil) (by omega)) (by omega) (fun _ => rfl) fun k hk => ⟨et_yes, fun _ => ev_I0 (i := (VF (s + k + e) : Int)) (j := (VF (s + k) : Nat)) (hval e03 (by omega) rfl rfl (ev_eqv (ev_I0 (i := (s : Int) + (k : Int)) (j := (e : Int)) (ev_I0 (ev_var rfl) (ev_var rfl)) (ev_var rfl)) rfl)) (ev_ixL (ev_var rfl) (ev_var rfl) (sq_of hr13) (by rw [atI_nat, nL_get (by rw [tbl_len]; exact hk), tbl_at hk]))⟩) (by rw [given_all]; unfold sL; rw [List.map_map]; rfl)) fun r2 hr2 => ?_
      have e34 : Ex G3 (upd G3 r2 (.lst ((sL VF s T1 e).map V.int))) := Ex.new hr2
      have hr24 : upd G3 r2 (.lst ((sL VF s T1 e).map V.int)) r2 = some (.lst ((sL VF s T1 e).map V.int)) := upd_same
      generalize upd G3 r2 (.lst ((sL VF s T1 e).map V.int)) = G4 at e34 hr24 ⊢
      have e04 := e03.trans e34
      have hkp4 := ex_t e04 hkp
      have slo := small_of blo.1 (show lo < 2 ^ 300 by omega)
      have shi := small_of bhi.1 (show hi' < 2 ^ 300 by omega)
      have hU0 : (0 : Int) ≤ (U : Int) := Int.natCast_nonneg U
      have slo2 := small_of (show 0 ≤ lo + (U : Int) by omega) (show lo + (U : Int) < 2 ^ 300 by omega)
      have shi2 := small_of (show 0 ≤ hi' + (U : Int) by omega) (show hi' + (U : Int) < 2 ^ 300 by omega)
      refine go_skip cJ (et_eqv (et_not (a := true) (et_B (ev_call2LL (xs := [.int lo, .int hi']) (ys := [.int lo, .int hi']) (el_lst (ea_cons (ev_var rfl) (ea_cons (ev_var rfl) ea_nil)) (show (2 : Nat) ≤ 100000 by decide)) (el_lst (ea_cons (ev_min (ev_var rfl) (sq_of hr24) hlo) (ea_cons (ev_max (ev_var rfl) (sq_of hr24) hhi) ea_nil)) (show (2 : Nat) ≤ 100000 by decide)) fun p q G5 e5 h1 h2 => ?_))) rfl) ?_
      · obtain ⟨d1, d2, d3, d4, d5⟩ := same_L (K := K) slo shi (sq_of h1) (sq_of h2)
        exact ⟨p, q, _, rfl, d1, d2, d3, d4, d5, rfl⟩
      refine go_skip cJ (et_eqv (et_not (a := true) (et_B (ev_call2UU (xs := [.int (lo + U), .int (hi' + U)]) (ys := [.int (lo + U), .int (hi' + U)]) (hstr (e := e + T1) e04 (by omega) rfl (ev_eqv (ev_I0 (i := (e : Int)) (j := (T1 : Int)) (ev_var rfl) (ev_ixT (ev_var rfl) ev_c hkp4 rfl)) rfl) (by rw [P.add]; exact hlo.add) (by rw [P.add]; exact hhi.add)) (eu_tup (ea_cons (ev_I0 (i := lo) (j := (U : Int)) (ev_var rfl) (ev_ixT (ev_var rfl) ev_c hkp4 rfl)) (ea_cons (ev_I0 (i := hi') (j := (U : Int)) (ev_var rfl) (ev_ixT (ev_var rfl) ev_c hkp4 rfl)) ea_nil)) (show (2 : Nat) ≤ 100000 by decide)) fun p q G5 e5 h1 h2 => ?_))) rfl) ?_
      · obtain ⟨d1, d2, d3, d4, d5⟩ := same_T (K := K) slo2 shi2 (st_of h1) (st_of h2)
        exact ⟨p, q, _, rfl, d1, d2, d3, d4, d5, rfl⟩
      refine go_asgI (R := fun v G5 => ∃ n : Nat, v = nV n ∧ s ≤ n) (ei_op cJ (x := .int ((s : Int) + 10 ^ 29)) (ev_I0 (i := (s : Int)) (j := 10 ^ 29) (ev_var rfl) (ev_I (C := CPow) (i := 10) (j := 29) ev_c ev_c ⟨by decide, by decide, by decide⟩)) (ei_pour (top := 1000) cJ vJ (ev_var rfl) ev_c (by decide) (by decide)) fun y G5 e5 ⟨d, hd, hy, _⟩ => ⟨.int ((s : Int) + 10 ^ 29 + (d : Int)), by rw [hy]; exact rv_I0 (i := (s : Int) + 10 ^ 29) (j := (d : Int)) (g := fun i j => .int (i + j)), s + 10 ^ 29 + d, by show V.int _ = V.int _; congr 1, by omega⟩) fun v G5 e5 ⟨n, hvn, hn⟩ => ?_
      subst hvn
      have e05 := e04.trans e5
      have hfar := P.far hn e
      have f1 := hlo.2 _ hfar
      have f2 := hhi.2 _ hfar
      refine go_skip cJ (et_eqv (et_not (et_test (ev_chain (x := .int lo) (y := .int ((VF (n + e) : Int) - (VF n : Nat))) (z := .int hi') (ev_var rfl) (ev_I0 (i := (VF (n + e) : Int)) (j := (VF n : Nat)) (hval (n := n + e) e05 (by omega) rfl rfl (ev_eqv (ev_I0 (i := (n : Int)) (j := (e : Int)) (ev_var rfl) (ev_var rfl)) rfl)) (hval e05 hn rfl rfl (ev_var rfl))) rv_I0 fun _ => ⟨ev_var rfl, rv_I0⟩))) (by simp only [f1, f2, decide_true]; rfl)) ?_
      have w2' := e5 _ _ (e34 _ _ (e23 _ _ (e2 _ _ w2)))
      refine go_appI cJ (fun _ _ _ j => wl_upd j) (xs := xs) (R1 := fun v G6 => EndR K (del G6 f) v (e, lo, hi')) w2' (ev_var rfl) (EvI.imp (ei_ofU cJ (eu_tup (vs := [nV e, .int lo, .int hi']) (ea_cons (ev_var rfl) (ea_cons (ev_var rfl) (ea_cons (ev_var rfl) ea_nil))) (show (3 : Nat) ≤ 100000 by decide))) fun v G6 e6 ⟨t, t1, t2, t3⟩ => ⟨t, t1, st_of ?_⟩) (by have := w3.len; omega) fun v G6 e6 hR => ?_
      · have htf : t ≠ f := fun z => by rw [z, w2'] at t2; cases t2
        rw [del_ne htf, t3]
        exact upd_same
      · dsimp only
        have e16 : Ex (del G1 f) (del G6 f) := ex_del ((((e2.trans e23).trans e34).trans e5).trans e6)
        refine LN.mk (upd G6 f (.lst (xs ++ [v])), xs ++ [v], ends ++ [(e, lo, hi')], some (nV i), some (nV e), some (.int lo), some (.int hi'), some (.ref r1), some (.ref r2), some (nV n)) rfl rfl ⟨?_, upd_same, ?_, by simp [w4], ?_⟩
        · rw [del_upd]
          exact w1.trans e16
        · rw [del_upd]
          exact (w3.imp fun _ _ => EndR.mono e16).app ⟨hR, trivial⟩
        · intro y hy
          rcases List.mem_append.mp hy with h | h
          · exact w5 y h
          · have : y = (e, lo, hi') := by simpa using h
            subst this
            exact ⟨he, hlo, hhi⟩
    rintro ⟨G1, xs, ends, s7, s8, s9, s10, s11, s12, s13⟩ ⟨w1, w2, w3, w4, w5⟩
    dsimp only at w1 w2 w3 w4 w5
    have e01 : Ex Gc G1 := w1.trans del_ex
    obtain ⟨v1, v2, x1, x2, hxs, hes⟩ : ∃ v1 v2 x1 x2, xs = [v1, v2] ∧ ends = [x1, x2] := by
      obtain ⟨x1, x2, h1⟩ := two_of w4
      obtain ⟨v1, v2, h2⟩ := two_of (show xs.length = 2 by rw [w3.len, w4])
      exact ⟨v1, v2, x1, x2, h2, h1⟩
    subst hxs hes
    obtain ⟨⟨p1, hp1, hq1⟩, ⟨p2, hp2, hq2⟩, _⟩ := w3
    subst hp1 hp2
    obtain ⟨b1, lo1, hi1⟩ := w5 x1 (by simp)
    obtain ⟨b2, lo2, hi2⟩ := w5 x2 (by simp)
    obtain ⟨a1, l1, h1⟩ := x1
    obtain ⟨a2, l2, h2⟩ := x2
    dsimp only at b1 lo1 hi1 b2 lo2 hi2 hq1 hq2
    have hq1' := ex_t del_ex hq1
    have hq2' := ex_t del_ex hq2
    obtain ⟨lo3, hlo3⟩ := lo_ex _ (sL_ne P (a1 + a2))
    obtain ⟨hi3, hhi3⟩ := hi_ex _ (sL_ne P (a1 + a2))
    have g1 := P.sum lo1 lo2 hlo3
    have g2 := P.sumH hi1 hi2 hhi3
    have en : ∀ {σ : St} {i j : Nat} {q : Addr} {us : List V} {w : V}, σ[6]? = some (some (.ref f)) → [V.ref p1, .ref p2][i]? = some (.ref q) → SqT K G1 q us → us[j]? = some w → Ev (tOp (rIxT K) (tOp (rIxL K) (tVar 6) (tC (.int (i : Int)))) (tC (.int (j : Int)))) σ G1 w := fun h6 hi hq hj => ev_ixT (ev_ixL (ev_var h6) ev_c (sq_of w2) (by rw [atI_nat]; exact hi)) ev_c hq (by rw [atI_nat]; exact hj)
    refine go_un2 cJ (x := .int lo3) (y := .int hi3) (hstr (e := a1 + a2) e01 (by omega) rfl (ev_eqv (ev_I0 (i := (a1 : Int)) (j := (a2 : Int)) (en (i := 0) (j := 0) rfl rfl hq1' rfl) (en (i := 1) (j := 0) rfl rfl hq2' rfl)) rfl) hlo3 hhi3) ?_
    refine go_skip cJ (et_eqv (et_or (a := decide (lo3 < l1 + l2)) (b := decide (h1 + h2 < hi3)) (et_test (ev_I0 (i := lo3) (j := l1 + l2) (ev_var rfl) (ev_I0 (i := l1) (j := l2) (en (i := 0) (j := 1) rfl rfl hq1' rfl) (en (i := 1) (j := 1) rfl rfl hq2' rfl)))) fun _ => et_test (ev_I0 (i := hi3) (j := h1 + h2) (ev_var rfl) (ev_I0 (i := h1) (j := h2) (en (i := 0) (j := 2) rfl rfl hq1' rfl) (en (i := 1) (j := 2) rfl rfl hq2' rfl)))) (by rw [Bool.or_eq_false_iff, decide_eq_false_iff_not, decide_eq_false_iff_not]; omega)) ?_
    have fin : ∀ (u v : Addr) (y1 y2 : EndX) (σ : St), SqT K G1 u [nV y1.1, .int y1.2.1, .int y1.2.2] → SqT K G1 v [nV y2.1, .int y2.2.1, .int y2.2.2] → y1.2.1 ≤ y2.2.1 → y1.2.2 ≤ y2.2.2 → σ[14]? = some (some (.ref u)) → σ[15]? = some (some (.ref v)) → Go (Wl f I) (tRet (tAndV (tOp (rI0 fun i j => .bl (decide (i ≤ j))) (tOp (rIxT K) (tVar 14) (tC (.int 1))) (tOp (rIxT K) (tVar 15) (tC (.int 1)))) (tOp (rI0 fun i j => .bl (decide (i ≤ j))) (tOp (rIxT K) (tVar 14) (tC (.int 2))) (tOp (rIxT K) (tVar 15) (tC (.int 2)))))) { nx := fun x H' => Q V.non H', rt := Q } σ G1 := fun u v y1 y2 σ hu hv' c1 c2 h14 h15 =>
      go_retV cJ (ev_andV (a := decide (y1.2.1 ≤ y2.2.1)) (b := decide (y1.2.2 ≤ y2.2.2)) (ev_I0 (ev_ixT (ev_var h14) ev_c hu rfl) (ev_ixT (ev_var h15) ev_c hv' rfl)) fun _ => ev_I0 (ev_ixT (ev_var h14) ev_c hu rfl) (ev_ixT (ev_var h15) ev_c hv' rfl)) (x := .bl true) (by simp only [c1, c2, decide_true]; rfl) (gov_out hI (q _ G1 (eGc.trans e01) rfl))
    have bd : ∀ (a : Nat) (l h : Int), a ≤ 10 ^ 31 → Lo (sL VF s T1 a) l → Hi (sL VF s T1 a) h → TS.Bd (2 ^ 200) [(a : Int), l, h] := fun a l h ha hl hh m hm => by
      have k1 := hbd (e := a) (by omega) hl.1
      have k2 := hbd (e := a) (by omega) hh.1
      simp only [List.mem_cons, List.not_mem_nil, or_false] at hm
      rcases hm with z | z | z <;> rw [z]
      · exact ⟨Int.natCast_nonneg a, by omega⟩
      · exact ⟨k1.1, by omega⟩
      · exact ⟨k2.1, by omega⟩
    have cmp : ∀ (a b : Nat) (l h l' h' : Int), TS.Bd (2 ^ 200) [(a : Int), l, h] → TS.Bd (2 ^ 200) [(b : Int), l', h'] → TS.code (2 ^ 200) [(a : Int), l, h] ≤ TS.code (2 ^ 200) [(b : Int), l', h'] → a ≤ b := fun a b l h l' h' h1 h2 h3 => by
      apply Nat.le_of_not_lt
      intro z
      have := TS.code_lt (B := 2 ^ 200) (d := (b : Int)) (e := (a : Int)) (r := [l', h']) (q := [l, h]) rfl h2.tail h1.tail (by omega)
      omega
    have bd1 := bd a1 l1 h1 b1 lo1 hi1
    have bd2 := bd a2 l2 h2 b2 lo2 hi2
    refine go_sort2 (B := 2 ^ 200) (d := 3) cJ (ev_var rfl) (sq_of w2) (fun w hw H eH => ?_) (fun H eH hc => fin p1 p2 (a1, l1, h1) (a2, l2, h2) _ hq1' hq2' ?_ ?_ rfl rfl) (fun H eH hc => fin p2 p1 (a2, l2, h2) (a1, l1, h1) _ hq2' hq1' ?_ ?_ rfl rfl)
    · simp only [List.mem_cons, List.not_mem_nil, or_false] at hw
      rcases hw with z | z
      · exact ⟨[(a1 : Int), l1, h1], ⟨p1, z, ex_t eH hq1'⟩, rfl, bd1⟩
      · exact ⟨[(a2 : Int), l2, h2], ⟨p2, z, ex_t eH hq2'⟩, rfl, bd2⟩
    · exact P.lo_le (cmp _ _ _ _ _ _ bd1 bd2 (hc _ _ ⟨p1, rfl, ex_t eH hq1'⟩ ⟨p2, rfl, ex_t eH hq2'⟩)) lo1 lo2
    · exact P.hi_le (cmp _ _ _ _ _ _ bd1 bd2 (hc _ _ ⟨p1, rfl, ex_t eH hq1'⟩ ⟨p2, rfl, ex_t eH hq2'⟩)) hi1 hi2
    · exact P.lo_le (cmp _ _ _ _ _ _ bd2 bd1 (hc _ _ ⟨p2, rfl, ex_t eH hq2'⟩ ⟨p1, rfl, ex_t eH hq1'⟩)) lo2 lo1
    · exact P.hi_le (cmp _ _ _ _ _ _ bd2 bd1 (hc _ _ ⟨p2, rfl, ex_t eH hq2'⟩ ⟨p1, rfl, ex_t eH hq1'⟩)) hi2 hi1)
end Lm
end
section
set_option Elab.async false
set_option linter.all false
set_option maxRecDepth 100000
set_option maxHeartbeats 2000000
namespace Lm
open PySem PySem.Spec L2 Evl
local macro_rules | `(tactic| infer_instance) => `(tactic| first | (with_reducible exact ev_c) | ((with_reducible apply ev_var); exact rfl) | (with_reducible exact ea_nil) | (intro _; infer_instance) | ((with_reducible apply ev_I0) <;> try infer_instance) | ((with_reducible apply ev_I) <;> try infer_instance) | ((with_reducible apply ev_isInt) <;> try infer_instance) | ((with_reducible apply ev_isBool) <;> try infer_instance) | ((with_reducible apply ev_isStr) <;> try infer_instance) | ((with_reducible apply ev_isTup) <;> try infer_instance) | ((with_reducible apply ev_isN) <;> try infer_instance) | ((with_reducible apply ev_notN) <;> try infer_instance) | ((with_reducible apply ev_neg) <;> try infer_instance) | ((with_reducible apply ev_fld) <;> try infer_instance) | ((with_reducible apply ev_ixT) <;> try infer_instance) | ((with_reducible apply ev_ixL) <;> try infer_instance) | ((with_reducible apply ev_andV) <;> try infer_instance) | ((with_reducible apply ev_orV) <;> try infer_instance) | ((with_reducible apply ev_notV) <;> try infer_instance) | ((with_reducible apply ev_callV) <;> try infer_instance) | ((with_reducible apply ea_cons) <;> try infer_instance) | ((with_reducible apply et_test) <;> try infer_instance) | ((with_reducible apply et_B) <;> try infer_instance) | ((with_reducible apply et_not) <;> try infer_instance) | ((with_reducible apply et_and) <;> try infer_instance) | ((with_reducible apply et_or) <;> try infer_instance) | ((with_reducible apply ev_eq) <;> first | infer_instance | exact rfl | skip) | ((with_reducible apply ev_ne) <;> first | infer_instance | exact rfl | skip) | ((with_reducible apply eu_tup) <;> first | infer_instance | decide | skip) | ((with_reducible apply el_lst) <;> first | infer_instance | decide | skip))
theorem ei_right {K : PySem.W.Frag} {I : Hp → Hp → Prop} {σ : St} {G : Hp} {tc tt : TE} {a : Addr} {ns : List Int} {t : Nat} (hI : Cl I) (ha : Ev tc σ G (.ref a)) (hs : SqL K G a (ns.map V.int)) (hl : ns.length ≤ 40000) (ht : Ev tt σ G (nV t)) :
    EvI I (tCall (sp__law_right K) [] E0 (tCons (tCall (sp__law_vase K) [] E0 (tCons tc (tCons tt tNil))) tNil)) σ G (fun v _ => v = .bl true) := fun H e i Q q => ha H e _ fun H1 e1 => ht H1 (e.trans e1) _ fun H2 e2 => by
  have e02 := (e.trans e1).trans e2
  refine ⟨rfl, H2, fun xs => ∃ x y z : Nat, xs = [nV x, nV y, nV z], Ex.refl _, ⟨a, ns, t, rfl, ex_l e02 hs, hl, rfl⟩, fun p H3 xs hx hp e3 h3 => ?_⟩
  obtain ⟨x, y, z, rfl⟩ := hx
  have hg : G p = none := fresh_back e02 hp
  have e03 := e02.trans e3
  refine ⟨rfl, Iv p I, G, fun v _ => v = .bl true, cl_iv hI, e03, ⟨hg, ⟨(x : Int), (y : Int), (z : Int), Int.natCast_nonneg x, Int.natCast_nonneg y, Int.natCast_nonneg z, h3⟩, ?_⟩, ⟨p, rfl, va_iv, rfl⟩, fun v G' H' e' f' i' hv => q v G' H' e' f' (iv_out hI f' i') hv⟩
  refine hI _ _ _ _ ⟨Ex.refl G, fun b o hb => ?_, fun b o hb => ?_, fun _ _ _ h => h⟩ i
  · have hb2 := (e1.trans e2) b o hb
    rw [del_ne (ne_of_none hb2 hp)]
    exact e3 b o hb2
  · rw [del_ne (ne_of_none hb hg)]
    exact e03 b o hb
def sp_law (K : PySem.W.Frag) : Sp := PV 1 fun vs G v => ∃ (a : Addr) (ns : List Int), vs = [.ref a] ∧ SqL K G a (ns.map V.int) ∧ ns.length ≤ 40000 ∧ v = .bl true
abbrev N_law : List Str := ["_law_cells", "_law_turn"]
abbrev P_law : List Str := ["_law_cells"]
theorem sc_law : FnScope N_law P_law (defScope s_law) := ⟨rfl, rfl, rfl, by decide +kernel, rfl, by decide +kernel, by decide +kernel⟩
theorem G_law {P : Program} {w : World} {K : PySem.W.Frag} {mg : Str → Option Value} {base : Heap} {fd : FuncData} (F : FunD K d_law.name d_law.qual d_law.params d_law.body d_law.scope (d_law.dvs K) (d_law.kws K) (He.fAd K d_law.at_) fd) (T : Tx K w mg) (F__law_right : KpG P w K mg base 10 "_law_right" P__law_right (sp__law_right K)) (F__law_vase : Kp P w K mg base 1 "_law_vase" P__law_vase (sp__law_vase K)) : FnG P w K mg base CX0 11 (He.fAd K d_law.at_) fd P_law (sp_law K) := by
  refine okG F (N := N_law) sc_law len_PV fun cdv A outer s H vs Q E hgd hr hpre => ⟨_, PSs.nox (pss_one (ps_ret (pe_callB (cr_all rfl) (by rfl) T.f_all (by decide +kernel) (pa_cons (pe_lc (own := [("_law_turn", 1)]) rfl sc_law.nd (pi_range1 (by rfl) T.f_range (pa_cons (pe_callB (call_max2 rfl) (by rfl) T.f_max (by decide +kernel) (pa_cons pe_int (pa_cons (pe_callB (call_min2 rfl) (by rfl) T.f_min (by decide +kernel) (pa_cons (pe_callB call_len_seq (by rfl) T.f_len (by decide +kernel) (pa_cons (pv 0) pa_nil)) (pa_cons pe_int pa_nil))) pa_nil))) pa_nil)) (blkOk_by (own := [("_law_turn", 1)]) (N := N_law) (sc := defScope s_law) (by decide +kernel)) (fun _ _ _ _ _ => (pg_name (i := 1) sc_law.nd rfl (Or.inl rfl))) (fun _ _ _ _ _ => pts_nil) (fun _ _ _ _ _ => (pe_kallG F__law_right hgd (hr.mono (by decide)) (by rfl) (pa_cons (pe_kall F__law_vase (hr.mono (by decide)) (by rfl) (pa_cons (pv 0) (pa_cons (pv 1) pa_nil))) pa_nil)))) pa_nil)))), ?_⟩
  exact start_PV hpre (by
    rintro G v I Q hI ⟨a, ns, rfl, ha, hl, rfl⟩ q
    obtain ⟨n, hn, hn4⟩ : ∃ n : Nat, (if (if (4 : Int) < (ns.length : Int) then 4 else (ns.length : Int)) > 2 then (if (4 : Int) < (ns.length : Int) then 4 else (ns.length : Int)) else 2) = (n : Int) ∧ n ≤ 4 := by
      by_cases h4 : (4 : Int) < (ns.length : Int)
      · rw [if_pos h4]
        exact ⟨4, rfl, by decide⟩
      · rw [if_neg h4]
        by_cases h2 : (ns.length : Int) > 2
        · rw [if_pos h2]
          exact ⟨ns.length, rfl, by omega⟩
        · rw [if_neg h2]
          exact ⟨2, rfl, by decide⟩
    have hr : EvA (tCons (tCB (fun xs H Q => ∃ i j, xs = [.int i, .int j] ∧ Q (.int (if j > i then j else i)) H) (tCons (tC (.int 2)) (tCons (tCB (fun xs H Q => ∃ i j, xs = [.int i, .int j] ∧ Q (.int (if j < i then j else i)) H) (tCons (tCB (fun xs H Q => ∃ p ys, xs = [.ref p] ∧ (SqL K H p ys ∨ SqT K H p ys) ∧ Q (.int ys.length) H) (tCons (tVar 0) tNil)) (tCons (tC (.int 4)) tNil))) tNil))) tNil) (start N_law [.ref a]) G [nV n] :=
      ea_cons (ev_cb (vs := [.int 2, .int (if (4 : Int) < (ns.length : Int) then 4 else (ns.length : Int))]) (ea_cons ev_c (ea_cons (ev_cb (vs := [.int (ns.length : Int), .int 4]) (ea_cons (ev_eqv (ev_lenL (ev_var rfl) ha) (by rw [List.length_map])) (ea_cons ev_c ea_nil)) fun H1 _ Q k => ⟨_, _, rfl, k H1 (Ex.refl _)⟩) ea_nil)) fun H1 _ Q k => ⟨_, _, rfl, by rw [hn]; exact k H1 (Ex.refl _)⟩) ea_nil
    refine go_retI (R := fun v _ => v = .bl true) (ei_cb (RA := fun vs G2 => ∃ p, vs = [.ref p] ∧ G2 p = some (.lst ((List.replicate n true).map V.bl))) (eai_one (ei_lc (R := fun v G2 => ∃ p, v = .ref p ∧ G2 p = some (.lst ((List.replicate n true).map V.bl))) hI (ek_wi hI (ek_rng hr (by omega))) fun m Y G2 e2 ⟨hm, hY, hG⟩ => ⟨by omega, fun i acc Gi => Ex G Gi ∧ acc = (List.replicate i true).map V.bl, ⟨by rw [hG]; exact Ex.refl _, rfl⟩, ?_, ?_⟩) fun v G2 _ ⟨p, h1, h2⟩ => ⟨p, by rw [h1], h2⟩) fun vs G2 e2 ⟨p, hv, hp⟩ H e i Q k => ?_) fun v G2 e2 hv => by rw [hv]; exact q G2 e2
    · rintro I' hI' hva i acc Gi hi eg ⟨c1, c2⟩ hla x H H' hy
      rw [hY] at hy
      obtain ⟨y1, y2⟩ := hy
      subst y1 y2
      refine ⟨_, fun Q q => q, rfl, rfl, EvI.imp (ei_right hI' (ev_var rfl) (ex_l c1 ha) hl (ev_var rfl)) fun v G3 e3 hv => ⟨c1.trans e3, ?_⟩⟩
      rw [c2, hv, List.replicate_succ', List.map_append]
      rfl
    · rintro acc G3 p eg hla ⟨c1, c2⟩ hp
      rw [hm] at c2
      exact ⟨p, rfl, by rw [c2]; exact upd_same⟩
    · subst hv
      refine ⟨p, List.replicate n true, rfl, sq_of (e p _ hp), k _ G2 H (Ex.refl _) e i ?_⟩
      congr 1
      rw [List.all_eq_true]
      intro b hb
      exact (List.mem_replicate.mp hb).2)
theorem chain {P : Program} {w : World} {K : PySem.W.Frag} {mg : Str → Option Value} {base : Heap} {fd : FuncData} (F : FunD K d_law.name d_law.qual d_law.params d_law.body d_law.scope (d_law.dvs K) (d_law.kws K) (He.fAd K d_law.at_) fd) (T : Tx K w mg) : FnG P w K mg base CX0 11 (He.fAd K d_law.at_) fd P_law (sp_law K) := by
  have kF_is_integer := F_is_integer (P := P) (base := base) T
  have kF_is_number := F_is_number (P := P) (base := base) T kF_is_integer
  have kF_is_between := F_is_between (P := P) (base := base) T kF_is_integer
  have kF_check_number := F_check_number (P := P) (base := base) T kF_is_number
  have kF_is_way := F_is_way (P := P) (base := base) T
  have kF_common_divisor := F_common_divisor (P := P) (base := base) T
  have kF_common_multiple := F_common_multiple (P := P) (base := base) T kF_common_divisor
  have kF_is_amount := F_is_amount (P := P) (base := base) T kF_is_between
  have kF_numbers_of := F_numbers_of (P := P) (base := base) T
  have kF_skipped_in := F_skipped_in (P := P) (base := base) T kF_numbers_of
  have kF_is_again := F_is_again (P := P) (base := base) T
  have kF_divisors_of := F_divisors_of (P := P) (base := base) T
  have kF_is_row := F_is_row (P := P) (base := base) T kF_is_between
  have kF_check_bases := F_check_bases (P := P) (base := base) T kF_is_between
  have kF_check_rows := F_check_rows (P := P) (base := base) T kF_is_row
  have kM_unit := M_unit (P := P) (base := base) T
  have kM_group_of := M_group_of (P := P) (base := base) T
  have kM_place_of := M_place_of (P := P) (base := base) T kM_group_of
  have kM_near := M_near (P := P) (base := base) T
  have kF_House := F_House (P := P) (base := base) T kF_check_bases kF_check_rows kF_common_multiple kF_skipped_in kF_divisors_of kF_is_again
  have kF_is_step := F_is_step (P := P) (base := base) T kF_is_way kF_is_amount kF_is_between
  have kF_house_behind := F_house_behind (P := P) (base := base) T
  have kF_wrong_step := F_wrong_step (P := P) (base := base) T kF_house_behind kF_is_step
  have kF_value_of := F_value_of (P := P) (base := base) T kM_near kM_place_of kM_unit
  have kF_round_of := F_round_of (P := P) (base := base) T kF_common_divisor kF_common_multiple kM_unit
  have kF_least_through := F_least_through (P := P) (base := base) T kF_house_behind kF_round_of kF_common_divisor
  have kF_led_to := F_led_to (P := P) (base := base) T kF_house_behind kF_value_of
  have kF_first_kept := F_first_kept (P := P) (base := base) T kF_led_to
  have kF_is_round := F_is_round (P := P) (base := base) T
  have kF_check_houses := F_check_houses (P := P) (base := base) T
  have kF_check_steps := F_check_steps (P := P) (base := base) T kF_wrong_step
  have kM_value := M_value (P := P) (base := base) T
  have kF_check_move := F_check_move (P := P) (base := base) T
  have kF_stretches := F_stretches (P := P) (base := base) T kM_value
  have kF_stretch := F_stretch (P := P) (base := base) T kF_check_move kF_check_number kF_stretches
  have kF_Move := F_Move (P := P) (base := base) T kF_house_behind kF_check_houses kF_check_steps kF_least_through kF_first_kept kF_led_to kF_divisors_of kF_is_round
  have kF__law_vase := F__law_vase (P := P) (base := base) T
  have kF__law_pour := F__law_pour (P := P) (base := base) T
  have kF__law_pluck := F__law_pluck (P := P) (base := base) T kF__law_pour
  have kF__law_divisor := F__law_divisor (P := P) (base := base) T
  have kF__law_multiple := F__law_multiple (P := P) (base := base) T kF__law_divisor
  have kF__law_again := F__law_again (P := P) (base := base) T
  have kF__law_size := F__law_size (P := P) (base := base) T
  have kF__law_gap := F__law_gap (P := P) (base := base) T
  have kF__law_spot := F__law_spot (P := P) (base := base) T
  have kF__law_near := F__law_near (P := P) (base := base) T
  have kF__law_place_house := F__law_place_house (P := P) (base := base) T kF__law_multiple kF__law_gap kF__law_again
  have kF__law_parts := F__law_parts (P := P) (base := base) T kF__law_divisor kF__law_multiple kF__law_size
  have kF__law_through := F__law_through (P := P) (base := base) T kF__law_parts kF__law_divisor
  have kF__law_value := F__law_value (P := P) (base := base) T kF__law_spot kF__law_near kF__law_size
  have kF__law_start := F__law_start (P := P) (base := base) T kF__law_value
  have kF__law_same := F__law_same (P := P) (base := base) T
  have kF__law_ground := F__law_ground (P := P) (base := base) T kF__law_pluck kF__law_pour
  have kF__law_lanes := F__law_lanes (P := P) (base := base) T kF__law_pluck kF__law_pour
  have kF__law_house := F__law_house (P := P) (base := base) T kF__law_place_house kF__law_lanes kF__law_ground
  have kF__law_built := F__law_built (P := P) (base := base) T kF_House
  have kF__law_move := F__law_move (P := P) (base := base) T kF_Move kF__law_built
  have kF__law_stride := F__law_stride (P := P) (base := base) T kF__law_pour kF__law_pluck
  have kF__law_homes := F__law_homes (P := P) (base := base) T kF__law_ground kF__law_house kF__law_pour
  have kF__law_strides := F__law_strides (P := P) (base := base) T kF__law_pour kF__law_through kF__law_stride
  have kF__law_right := F__law_right (P := P) (base := base) T kF__law_homes kF__law_strides kF__law_move kF__law_through kF__law_start kF__law_pluck kF__law_pour kF_stretch kF__law_value kF__law_same
  exact G_law (P := P) (base := base) F T kF__law_right kF__law_vase
end Lm
end
section
set_option Elab.async false
set_option linter.all false
set_option maxRecDepth 100000
set_option maxHeartbeats 2000000
open PySem PySem.W PySem.Calls PyProof.Rows
theorem PySem.Challenge.cw_labelmoves_k36_whole_lengths_of_thirty_f_holds : PySem.Challenge.rw_labelmoves_k36_whole_lengths_of_thirty_f.Holds := by
  w_on; o_law
  refine HandSHeadRun.head_any (r := OpenLaw.row PySem.Challenge.rw_labelmoves_k36_whole_lengths_of_thirty_f) (q := view (OpenLaw.row PySem.Challenge.rw_labelmoves_k36_whole_lengths_of_thirty_f).prog [94]) (H := Lm.hk) (ob := Lm.ob) (M := 8000) (loose := Lm.loose) (d := HandSHeadRun.topDef (OpenLaw.row PySem.Challenge.rw_labelmoves_k36_whole_lengths_of_thirty_f).prog 94) (kwd := []) Lm.ob_eq
    (by kernel_rfl) (fun s => by kernel_rfl) Lm.run (by kernel_rfl) (by kernel_rfl) (by kernel_rfl) (by rfl) (by first | assumption | decide +kernel) (by decide +kernel) ⟨rfl, rfl, rfl, rfl, rfl, by decide +kernel⟩ ?hw ?hc
  case hw => w_witness2
  case hc =>
    refine Lm.walk_ofEG (l := PySem.Challenge.rw_labelmoves_k36_whole_lengths_of_thirty_f) (n := 63) (k := 11) (x := "_law_cells") (CX := L2.CX0) rfl (by decide) (by kernel_rfl) ⟨rfl, by decide, by decide⟩ ?F (fun _ _ _ _ z => z)
    intro w mg fa h Y G hmg0
    obtain ⟨K, KX, c⟩ := Y
    have hmg : mg ("law" : PySem.Str) = some (.ref fa) := by
      have e : (HandSHeadRun.topDef (OpenLaw.row PySem.Challenge.rw_labelmoves_k36_whole_lengths_of_thirty_f).prog 94).name = ("law" : PySem.Str) := by kernel_rfl
      rw [← e]
      exact hmg0
    have T := Lm.tx_of KX G c
    obtain ⟨fd, F⟩ := T.d_law
    have e := hmg.symm.trans T.g_law
    cases e
    have b := L2.FunD.bindsA (ps := Lm.P_law) F fun _ _ _ _ _ _ us hl => match us, hl with | [_], _ => rfl
    exact ⟨K, fd, Lm.sp_law K, KX, fun s v => b s [v] rfl, fun H a ns hl _ hS => ⟨rfl, H, .bl true, Evl.Ex.refl H, ⟨a, ns, rfl, hS, Nat.le_trans hl (by decide), rfl⟩, fun _ _ => rfl⟩, fun base _ _ => Lm.chain F T⟩
end
