import PyProof.Rows.All
import Wide.All
import OpenK.AllK
import Wide.FinOn
import HandS.ForMost
import HandS.Deep
import HandS.DictTup
import HandS.TupAny
import HandS.Conv
import HandS.Codes
import HandS.SortRule
import KE.GoesEnum
import KE.GoesMore
import KE.KDictDisplayH
import HandS.Defaults
import HandS.MakeKw
import HandS.SortInts
import HandS.Flow
import HandS.HeadHook2
import HandS.ForExc
import HandS.Head2
import HandS.HeadEnd
import HandS.HeadHook4
import HandS.MakeKwOnly
import PySem.Challenge.RW_pairfloors_k76_runs_both_ways_and_over_t
set_option Elab.async false
set_option linter.all false
set_option maxRecDepth 100000
set_option maxHeartbeats 0
/-! rules that the layer lacks: in over a tuple of data, enumerate over a tuple, items of a dict with tuple keys, {t: v} with a tuple key -/
namespace PF
open PySem PySem.Spec PyProof.Rows L2
section
variable {X : Cx}
def rInTD (K : PySem.W.Frag) : R2 := fun x y H Q => ∃ d ds, Dp K H x d ∧ Dp K H y (.tuple ds) ∧ SeqAt.shaped d = true ∧ SeqAt.shaped (.tuple ds) = true ∧ Q (.bl (ds.any fun z => PyData.eqv z d)) H
theorem op_inTD (hu : X.A.units + 65 < cLine) : OpR X (compareOp .In) (rInTD X.K) := by
  intro pins s σ H x y v u Q I rx ry h
  obtain ⟨d, ds, hd, he, sd, se, q⟩ := h
  obtain ⟨as, r1⟩ := Dp.reads I d x v hd rx
  obtain ⟨bs, r2⟩ := Dp.reads I (.tuple ds) y u he ry
  exact SeqAt.in_tuple_reads r2 r1 (SeqAt.canLay_of_shaped se) (SeqAt.canLay_of_shaped sd) (room_in_shaped sd hu) ⟨.bl _, H, I, rfl, q⟩
end
/-- tuple(a), the written part by a letter (within a comprehension) -/
theorem pe_tupleOfK {X : Cx} {K : PySem.W.Frag} {a : Expr} {ta : TE} {p pos : Pos} (hK : X.K = K) (hg : Gl X "tuple") (hm : X.mg "tuple" = none) (ha : PE X a ta) (na : starEach [a] X.env = (false, eval a X.env) :: starEach [] X.env := by rfl) :
    PE X (.Call (.Name "tuple" p) [a] [] pos) (tThen ta (kTup K)) := by
  subst hK
  exact pe_tupleOf hg hm ha na
theorem pe_fldK {X : Cx} {K : PySem.W.Frag} {e : Expr} {f : Str} {ta : TE} {pos : Pos} (hK : X.K = K) (he : PE X e ta) (hb : attributeBase e f X.env (eval e X.env) = eval e X.env) : PE X (.Attribute e f pos) (tFld K ta f) := by
  subst hK
  exact pe_fld he hb
/-- a op1 b op2 c op3 d, as a test -/
def tChain3 (r r' r'' : R2) (ta tb tc td : TE) : TT := fun σ H Q => ta σ H fun x H1 => tb σ H1 fun y H2 => r x y H2 fun z H3 => ∃ k, z = .bl k ∧
  (if k = true then tc σ H3 fun w H4 => r' y w H4 fun z2 H5 => ∃ k2, z2 = .bl k2 ∧ (if k2 = true then td σ H5 fun v H6 => r'' w v H6 fun z3 H7 => ∃ k3, z3 = .bl k3 ∧ Q k3 H7 else Q false H5) else Q false H3)
theorem pt_chain3 {X : Cx} {a b c d : Expr} {ta tb tc td : TE} {pos : Pos} {op op' op'' : CmpOp} {r r' r'' : R2} (ho : OpR X (compareOp op) r) (ho' : OpR X (compareOp op') r') (ho'' : OpR X (compareOp op'') r'') (ha : PE X a ta) (hb : PE X b tb) (hc : PE X c tc) (hd : PE X d td)
    (hm : lastMarks [op, op', op''] [b, c, d] = false := by with_unfolding_all rfl) : PT X (.Compare a [op, op', op''] [b, c, d] pos) (tChain3 r r' r'' ta tb tc td) := by
  refine ⟨fun pins s σ H Q I h => ?_⟩
  refine isTrue_chain (thn (ha.run pins s σ H _ I h) fun v s1 ⟨x, H1, I1, r1, q1⟩ => test_link (thn (hb.run pins s1 σ H1 _ I1 q1) fun u s2 ⟨y, H2, I2, r2, q2⟩ =>
    thn (ho pins s2 σ H2 x y v u _ I2 r1 r2 q2) fun d s3 ⟨z, H3, I3, r3, k, e, q3⟩ => ?_)) hm
  subst e
  cases r3
  refine wpAny_truthy_bool ?_
  cases k with
  | false => exact ite_ff ⟨H3, I3, q3⟩
  | true =>
    refine ite_tt (test_link (thn (hc.run pins s3 σ H3 _ I3 q3) fun w' s4 ⟨z', H4, I4, r4, q4⟩ => thn (ho' pins s4 σ H4 y z' u w' _ I4 r2 r4 q4) fun d' s5 ⟨z2, H5, I5, r5, k2, e2, q5⟩ => ?_))
    subst e2
    cases r5
    refine wpAny_truthy_bool ?_
    cases k2 with
    | false => exact ite_ff ⟨H5, I5, q5⟩
    | true =>
      refine ite_tt (test_last (thn (hd.run pins s5 σ H5 _ I5 q5) fun w2 s6 ⟨z6, H6, I6, r6, q6⟩ => thn (ho'' pins s6 σ H6 z' z6 w' w2 _ I6 r4 r6 q6) fun d3 s7 ⟨z3, H7, I7, r7, k3, e3, q7⟩ => ?_))
      subst e3
      cases r7
      exact wpAny_truthy_bool ⟨H7, I7, q7⟩
/-! ### enumerate of a tuple -/
def IteT (K : PySem.W.Frag) (a : Addr) : It :=
  ⟨fun i H => ∃ (xs : List V) (x : V), SqT K H a xs ∧ xs[i]? = some x, fun i H v H' => ∃ T x, v = .ref T ∧ H T = none ∧ H' = upd H T (.tup [.int (i : Nat), x]) ∧ ∀ xs, SqT K H a xs → xs[i]? = some x, fun i H => ∃ xs : List V, SqT K H a xs ∧ xs.length ≤ i⟩
theorem meets_enumT {v : Value} {o : Obj} {H : Heap → Prop} (B : Begins v o H) :
    Meets (Builtin.«enumerate.__new__» ⟨[.type "enumerate", v], []⟩) (fun _ R s => H s.heap ∧
      R (.ok (.ret (.ref (s.heap.push o).objs.size))) { s with heap := (s.heap.push o).push { cls := .type "enumerate", data := .fields #[.none, .bool false, .ref s.heap.objs.size, rawInt 0, .none, .none] } }) :=
  .of_wp fun prog w A R s h => by
    obtain ⟨hp, g, d, tk, os⟩ := s; obtain ⟨h1, h⟩ := h
    have hsub := sub_enumerate
    have q1 : ∀ {A' : Around} {E : Value → Shared → Prop} {Q : Value → Shared → Prop}, Q (.ref hp.objs.size) ⟨hp.push o, g, d, tk, os⟩ → wpAny (model prog w) A' (pyIter v) Q E ⟨hp, g, d, tk, os⟩ :=
      fun q => B.iter prog w _ _ ⟨hp, g, d, tk, os⟩ _ h1 q
    wp_walk using q1
    refine wpAny_stack_any fun st => wpAny_pure ?_
    split
    · rename_i c _ _ _ _ _
      cases (c == Value.type "enumerate")
      · wp_walk using q1
        exact ⟨_, rfl, h⟩
      · wp_walk using q1
        exact ⟨_, rfl, h⟩
    · wp_walk using q1
      exact ⟨_, rfl, h⟩
section
variable {prog : Program} {w : World} {A : Around} {E : Value → Shared → Prop} {s : Shared}
theorem call_enumB {v : Value} {o : Obj} {H : Heap → Prop} {Q : Value → Shared → Prop} (B : Begins v o H) (h1 : H s.heap)
    (h : ∀ h', IsEnum h' (s.heap.objs.size + 1) s.heap.objs.size 0 .none → h'.get? s.heap.objs.size = some o → h'.objs.size = s.heap.objs.size + 2 →
      (∀ b o, s.heap.get? b = some o → h'.get? b = some o) → Q (.ref (s.heap.objs.size + 1)) { s with heap := h' }) :
    wpAny (model prog w) A (call (.type "enumerate") [v]) Q E s := by
  refine callType_new F.called_enumerate (by decide) (F.typeCall_enumerate_1 _) (F.newCall_enumerate_1 _) (fun obj => F.args_object_init_2 obj _) F.entry_enumerate_new
    (meets_enumT B) ⟨h1, ?_⟩
  have hz : (s.heap.push o).objs.size = s.heap.objs.size + 1 := Heap.size_push ..
  show _ ∧ _
  rw [hz]
  have he : IsEnum ((s.heap.push o).push { cls := .type "enumerate", data := .fields #[.none, .bool false, .ref s.heap.objs.size, rawInt 0, .none, .none] }) (s.heap.objs.size + 1) s.heap.objs.size 0 .none := by
    have := Heap.get?_push_size (s.heap.push o) (o := { cls := .type "enumerate", data := .fields #[.none, .bool false, .ref s.heap.objs.size, rawInt 0, .none, .none] }) rfl
    rw [hz] at this; exact this
  refine ⟨⟨_, he, rfl⟩, h _ he (Heap.get?_push_of_some _ (Heap.get?_push_size _ B.free)) (by rw [Heap.size_push, hz]) fun b o x => Heap.get?_push_of_some _ (Heap.get?_push_of_some _ x)⟩
end
theorem turn_enumT {P : Program} {w : World} {K : PySem.W.Frag} {elts : List Expr} {kk : Nat} {tpos : Pos} (a e it : Addr) :
    Turn P w K (.Tuple elts kk tpos) (IteT K a) [e, it] e (fun i h => (∃ old, IsEnum h e it ((i : Nat) : Int) old) ∧ h.IsTupleIter it a i ∧ e ≠ it) where
  mem := by simp
  obj := fun i h st b hb => by
    obtain ⟨⟨old, he⟩, ⟨o, ho, hc, hd⟩, _⟩ := st
    have e' : b = e ∨ b = it := by simpa using hb
    rcases e' with z | z
    · rw [z]; exact ⟨_, he, fun v q => nomatch q⟩
    · rw [z]; exact ⟨o, ho, fun v q => by rw [hd] at q; cases q⟩
  keep := fun i h h' st k => let ⟨⟨old, he⟩, hi, hne⟩ := st; ⟨⟨old, k e (by simp) _ he⟩, hi.at fun o q => k it (by simp) o q, hne⟩
  item := by
    intro X hP hw hK hc i pins s σ H E I hf st hg
    subst hP hw hK
    obtain ⟨⟨old, he⟩, hit, hne⟩ := st
    obtain ⟨xs, x, hq, hx⟩ := hg
    obtain ⟨its, rv, p, hz⟩ := I.tuple hq
    obtain ⟨u, hu, ru⟩ := rv.get hx
    have hel : e < s.heap.objs.size := Heap.lt_size he
    have hil : it < s.heap.objs.size := by obtain ⟨_, q, _⟩ := hit; exact Heap.lt_size q
    have hai : a ≠ it := by
      rintro rfl
      obtain ⟨o1, q1, _, d1⟩ := hit
      obtain ⟨o2, q2, _, n2, d2⟩ := p
      rw [q1] at q2
      cases q2
      rw [d1] at d2
      cases d2
    have hae : e ≠ a := by
      rintro rfl
      obtain ⟨o2, q2, c2, n2, d2⟩ := p
      rw [he] at q2
      cases q2
      cases d2
    have hA : X.A.in1.handled = none := I.ok.hd hc
    have D := Draws.tuple (prog := X.prog) (w := X.w) (A := X.A.in1) hA it a hai its.toArray
    refine wpAny_pyNext_enum_itemD D he ⟨hit, p⟩ (by
      have := (List.getElem?_eq_some_iff.mp hu).1
      simpa using this) hne (by simp; exact ⟨hne, hae⟩) fun y h' tk hy ho hst' hT hsz hk => ?_
    have ey : y = u := by
      have h1 : its.toArray[i]? = some y := hy
      rw [List.getElem?_toArray, hu] at h1
      exact (Option.some.inj h1).symm
    subst ey
    refine ⟨_, rfl, wpAny_letOwnedTupleGo_enum (s := { s with heap := h', toks := tk + 1 }) ho fun h'' he' sb => ?_⟩
    have hT2 : h''.get? s.heap.objs.size = some { cls := .type "tuple", data := .seq #[.int i tk, y] } := (sb.2 _ (Nat.ne_of_gt hel)).trans hT
    have new : ObjOk X.prog X.w (upd H s.heap.objs.size (.tup [.int (i : Nat), x])) h'' s.heap.objs.size (.tup [.int (i : Nat), x]) :=
      ⟨by show 2 ≤ sizeLine; decide, [.int i tk, y], .cons ⟨_, rfl⟩ (.cons ru .nil), ⟨_, hT2, rfl, _, rfl⟩⟩
    have I1 : Inv X pins σ (upd H s.heap.objs.size (.tup [.int (i : Nat), x])) { s with heap := h'', toks := tk + 1 } :=
      I.turnedNew (ch := [e, it]) (fun b ob hb q => (sb.2 b (fun z => hb (by simp [z]))).trans (hk b ob (fun z => hb (by simp [z])) (fun z => hb (by simp [z])) q)) hf (Nat.le_refl _) new
    refine ⟨.ref s.heap.objs.size, _, I1, rfl, ⟨_, x, rfl, I.hok.fresh (Nat.le_refl _), rfl, fun ys hy => by rw [I.tuple_inj hy hq]; exact hx⟩, ⟨⟨y, ?_⟩, hst'.1.at fun o q => (sb.2 it (Ne.symm hne)).trans q, hne⟩, fun b hb => ?_⟩
    · have e1 : ((i + 1 : Nat) : Int) = (i : Int) + 1 := by omega
      rw [e1]; exact he'
    · have hb' : b < s.heap.objs.size := by
        have e' : b = e ∨ b = it := by simpa using hb
        rcases e' with z | z
        · rw [z]; exact hel
        · rw [z]; exact hil
      rw [upd_ne (Nat.ne_of_lt hb')]
      exact (hf b hb).1
  done := by
    intro X hP hw hK hc i pins s σ H E I hf st hg
    subst hP hw hK
    obtain ⟨⟨old, he⟩, hit, hne⟩ := st
    obtain ⟨xs, hq, hx⟩ := hg
    obtain ⟨its, rv, p, hz⟩ := I.tuple hq
    obtain ⟨f0, f1, f2, f3, f4, f5⟩ := hf it (by simp)
    have hl := rv.length
    have hai : a ≠ it := by
      rintro rfl
      obtain ⟨o1, q1, _, d1⟩ := hit
      obtain ⟨o2, q2, _, n2, d2⟩ := p
      rw [q1] at q2
      cases q2
      rw [d1] at d2
      cases d2
    have hA : X.A.in1.handled = none := I.ok.hd hc
    have hT : s.TypeIs (.ref e) "enumerate" := ⟨_, he, rfl⟩
    unfold pyNext
    refine wpAny_bind (wpAny_attempt (wpAny_callSpecial?_slot (name := Str.ofString "__next__") hT F.slot_enumerate_next
      (wpAny_call_entry F.slot_enumerate_next hT F.entry_enumerate_next ?_ (F.args_enumerate_next_1 _))))
    show wpAny _ _ (field (.ref e) 2 >>= _) _ _ _
    refine wpAny_bind (wpAny_field he rfl (x := .ref it) rfl ?_)
    refine wpAny_bind (wpAny_nextOf_tuple_end hA hit p (by simp; omega) fun h' x he' hx' => ?_)
    obtain ⟨o, ho, hc⟩ := hx'
    refine wpAny_bind (wpAny_isInstance (T := "StopIteration") (b := true) ⟨o, ho, hc⟩ isSubtype_stop ?_)
    exact wpAny_pure ⟨rfl, I.turned (t' := s.toks) (fun b o hb q => he' b o hb q) f0 f1 f3 f4 f5⟩
  self := fun A i s Q E st h => let ⟨⟨_, he⟩, _⟩ := st; wpAny_pyIter_enum he h
def iEnumT (K : PySem.W.Frag) (ta : TA) : TI := fun σ H R => ta σ H fun vs H1 => ∃ a xs, vs = [.ref a] ∧ SqT K H1 a xs ∧ R (IteT K a) H1
theorem pi_enumT {X : Cx} {e : Expr} {ta : TA} {p pos tpos : Pos} {elts : List Expr} {kk : Nat} (hg : Gl X "enumerate") (hm : X.mg "enumerate" = none) (ha : PA X [e] ta) (hs : starEach [e] X.env = [(false, eval e X.env)] := by rfl) :
    PI X (.Tuple elts kk tpos) (.Call (.Name "enumerate" p) [e] [] pos) (iEnumT X.K ta) := by
  refine ⟨fun pins s σ H R I h => ?_⟩
  refine Call_ (ld_blt I hg hm boot_enumerate (PyProof.Rows.callWith_type1 (thn (ha.run pos pins s σ H _ I h) fun us s1 ⟨vs, H1, I1, r1, q1⟩ => ?_) hs rfl))
  obtain ⟨a, xs, ex, hq, q⟩ := q1
  subst ex
  cases r1 with
  | cons r rr =>
    cases rr
    cases r
    obtain ⟨its, rv, p', hz⟩ := I1.tuple hq
    refine call_enumB (begins_tuple a its.toArray) p' fun h' he hit hsz hk => wpAny_pyIter_enum he ?_
    have I2 : Inv X pins σ H1 { s1 with heap := h' } := I1.kept (t' := s1.toks) hk
    refine ⟨s1.heap.objs.size + 1, [s1.heap.objs.size + 1, s1.heap.objs.size], _, _, H1, rfl, I2, turn_enumT a (s1.heap.objs.size + 1) s1.heap.objs.size, ⟨⟨.none, he⟩, ⟨_, hit, rfl, rfl⟩, Nat.succ_ne_self _⟩, fun b hb => ?_, q⟩
    have e' : b = s1.heap.objs.size + 1 ∨ b = s1.heap.objs.size := by simpa using hb
    have hle : s1.heap.objs.size ≤ b := by
      rcases e' with z | z
      · rw [z]; exact Nat.le_add_right _ _
      · rw [z]; exact Nat.le_refl _
    exact I1.fpOk hle (I1.hok.fresh hle)
/-! ### items of a dict with tuple keys -/
theorem frzT2 {X : Cx} {pins : List (Addr × Obj)} {σ : L2.St} {H : Hp} {s : Shared} {d : Addr} {o : Obj} {kvs : List (List Key × V)} (I : Inv X pins σ H s) (h : H d = some (.frz o (.dT kvs))) :
    (d == sysModules) = false ∧ s.heap.get? d = some o ∧ o.ExactDict ∧ ∃ (es : Array DictEntry) (ep : Nat), o.data = .dict es ep ∧ es.size = kvs.length ∧
      ∀ (i : Nat) (k : List Key) (v : V), kvs[i]? = some (k, v) → ∃ (en : DictEntry) (q : Addr), es[i]? = some en ∧ en.key = .ref q ∧ H q = some (.tup (k.map kV)) ∧ RelV v en.val := by
  obtain ⟨hd, z, hs, xs, pr, o', es, ep, ho, hx, hdt, he, _⟩ := I.hok d _ h
  rw [hd] at ho
  cases ho
  refine ⟨hs, hd, hx, es, ep, hdt, ?_, fun i k v e => ?_⟩
  · have l1 : es.size = xs.length := size_of_entries he
    have l2 : kvs.length = xs.length := Paired.length pr
    omega
  · obtain ⟨b, hb, e1, e2, e3⟩ := paired_get pr e
    have q := entry_at he i
    rw [hb] at q
    exact ⟨_, b.2.1, q, rfl, e2, e3⟩
def ItiT (d : Addr) (o : Obj) (kvs : List (List Key × V)) : It :=
  ⟨fun i H => H d = some (.frz o (.dT kvs)) ∧ i < kvs.length, fun i H x H' => ∃ T k v q, kvs[i]? = some (k, v) ∧ x = .ref T ∧ H T = none ∧ H q = some (.tup (k.map kV)) ∧ H' = upd H T (.tup [.ref q, v]), fun i H => H d = some (.frz o (.dT kvs)) ∧ kvs.length ≤ i⟩
theorem turn_itemsT {P : Program} {w : World} {K : PySem.W.Frag} {d : Addr} {o : Obj} {es : Array DictEntry} {ep : Nat} {kvs : List (List Key × V)} {elts : List Expr} {kk : Nat} {tpos : Pos} (it : Addr) (hod : o.data = .dict es ep) :
    Turn P w K (.Tuple elts kk tpos) (ItiT d o kvs) [it] it (fun i h => ∃ ok ov, IsItemIter h it d i kvs.length ep ok ov) where
  mem := by simp
  obj := fun i h st b hb => by
    have e : b = it := by simpa using hb
    subst e
    obtain ⟨ok, ov, e⟩ := st
    exact ⟨_, e, fun v z => nomatch z⟩
  keep := fun i h h' st k => let ⟨ok, ov, e⟩ := st; ⟨ok, ov, k it (by simp) _ e⟩
  item := by
    intro X hP hw hK hc i pins s σ H E I hf st hg
    subst hP hw hK
    obtain ⟨hd, hi⟩ := hg
    obtain ⟨hs, hgd, hx, es', ep', hdt, hsz, ent⟩ := frzT2 I hd
    obtain ⟨rfl, rfl⟩ := dict_ep hod hdt
    obtain ⟨⟨k, v⟩, hkv⟩ : ∃ p, kvs[i]? = some p := ⟨kvs[i], List.getElem?_eq_getElem hi⟩
    obtain ⟨en, q, hen, hkey, hq, ru⟩ := ent i k v hkv
    obtain ⟨ok, ov, he⟩ := st
    rw [← hsz] at he
    have hlt : it < s.heap.objs.size := Heap.lt_size he
    obtain ⟨hie, hen2⟩ := Array.getElem?_eq_some_iff.mp hen
    refine DT.nextI he ⟨o, hgd, hx, hdt⟩ hie fun h' ho hT hz hk => ?_
    rw [hen2, hkey] at ho hT
    refine ⟨_, rfl, wpAny_letOwnedTupleGo_items (s := { s with heap := h' }) ho fun h'' he' sb => ?_⟩
    have hT2 : h''.get? s.heap.objs.size = some { cls := .type "tuple", data := .seq #[.ref q, en.val] } := (sb.2 _ (Nat.ne_of_gt hlt)).trans hT
    have new : ObjOk X.prog X.w (upd H s.heap.objs.size (.tup [.ref q, v])) h'' s.heap.objs.size (.tup [.ref q, v]) :=
      ⟨by show 2 ≤ sizeLine; decide, [.ref q, en.val], .cons rfl (.cons ru .nil), ⟨_, hT2, rfl, _, rfl⟩⟩
    have I1 : Inv X pins σ (upd H s.heap.objs.size (.tup [.ref q, v])) { s with heap := h'' } :=
      I.turnedNew (t' := s.toks) (ch := [it]) (fun b ob hb e => (sb.2 b (by simpa using hb)).trans (hk b ob (by simpa using hb) e)) hf (Nat.le_refl _) new
    refine ⟨.ref s.heap.objs.size, _, I1, rfl, ⟨_, k, v, q, hkv, rfl, I.hok.fresh (Nat.le_refl _), hq, rfl⟩, ⟨.ref q, en.val, ?_⟩, fun b hb => ?_⟩
    · rw [← hsz]; exact he'
    · have e : b = it := by simpa using hb
      rw [e, upd_ne (Nat.ne_of_lt hlt)]
      exact (hf it (by simp)).1
  done := by
    intro X hP hw hK hc i pins s σ H E I hf st hg
    subst hP hw hK
    obtain ⟨hd, hi⟩ := hg
    obtain ⟨f0, f1, f2, f3, f4, f5⟩ := hf it (by simp)
    obtain ⟨hs, hgd, hx, es', ep', hdt, hsz, ent⟩ := frzT2 I hd
    obtain ⟨rfl, rfl⟩ := dict_ep hod hdt
    obtain ⟨ok, ov, he⟩ := st
    rw [← hsz] at he
    exact DT.endI (I.ok.hd hc) he ⟨o, hgd, hx, hdt⟩ (by omega) fun h' eb => ⟨rfl, I.turned (t' := s.toks) (fun b ob hb e => eb b ob hb e) f0 f1 f3 f4 f5⟩
  self := fun A i s Q E st h => let ⟨_, _, e⟩ := st; PySem.W.kcp_self e h
def iItemsT (td : TE) : TI := fun σ H R => td σ H fun x H1 => ∃ d o kvs, x = .ref d ∧ H1 d = some (.frz o (.dT kvs)) ∧ R (ItiT d o kvs) H1
theorem pi_itemsT {X : Cx} {e : Expr} {td : TE} {apos cpos : Pos} {elts : List Expr} {kk : Nat} {tpos : Pos} (he : PE X e td) (hbase : attributeBase e "items" X.env (eval e X.env) = eval e X.env := by rfl) (hline : (apos.endLine == cpos.line) = true := by rfl) :
    PI X (.Tuple elts kk tpos) (.Call (.Attribute e "items" apos) [] [] cpos) (iItemsT td) := by
  refine ⟨fun pins s σ H R I h => ?_⟩
  refine wpAny_Call_method (T := "dict") (id := "dict.items") hbase rfl hline F.plainAttrs_dict F.slot_dict_items F.type_dict_items (thn (he.run pins s σ H _ I h) fun u s1 ⟨x, H1, I1, rx, d, o, kvs, ex, hd, q⟩ => ?_)
  subst ex
  obtain rfl : u = Value.ref d := rx
  obtain ⟨hs, hgd, hx, es, ep, hdt, hsz, ent⟩ := frzT2 I1 hd
  have hm : DT.Raw s1.heap d es ep := ⟨o, hgd, hx, hdt⟩
  refine ⟨hm.typeIs, fun b z => (by cases z; exact ⟨o, hgd, hx.2.1⟩), ?_⟩
  have I2 : Inv X pins σ H1 { s1 with heap := s1.heap.push { cls := .type "dict_items", data := .fields #[.ref d] } } := I1.kept (t' := s1.toks) fun b ob q => Heap.get?_push_of_some _ q
  have fin : wpAny (model X.prog X.w) X.A (pyIter (.ref s1.heap.objs.size)) (PIE X pins σ (.Tuple elts kk tpos) R) X.xe { s1 with heap := s1.heap.push { cls := .type "dict_items", data := .fields #[.ref d] } } := by
    refine DT.iterI (d := d) (es := es) (ep := ep) ⟨_, Heap.get?_push_size _ rfl, rfl, rfl⟩ (hm.push _) (pi_one (tk := s1.toks) I2 _ (turn_itemsT _ hdt) ⟨.none, .none, ?_⟩ q)
    rw [← hsz]
    exact Heap.get?_push_size _ rfl
  show wpAny _ _ (callWith cpos (.builtin "dict.items") [.ref d] [] []) _ X.xe s1
  exact method_meetsIn F.slot_dict_items F.entry_dict_items rfl (PySem.evalArgs_none ⟨rfl, hm.typeIs, F.args_dict_items_1 _, _, DT.meetsItems (es := es) (ep := ep) hs, hm, fin⟩)
/-! ### {t: v}, t a tuple of ints and texts -/
def tDispT (tk tv : TE) : TE := fun σ H Q => ∀ p, H p = none → tk σ (upd H p (.dT [])) fun x H1 => tv σ H1 fun y H2 => H2 p = some (.dT []) ∧ ∃ (k : List Key) (b : Addr), x = .ref b ∧ H2 b = some (.tup (k.map kV)) ∧ Q (.ref p) (upd H2 p (.dT [(k, y)]))
theorem pe_dispT {X : Cx} {pos : Pos} {k v : Expr} {tk tv : TE} (hu : X.A.units + 1 < cLine) (hk : PE X k tk) (hv : PE X v tv) : PE X (.Dict [some k] [v] pos) (tDispT tk tv) := by
  refine ⟨fun pins s σ H Q I q => ?_⟩
  have hn := I.hok.fresh (Nat.le_refl s.heap.objs.size)
  have I1 := I.laid (a := s.heap.objs.size) (o := .dT []) (h' := s.heap.push { cls := .type "dict", data := .dict #[] }) (t' := s.toks) (fun _ _ q => Heap.get?_push_of_some _ q) (Nat.le_refl _) (dt_empty s.heap I.big)
  rw [arm_eval_Dict, zip_pairTrees [some k] [v] X.env pos rfl rfl, dictDisplay_pairs (pairTrees [some k] [v] X.env pos) (fun z => nomatch z) (by show 1 < 17; decide)]
  refine wpAny_bind (wpAny_standAt (wpAny_bind (wpAny_subDictH (knd := tupleKind (mixKind X.prog X.w)) (Q := fun d s' => wpAny (model X.prog X.w) X.A (pure (Value.ref d)) (EP X pins σ Q) X.xe s') (show X.A.units < cLine from Nat.lt_of_succ_lt hu) (by show 1 ≤ 15; decide) ?_)))
  refine pairTrees_cons_walk (thn (hk.run pins _ σ _ _ I1 (q _ hn)) fun u s1 ⟨x, H1, I1', rx, q1⟩ => thn (hv.run pins s1 σ H1 _ I1' q1) fun w2 s2 ⟨y, H2, I2, ry, e, kk, b, ex, hb, q2⟩ => pairTrees_nil_walk ?_)
  subst ex
  obtain rfl : u = Value.ref b := rx
  obtain ⟨z, hd, xs, rel2, dd⟩ := dt_of I2.hok e
  cases rel2
  refine ⟨[(kk, b, w2)], ⟨rfl, rfl, key_of I2.hok hb, trivial⟩, dd, fun h' tk' dd' hs => wpAny_pure ?_⟩
  obtain ⟨oq, es, ep, hq, h2, h3, h4, _, h5⟩ := (show h'.DictOfH (tupleKind (mixKind X.prog X.w)) s.heap.objs.size [(kk, b, w2)] from dd')
  refine ⟨.ref s.heap.objs.size, upd H2 s.heap.objs.size (.dT [(kk, y)]), d_write (ob := .dT [(kk, y)]) (t' := tk') I2 (by rw [e]; exact True.intro) hs ⟨oq, hq⟩ ⟨by show 1 ≤ sizeLine; decide, hd, [(kk, b, w2)], .cons ⟨rfl, ?_, ry⟩ .nil, oq, es, ep, hq, h2, h3, h4, h5⟩, rfl, q2⟩
  have hb' : H2 b = some (.tup (kk.map kV)) := hb
  show upd H2 s.heap.objs.size (.dT [(kk, y)]) b = some (.tup (kk.map kV))
  rw [upd_ne (ne_of hb' e (fun z => nomatch z))]
  exact hb'
end PF
/-! the walk's own words: a def's body, data by value, heaps -/
namespace PF
open PySem PySem.Spec PyProof.Rows L2
open C8 (Cal Mak Met pe_c pe_mk pe_gc pe_mt pe_mt0)
abbrev Stt := L2.St
theorem hu65 {X : Around} {k : Nat} (hr : Room k X) : X.units + 65 < cLine := by have := hr.un; omega
section
variable (P : Program) (w : World) (K : PySem.W.Frag) (mg : Str → Option Value) (base : Heap)
/-- a def's body keeps the promise -/
def BodyOk (k : Nat) (x : Str) (st : Stmt) (N : List Str) (sp : Sp) : Prop := ∀ (f : Addr) (cdv : Value) (A : Around) (outer : List Env) (s : Shared) (H : Hp) (vs : List V) (Q : VK) (E : XK), Room k (A.deeper (envOfC x (defScope st) s.heap.objs.size f cdv)) → sp vs H Q E →
  ∃ t, PSs (cxOf CX0 P w K mg base N x (defScope st) f cdv A outer s H E).nox (defBody st) t ∧ t { nx := fun _ H' => Q .non H', rt := Q } (start N vs) H
end
section
variable {P : Program} {w : World} {K : PySem.W.Frag} {mg : Str → Option Value} {base : Heap}
theorem BodyOk.cal {x : Str} {st : Stmt} {f : Addr} {fd : FuncData} {N ps : List Str} {k : Nat} {sp : Sp} (B : BodyOk P w K mg base k x st N sp) (F : FunD K x x (defArgs st) (defBody st) (defScope st) [] [] f fd) (hm : mg x = some (.ref f)) (S : FnScope N ps (defScope st)) (hb : Binds K fd ps [])
    (len : ∀ vs H Q E, sp vs H Q E → vs.length = ps.length) : Cal P w K mg base (k + 1) x sp [] :=
  ⟨f, fd, ps, [], F.ok S len fun cdv A outer s H vs Q E hr h => (let ⟨t, ht, q⟩ := B f cdv A outer s H vs Q E hr h; ⟨t, ht.nox, q⟩), hm, F.kp, hb, .nil⟩
end
/-- a class called with keywords -/
structure MakK (P : Program) (w : World) (K : PySem.W.Frag) (mg : Str → Option Value) (base : Heap) (k : Nat) (x : Str) (C : Addr) (sp : Sp) (n : Nat) (ks : List Str) (gV : List V → List V → List V) : Prop where
  ex : ∃ (f : Addr) (fd : FuncData) (ps : List Str) (g : List Value → List Value → List Value), Mk K C f ∧ FnOk P w K mg base CX0 k f fd ps sp ∧ mg x = some (.ref C) ∧ KBn K fd ps (n + 1) ks g gV
theorem pe_mkK {X : Cx} {k j n : Nat} {C : Addr} {x : Str} {sp : Sp} {ks : List Str} {gV : List V → List V → List V} {p pos : Pos} {e : Expr} {es : List Expr} {kws : List Keyword} {t tk : TA} (c : MakK X.prog X.w X.K X.mg X.base k x C sp n ks gV) (hr : Room j X.A) (hk : k + 1 ≤ j) (hg : Gl X x)
    (ha : PA X (e :: es) t) (hkw : PK X kws tk) (hall : (backToKw pos (keywordEach kws X.env)).all (·.1.isSome) = true := by rfl) (hks : (backToKw pos (keywordEach kws X.env)).filterMap (·.1) = ks := by rfl)
    (hdb : (x == ("__debug__" : Str)) = false := by decide) (he : starEach (e :: es) X.env = (false, eval e X.env) :: starEach es X.env := by rfl)
    (hpl : ((backTo pos (starEach (e :: es) X.env)).any (·.1) || (backToKw pos (keywordEach kws X.env)).any (·.1.isNone)) = false := by rfl) :
    PE X (.Call (.Name x p) (e :: es) kws pos) (tMakeN C n ks.length sp gV E0 t tk) := by
  obtain ⟨f, fd, ps, g, M, F, hm, b⟩ := c.ex
  exact pe_makeN M F (hr.mono hk) hg hm b pass0 ha hkw hall hks hdb he hpl
end PF
/-! plain mathematics of floors, deeds, numbers, distances, counts of runs -/
namespace PFM
/-- a world, as data -/
structure WD where
  size : Nat
  links : List (Nat × Nat)
  coats : Nat
  table : List (Nat × Nat)
def at0 (fl : List Nat) (x : Nat) : Nat := fl.getD x 0
def chg (tb : List (Nat × Nat)) (p r : Nat) : Bool := decide ((min p r, max p r) ∈ tb)
def doneM (fl : List Nat) (x y c : Nat) : List Nat := fl.mapIdx fun i w => if i = x ∨ i = y then c else w
/-- the deeds at one link -/
def deedsAt (W : WD) (fl : List Nat) (l : Nat × Nat) : List (Nat × Nat × Nat) :=
  if at0 fl l.1 = at0 fl l.2 then ((List.range W.coats).filter fun c => chg W.table (at0 fl l.1) c).map fun c => (l.1, l.2, c) else []
def deedsM (W : WD) (fl : List Nat) : List (Nat × Nat × Nat) := W.links.flatMap (deedsAt W fl)
def doD (fl : List Nat) (d : Nat × Nat × Nat) : List Nat := doneM fl d.1 d.2.1 d.2.2
def numM (coats : Nat) (fl : List Nat) : Nat := fl.foldl (fun n c => n * coats + c) 0
def cntM (W : WD) : Nat := W.coats ^ W.size
/-- a floor of the world -/
def FlOK (W : WD) (fl : List Nat) : Prop := fl.length = W.size ∧ ∀ c ∈ fl, c < W.coats
/-- strictly ascending pairs -/
def ltP (p q : Nat × Nat) : Prop := p.1 < q.1 ∨ (p.1 = q.1 ∧ p.2 < q.2)
structure WOK (W : WD) : Prop where
  s1 : 1 ≤ W.size
  s40 : W.size ≤ 40
  l160 : W.links.length ≤ 160
  lk : ∀ l ∈ W.links, l.1 < l.2 ∧ l.2 < W.size
  lasc : W.links.Pairwise ltP
  c2 : 2 ≤ W.coats
  c6 : W.coats ≤ 6
  tb : ∀ p ∈ W.table, p.1 < p.2 ∧ p.2 < W.coats
  tasc : W.table.Pairwise ltP
  small : cntM W ≤ 20000
theorem at0_lt {W : WD} {fl : List Nat} (h : FlOK W fl) {x : Nat} (hx : x < W.size) (hc : 0 < W.coats) : at0 fl x < W.coats := by
  unfold at0
  rw [List.getD_eq_getElem?_getD]
  cases e : fl[x]? with
  | none => exact hc
  | some c => exact h.2 c (List.mem_of_getElem? e)
theorem doneM_len (fl : List Nat) (x y c : Nat) : (doneM fl x y c).length = fl.length := by simp [doneM]
theorem doneM_get (fl : List Nat) (x y c i : Nat) : (doneM fl x y c)[i]? = (fl[i]?).map fun w => if i = x ∨ i = y then c else w := by simp [doneM]
theorem at0_done {fl : List Nat} {x y c i : Nat} (hi : i < fl.length) : at0 (doneM fl x y c) i = if i = x ∨ i = y then c else at0 fl i := by
  unfold at0
  rw [List.getD_eq_getElem?_getD, List.getD_eq_getElem?_getD, doneM_get, List.getElem?_eq_getElem hi]
  rfl
theorem ext_at0 {f g : List Nat} (hl : f.length = g.length) (h : ∀ i, i < f.length → at0 f i = at0 g i) : f = g := by
  refine List.ext_getElem hl fun i h1 h2 => ?_
  have := h i h1
  simp only [at0, List.getD_eq_getElem?_getD, List.getElem?_eq_getElem h1, List.getElem?_eq_getElem h2, Option.getD_some] at this
  exact this
theorem chg_comm (tb : List (Nat × Nat)) (p r : Nat) : chg tb p r = chg tb r p := by
  unfold chg
  rw [Nat.min_comm, Nat.max_comm]
theorem chg_ne {W : WD} (k : WOK W) {p r : Nat} (h : chg W.table p r = true) : p ≠ r := by
  intro e
  subst e
  have h1 := of_decide_eq_true h
  have := (k.tb _ h1).1
  simp at this
theorem mem_deedsM {W : WD} {fl : List Nat} {d : Nat × Nat × Nat} : d ∈ deedsM W fl ↔ (d.1, d.2.1) ∈ W.links ∧ at0 fl d.1 = at0 fl d.2.1 ∧ d.2.2 < W.coats ∧ chg W.table (at0 fl d.1) d.2.2 = true := by
  unfold deedsM
  rw [List.mem_flatMap]
  constructor
  · rintro ⟨l, hl, h⟩
    unfold deedsAt at h
    split at h
    · rename_i e
      obtain ⟨c, hc, rfl⟩ := List.mem_map.mp h
      obtain ⟨h1, h2⟩ := List.mem_filter.mp hc
      exact ⟨hl, e, List.mem_range.mp h1, h2⟩
    · cases h
  · rintro ⟨h1, h2, h3, h4⟩
    refine ⟨(d.1, d.2.1), h1, ?_⟩
    unfold deedsAt
    rw [if_pos h2]
    exact List.mem_map.mpr ⟨d.2.2, List.mem_filter.mpr ⟨List.mem_range.mpr h3, h4⟩, rfl⟩
theorem FlOK.done {W : WD} {fl : List Nat} (h : FlOK W fl) {x y c : Nat} (hc : c < W.coats) : FlOK W (doneM fl x y c) := by
  refine ⟨by rw [doneM_len]; exact h.1, fun z hz => ?_⟩
  obtain ⟨i, hi, e⟩ := List.mem_iff_getElem.mp hz
  have h2 := doneM_get fl x y c i
  rw [List.getElem?_eq_getElem hi, e] at h2
  rw [doneM_len] at hi
  rw [List.getElem?_eq_getElem hi] at h2
  simp only [Option.map_some, Option.some.injEq] at h2
  rw [h2]
  split
  · exact hc
  · exact h.2 _ (List.getElem_mem hi)
theorem FlOK.doD {W : WD} {fl : List Nat} (h : FlOK W fl) {d : Nat × Nat × Nat} (hd : d ∈ deedsM W fl) : FlOK W (doD fl d) := h.done (mem_deedsM.mp hd).2.2.1
/-- one deed -/
def Step (W : WD) (f g : List Nat) : Prop := ∃ d ∈ deedsM W f, doD f d = g
theorem Step.ok {W : WD} {f g : List Nat} (h : FlOK W f) (s : Step W f g) : FlOK W g := by
  obtain ⟨d, hd, rfl⟩ := s
  exact h.doD hd
/-- the deed back -/
theorem back_deed {W : WD} (k : WOK W) {f : List Nat} (h : FlOK W f) {x y c : Nat} (hd : (x, y, c) ∈ deedsM W f) :
    (x, y, at0 f x) ∈ deedsM W (doneM f x y c) ∧ doneM (doneM f x y c) x y (at0 f x) = f := by
  obtain ⟨h1, h2, h3, h4⟩ := mem_deedsM.mp hd
  obtain ⟨l1, l2⟩ := k.lk _ h1
  simp only at h1 h2 h3 h4 l1 l2
  have hx : x < f.length := by rw [h.1]; omega
  have hy : y < f.length := by rw [h.1]; omega
  have ex : at0 (doneM f x y c) x = c := by rw [at0_done hx]; simp
  have ey : at0 (doneM f x y c) y = c := by rw [at0_done hy]; simp
  refine ⟨mem_deedsM.mpr ⟨h1, by simp only [ex, ey], ?_, ?_⟩, ?_⟩
  · exact at0_lt h (by omega) (by omega)
  · simp only [ex]
    rw [chg_comm]
    exact h4
  · refine ext_at0 (by rw [doneM_len, doneM_len]) fun i hi => ?_
    rw [doneM_len, doneM_len] at hi
    rw [at0_done (by rw [doneM_len]; exact hi), at0_done hi]
    by_cases e : i = x ∨ i = y
    · rw [if_pos e]
      rcases e with rfl | rfl
      · rfl
      · exact h2
    · rw [if_neg e, if_neg e]
theorem Step.symm {W : WD} (k : WOK W) {f g : List Nat} (h : FlOK W f) (s : Step W f g) : Step W g f := by
  obtain ⟨⟨x, y, c⟩, hd, rfl⟩ := s
  obtain ⟨a, b⟩ := back_deed k h hd
  exact ⟨_, a, b⟩
/-- n deeds -/
def Walk (W : WD) : Nat → List Nat → List Nat → Prop
  | 0, f, g => f = g
  | n + 1, f, g => ∃ m, Step W f m ∧ Walk W n m g
theorem Walk.snoc {W : WD} : ∀ {n : Nat} {f g h : List Nat}, Walk W n f g → Step W g h → Walk W (n + 1) f h
  | 0, f, g, h, e, s => by
    have e : f = g := e
    subst e
    exact ⟨h, s, rfl⟩
  | n + 1, f, g, h, ⟨m, s1, w⟩, s => ⟨m, s1, Walk.snoc w s⟩
theorem Walk.unsnoc {W : WD} : ∀ {n : Nat} {f h : List Nat}, Walk W (n + 1) f h → ∃ g, Walk W n f g ∧ Step W g h
  | 0, f, h, ⟨m, s, e⟩ => by
    have e : m = h := e
    subst e
    exact ⟨f, rfl, s⟩
  | n + 1, f, h, ⟨m, s, w⟩ => by
    obtain ⟨g, w2, s2⟩ := Walk.unsnoc w
    exact ⟨g, ⟨m, s, w2⟩, s2⟩
theorem Walk.ok {W : WD} : ∀ {n : Nat} {f g : List Nat}, FlOK W f → Walk W n f g → FlOK W g
  | 0, f, g, h, e => by
    have e : f = g := e
    rw [← e]
    exact h
  | n + 1, f, g, h, ⟨m, s, w⟩ => Walk.ok (s.ok h) w
theorem Walk.symm {W : WD} (k : WOK W) : ∀ {n : Nat} {f g : List Nat}, FlOK W f → Walk W n f g → Walk W n g f
  | 0, f, g, h, e => Eq.symm (show f = g from e)
  | n + 1, f, g, h, ⟨m, s, w⟩ => (Walk.symm k (s.ok h) w).snoc (s.symm k h)
/-- the distance -/
def Dist (W : WD) (f g : List Nat) (n : Nat) : Prop := Walk W n f g ∧ ∀ m, Walk W m f g → n ≤ m
def Reach (W : WD) (f g : List Nat) : Prop := ∃ n, Walk W n f g
theorem Dist.symm {W : WD} (k : WOK W) {f g : List Nat} {n : Nat} (h : FlOK W f) (d : Dist W f g n) : Dist W g f n :=
  ⟨d.1.symm k h, fun m w => d.2 m (w.symm k (d.1.ok h))⟩
theorem Dist.uniq {W : WD} {f g : List Nat} {n m : Nat} (d : Dist W f g n) (e : Dist W f g m) : n = m := Nat.le_antisymm (d.2 m e.1) (e.2 n d.1)
theorem Reach.symm {W : WD} (k : WOK W) {f g : List Nat} (h : FlOK W f) (r : Reach W f g) : Reach W g f := let ⟨n, w⟩ := r; ⟨n, w.symm k h⟩
theorem reach_dist {W : WD} {f g : List Nat} (r : Reach W f g) : ∃ n, Dist W f g n := by
  obtain ⟨n, w⟩ := r
  induction n using Nat.strongRecOn with
  | ind n ih =>
    by_cases h : ∃ m, m < n ∧ Walk W m f g
    · obtain ⟨m, hm, w2⟩ := h
      exact ih m hm w2
    · exact ⟨n, w, fun m w2 => Nat.le_of_not_lt fun z => h ⟨m, z, w2⟩⟩
theorem Walk.app {W : WD} : ∀ {m n : Nat} {f g h : List Nat}, Walk W m f g → Walk W n g h → Walk W (m + n) f h
  | 0, n, f, g, h, e, w => by
    have e : f = g := e
    rw [e, Nat.zero_add]
    exact w
  | m + 1, n, f, g, h, ⟨k, s, w1⟩, w => by
    rw [Nat.succ_add]
    exact ⟨k, s, Walk.app w1 w⟩
theorem snocInd {α : Type} {motive : List α → Prop} (nil : motive []) (snoc : ∀ l c, motive l → motive (l ++ [c])) (l : List α) : motive l := by
  have h : ∀ r : List α, motive r.reverse := by
    intro r
    induction r with
    | nil => exact nil
    | cons c r ih =>
      rw [List.reverse_cons]
      exact snoc _ _ ih
  have := h l.reverse
  rwa [List.reverse_reverse] at this
/-! ### numbers of floors -/
theorem numM_snoc (q : Nat) (fl : List Nat) (c : Nat) : numM q (fl ++ [c]) = numM q fl * q + c := by simp [numM, List.foldl_append]
theorem numM_lt {q : Nat} : ∀ {fl : List Nat}, (∀ c ∈ fl, c < q) → numM q fl < q ^ fl.length := by
  intro fl
  refine snocInd (motive := fun fl => (∀ c ∈ fl, c < q) → numM q fl < q ^ fl.length) (by intro _; simp [numM]) (fun l c ih => ?_) fl
  · intro h
    have h1 := ih fun z hz => h z (by simp [hz])
    have h2 := h c (by simp)
    rw [numM_snoc, List.length_append, List.length_singleton, Nat.pow_succ]
    have : numM q l * q + q ≤ q ^ l.length * q := by
      have := Nat.mul_le_mul_right q (Nat.succ_le_of_lt h1)
      rw [Nat.succ_mul] at this
      exact this
    omega
theorem numM_inj {q : Nat} : ∀ {f : List Nat} {g : List Nat}, f.length = g.length → (∀ c ∈ f, c < q) → (∀ c ∈ g, c < q) → numM q f = numM q g → f = g := by
  intro f
  refine snocInd (motive := fun f => ∀ {g : List Nat}, f.length = g.length → (∀ c ∈ f, c < q) → (∀ c ∈ g, c < q) → numM q f = numM q g → f = g) (by intro g hl _ _ _; exact (List.length_eq_zero_iff.mp (by simpa using hl.symm)).symm) (fun l c ih => ?_) f
  · intro g hl hf hg e
    rcases List.eq_nil_or_concat g with rfl | ⟨l2, c2, rfl⟩
    · simp at hl
    · rw [List.concat_eq_append] at *
      rw [numM_snoc, numM_snoc] at e
      have h1 := hf c (by simp)
      have h2 := hg c2 (by simp)
      have hq : 0 < q := by omega
      have e1 : (numM q l * q + c) / q = (numM q l2 * q + c2) / q := by rw [e]
      rw [Nat.mul_comm, Nat.mul_add_div hq, Nat.div_eq_of_lt h1, Nat.mul_comm (numM q l2), Nat.mul_add_div hq, Nat.div_eq_of_lt h2] at e1
      have e2 : numM q l = numM q l2 := by omega
      have e3 : l = l2 := ih (by simpa using hl) (fun z hz => hf z (by simp [hz])) (fun z hz => hg z (by simp [hz])) e2
      rw [e2] at e
      have e4 : c = c2 := by omega
      rw [e3, e4]
theorem FlOK.num_lt {W : WD} {f : List Nat} (h : FlOK W f) : numM W.coats f < cntM W := by
  have := numM_lt h.2
  rw [h.1] at this
  exact this
theorem FlOK.num_inj {W : WD} {f g : List Nat} (h : FlOK W f) (h2 : FlOK W g) (e : numM W.coats f = numM W.coats g) : f = g := numM_inj (h.1.trans h2.1.symm) h.2 h2.2 e
end PFM
namespace PFM
/-- the cells near x, in the order of the links; ascending -/
def rowM (ls : List (Nat × Nat)) (x : Nat) : List Nat := ls.flatMap fun l => (if l.1 = x then [l.2] else []) ++ (if l.2 = x then [l.1] else [])
def nearL (ls : List (Nat × Nat)) (x : Nat) : List Nat := (rowM ls x).mergeSort fun a b => decide (a ≤ b)
theorem nearL_sorted (ls : List (Nat × Nat)) (x : Nat) : (nearL ls x).Pairwise (· ≤ ·) := by
  have h := List.pairwise_mergeSort (le := fun a b : Nat => decide (a ≤ b)) (fun a b c h1 h2 => by simp at *; omega) (fun a b => by simp; omega) (rowM ls x)
  exact h.imp fun h => of_decide_eq_true h
theorem nearL_perm (ls : List (Nat × Nat)) (x : Nat) : (nearL ls x).Perm (rowM ls x) := List.mergeSort_perm _ _
theorem sorted_uniq {l m : List Int} (p : l.Perm m) (h1 : l.Pairwise (· ≤ ·)) (h2 : m.Pairwise (· ≤ ·)) : l = m :=
  List.Perm.eq_of_pairwise (fun a b _ _ h3 h4 => Int.le_antisymm h3 h4) h1 h2 p
theorem near_of {ls : List (Nat × Nat)} {x : Nat} {ns : List Int} (p : ns.Perm ((rowM ls x).map fun (n : Nat) => (n : Int))) (h : ns.Pairwise (· ≤ ·)) : ns = (nearL ls x).map fun (n : Nat) => (n : Int) := by
  refine sorted_uniq (p.trans ((nearL_perm ls x).map _).symm) h ?_
  rw [List.pairwise_map]
  exact (nearL_sorted ls x).imp fun h => by omega
end PFM
/-! the search by rounds -/
namespace PFM
/-- what is told of the floor g -/
def dv (W : WD) (told : List Int) (g : List Nat) : Int := told.getD (numM W.coats g) (-1)
theorem dv_set {W : WD} {told : List Int} {b g : List Nat} {x : Int} (hb : FlOK W b) (hg : FlOK W g) (hl : told.length = cntM W) : dv W (told.set (numM W.coats b) x) g = if g = b then x else dv W told g := by
  unfold dv
  rw [List.getD_eq_getElem?_getD, List.getD_eq_getElem?_getD]
  by_cases h : g = b
  · subst h
    rw [if_pos rfl, List.getElem?_set_self (by rw [hl]; exact hb.num_lt)]
    rfl
  · rw [if_neg h, List.getElem?_set_ne fun e => h (hg.num_inj hb e.symm)]
structure BI (W : WD) (f : List Nat) (told : List Int) (q : List (List Nat)) (a : Nat) (part : List (Nat × Nat × Nat)) : Prop where
  len : told.length = cntM W
  cnt : told.count (-1) + q.length = cntM W
  ok : ∀ g ∈ q, FlOK W g
  mem : ∀ g, FlOK W g → (dv W told g = -1 ↔ g ∉ q)
  val : ∀ g ∈ q, ∃ n : Nat, dv W told g = n ∧ Walk W n f g ∧ n < q.length
  st : f ∈ q ∧ dv W told f = 0
  proc : ∀ i u, i < a → q[i]? = some u → ∀ v, Step W u v → v ∈ q ∧ dv W told v ≤ dv W told u + 1
  cur : ∀ u, q[a]? = some u → ∀ d ∈ part, doD u d ∈ q ∧ dv W told (doD u d) ≤ dv W told u + 1
  mono : ∀ (i j : Nat) u v, i ≤ j → q[i]? = some u → q[j]? = some v → dv W told u ≤ dv W told v
  near : ∀ u v, q[a]? = some u → v ∈ q → dv W told v ≤ dv W told u + 1
theorem BI.init {W : WD} {f : List Nat} (h : FlOK W f) (hpos : 0 < cntM W) : BI W f ((List.replicate (cntM W) (-1)).set (numM W.coats f) 0) [f] 0 [] := by
  have hl : (List.replicate (cntM W) (-1 : Int)).length = cntM W := List.length_replicate
  have d0 : ∀ g, FlOK W g → dv W (List.replicate (cntM W) (-1)) g = -1 := fun g hg => by
    unfold dv
    rw [List.getD_eq_getElem?_getD, List.getElem?_replicate, if_pos hg.num_lt]
    rfl
  have df : dv W ((List.replicate (cntM W) (-1)).set (numM W.coats f) 0) f = 0 := by rw [dv_set h h hl, if_pos rfl]
  refine ⟨by rw [List.length_set, hl], ?_, fun g hg => ?_, fun g hg => ?_, fun g hg => ?_, ⟨by simp, df⟩, fun i u hi => by omega, fun u _ d hd => by simp at hd, fun i j u v hij hu hv => ?_, fun u v hu hv => ?_⟩
  · have hi : numM W.coats f < (List.replicate (cntM W) (-1 : Int)).length := by rw [hl]; exact h.num_lt
    rw [List.count_set hi]
    simp
    omega
  · rw [List.mem_singleton.mp hg]
    exact h
  · rw [dv_set h hg hl]
    by_cases e : g = f
    · rw [if_pos e]
      simp [e]
    · rw [if_neg e, d0 g hg]
      simp [e]
  · rw [List.mem_singleton.mp hg, df]
    exact ⟨0, rfl, rfl, by simp⟩
  · have e1 : u = f := by
      have := List.mem_of_getElem? hu
      exact List.mem_singleton.mp this
    have e2 : v = f := by
      have := List.mem_of_getElem? hv
      exact List.mem_singleton.mp this
    rw [e1, e2]
    exact Int.le_refl _
  · have e1 : u = f := List.mem_singleton.mp (List.mem_of_getElem? hu)
    have e2 : v = f := List.mem_singleton.mp hv
    rw [e1, e2]
    omega
/-- a deed to a floor that is told already -/
theorem BI.old {W : WD} {f : List Nat} {told : List Int} {q : List (List Nat)} {a : Nat} {part : List (Nat × Nat × Nat)} {u : List Nat} {d : Nat × Nat × Nat} (B : BI W f told q a part) (hu : q[a]? = some u) (hd : d ∈ deedsM W u) (ht : dv W told (doD u d) ≠ -1) :
    BI W f told q a (part ++ [d]) := by
  have hok : FlOK W (doD u d) := (B.ok u (List.mem_of_getElem? hu)).doD hd
  have hm : doD u d ∈ q := by
    by_cases e : doD u d ∈ q
    · exact e
    · exact absurd ((B.mem _ hok).mpr e) ht
  refine ⟨B.len, B.cnt, B.ok, B.mem, B.val, B.st, B.proc, fun u' hu' d' hd' => ?_, B.mono, B.near⟩
  rcases List.mem_append.mp hd' with h | h
  · exact B.cur u' hu' d' h
  · rw [List.mem_singleton.mp h]
    rw [hu] at hu'
    cases hu'
    exact ⟨hm, B.near u _ hu hm⟩
/-- a deed to a new one -/
theorem BI.new {W : WD} {f : List Nat} {told : List Int} {q : List (List Nat)} {a : Nat} {part : List (Nat × Nat × Nat)} {u : List Nat} {d : Nat × Nat × Nat} (B : BI W f told q a part) (hu : q[a]? = some u) (hd : d ∈ deedsM W u) (ht : dv W told (doD u d) = -1) :
    BI W f (told.set (numM W.coats (doD u d)) (dv W told u + 1)) (q ++ [doD u d]) a (part ++ [d]) := by
  have hum := List.mem_of_getElem? hu
  have huo := B.ok u hum
  have hok : FlOK W (doD u d) := huo.doD hd
  have hnm : doD u d ∉ q := (B.mem _ hok).mp ht
  have ds : ∀ g, FlOK W g → dv W (told.set (numM W.coats (doD u d)) (dv W told u + 1)) g = if g = doD u d then dv W told u + 1 else dv W told g := fun g hg => dv_set hok hg B.len
  have dold : ∀ g, g ∈ q → dv W (told.set (numM W.coats (doD u d)) (dv W told u + 1)) g = dv W told g := fun g hg => by
    rw [ds g (B.ok g hg), if_neg (show ¬ g = doD u d from fun e => hnm (by rw [← e]; exact hg))]
  have dnew : dv W (told.set (numM W.coats (doD u d)) (dv W told u + 1)) (doD u d) = dv W told u + 1 := by rw [ds _ hok, if_pos rfl]
  obtain ⟨n, hn, wn, bn⟩ := B.val u hum
  have hal : a < q.length := (List.getElem?_eq_some_iff.mp hu).1
  have hqa : ∀ i v, (q ++ [doD u d])[i]? = some v → i < q.length → q[i]? = some v := fun i v h hi => by rwa [List.getElem?_append_left hi] at h
  have hlast : ∀ i v, (q ++ [doD u d])[i]? = some v → (i < q.length ∧ q[i]? = some v) ∨ (i = q.length ∧ v = doD u d) := fun i v h => by
    by_cases hi : i < q.length
    · exact .inl ⟨hi, hqa i v h hi⟩
    · have h2 := (List.getElem?_eq_some_iff.mp h).1
      rw [List.length_append, List.length_singleton] at h2
      have e : i = q.length := by omega
      subst e
      rw [List.getElem?_append_right (Nat.le_refl _), Nat.sub_self] at h
      exact .inr ⟨rfl, (Option.some.inj h).symm⟩
  refine ⟨by rw [List.length_set, B.len], ?_, fun g hg => ?_, fun g hg => ?_, fun g hg => ?_, ⟨List.mem_append.mpr (.inl B.st.1), by rw [dold f B.st.1]; exact B.st.2⟩, fun i x hi hx v sv => ?_, fun x hx d' hd' => ?_, fun i j x v hij hx hv => ?_, fun x v hx hv => ?_⟩
  · have hi : numM W.coats (doD u d) < told.length := by rw [B.len]; exact hok.num_lt
    rw [List.count_set hi, List.length_append, List.length_singleton]
    have e1 : told[numM W.coats (doD u d)] = -1 := by
      unfold dv at ht
      rw [List.getD_eq_getElem?_getD, List.getElem?_eq_getElem hi] at ht
      exact ht
    have e2 : ¬ ((n : Int) + 1 = -1) := by omega
    have e3 : 0 < told.count (-1) := List.count_pos_iff.mpr (e1 ▸ List.getElem_mem hi)
    have := B.cnt
    rw [hn, e1]
    simp [e2]
    omega
  · rcases List.mem_append.mp hg with h | h
    · exact B.ok g h
    · rw [List.mem_singleton.mp h]
      exact hok
  · rw [ds g hg, List.mem_append, List.mem_singleton]
    by_cases e : g = doD u d
    · rw [if_pos e, hn]
      constructor
      · intro z; omega
      · intro z; exact absurd (.inr e) z
    · rw [if_neg e, B.mem g hg]
      constructor
      · rintro z (z2 | z2)
        · exact z z2
        · exact e z2
      · intro z z2
        exact z (.inl z2)
  · rcases List.mem_append.mp hg with h | h
    · rw [dold g h]
      obtain ⟨n', a1, a2, a3⟩ := B.val g h
      exact ⟨n', a1, a2, by rw [List.length_append]; omega⟩
    · rw [List.mem_singleton.mp h, dnew, hn]
      exact ⟨n + 1, by omega, wn.snoc ⟨d, hd, rfl⟩, by rw [List.length_append, List.length_singleton]; omega⟩
  · have hx' := hqa i x hx (by omega)
    obtain ⟨h1, h2⟩ := B.proc i x hi hx' v sv
    exact ⟨List.mem_append.mpr (.inl h1), by rw [dold v h1, dold x (List.mem_of_getElem? hx')]; exact h2⟩
  · have hx' := hqa a x hx hal
    rw [hu] at hx'
    cases hx'
    rcases List.mem_append.mp hd' with h | h
    · obtain ⟨h1, h2⟩ := B.cur u hu d' h
      exact ⟨List.mem_append.mpr (.inl h1), by rw [dold _ h1, dold u hum]; exact h2⟩
    · rw [List.mem_singleton.mp h]
      exact ⟨by simp, by rw [dnew, dold u hum]; exact Int.le_refl _⟩
  · rcases hlast i x hx with ⟨h1, h2⟩ | ⟨h1, h2⟩
    · rcases hlast j v hv with ⟨h3, h4⟩ | ⟨h3, h4⟩
      · rw [dold x (List.mem_of_getElem? h2), dold v (List.mem_of_getElem? h4)]
        exact B.mono i j x v hij h2 h4
      · rw [h4, dnew, dold x (List.mem_of_getElem? h2)]
        exact B.near u x hu (List.mem_of_getElem? h2)
    · rcases hlast j v hv with ⟨h3, h4⟩ | ⟨h3, h4⟩
      · omega
      · rw [h2, h4]
        exact Int.le_refl _
  · have hx' := hqa a x hx hal
    rw [hu] at hx'
    cases hx'
    rw [dold u hum]
    rcases List.mem_append.mp hv with h | h
    · rw [dold v h]
      exact B.near u v hu h
    · rw [List.mem_singleton.mp h, dnew]
      exact Int.le_refl _
/-- all deeds of a floor are done -/
theorem BI.next {W : WD} {f : List Nat} {told : List Int} {q : List (List Nat)} {a : Nat} {u : List Nat} (B : BI W f told q a (deedsM W u)) (hu : q[a]? = some u) : BI W f told q (a + 1) [] := by
  refine ⟨B.len, B.cnt, B.ok, B.mem, B.val, B.st, fun i x hi hx v sv => ?_, fun _ _ d hd => by simp at hd, B.mono, fun x v hx hv => ?_⟩
  · by_cases e : i = a
    · subst e
      rw [hu] at hx
      cases hx
      obtain ⟨d, hd, rfl⟩ := sv
      exact B.cur u hu d hd
    · exact B.proc i x (by omega) hx v sv
  · have h1 := B.near u v hu hv
    have h2 := B.mono a (a + 1) u x (Nat.le_succ a) hu hx
    omega
/-- what far tells -/
def FarSpec (W : WD) (f : List Nat) (told : List Int) : Prop := told.length = cntM W ∧ ∀ g, FlOK W g → (dv W told g = -1 ∧ ¬ Reach W f g) ∨ ∃ n : Nat, dv W told g = n ∧ Dist W f g n ∧ n < cntM W
theorem BI.done {W : WD} {f : List Nat} {told : List Int} {q : List (List Nat)} {a : Nat} {part : List (Nat × Nat × Nat)} (B : BI W f told q a part) (ha : q.length ≤ a) : FarSpec W f told := by
  have key : ∀ (n : Nat) (g : List Nat), Walk W n f g → g ∈ q ∧ dv W told g ≤ n := by
    intro n
    induction n with
    | zero =>
      intro g e
      have e : f = g := e
      subst e
      exact ⟨B.st.1, by rw [B.st.2]; exact Int.le_refl _⟩
    | succ n ih =>
      intro g w
      obtain ⟨m, w1, s⟩ := w.unsnoc
      obtain ⟨h1, h2⟩ := ih m w1
      obtain ⟨i, hi, e⟩ := List.mem_iff_getElem.mp h1
      obtain ⟨h3, h4⟩ := B.proc i m (by omega) (by rw [List.getElem?_eq_getElem hi, e]) g s
      exact ⟨h3, by omega⟩
  refine ⟨B.len, fun g hg => ?_⟩
  by_cases h : g ∈ q
  · obtain ⟨n, hn, w, bn⟩ := B.val g h
    refine .inr ⟨n, hn, ⟨w, fun m w2 => ?_⟩, by have := B.cnt; omega⟩
    have := (key m g w2).2
    omega
  · exact .inl ⟨(B.mem g hg).mpr h, fun ⟨n, w⟩ => h (key n g w).1⟩
end PFM
namespace PFM
theorem FarSpec.near {W : WD} (k : WOK W) {t : List Nat} {told : List Int} (ht : FlOK W t) (F : FarSpec W t told) {here : List Nat} (hh : FlOK W here) {n : Nat} (e : dv W told here = (n + 1 : Nat)) : ∃ d ∈ deedsM W here, dv W told (doD here d) = n := by
  rcases F.2 here hh with ⟨h, _⟩ | ⟨m, hm, D, _⟩
  · rw [h] at e
    omega
  · have em : m = n + 1 := by omega
    subst em
    obtain ⟨g, w, s⟩ := D.1.unsnoc
    have hg : FlOK W g := w.ok ht
    obtain ⟨d, hd, ed⟩ := s.symm k hg
    refine ⟨d, hd, ?_⟩
    rw [ed]
    rcases F.2 g hg with ⟨_, h2⟩ | ⟨j, hj, D2, _⟩
    · exact absurd ⟨n, w⟩ h2
    · have h1 := D2.2 n w
      have h2 := D.2 (j + 1) (D2.1.snoc s)
      rw [hj]
      omega
theorem FarSpec.zero {W : WD} {t : List Nat} {told : List Int} (F : FarSpec W t told) {here : List Nat} (hh : FlOK W here) : dv W told here = 0 ↔ here = t := by
  rcases F.2 here hh with ⟨h, h2⟩ | ⟨m, hm, D, _⟩
  · constructor
    · intro e
      omega
    · rintro rfl
      exact absurd ⟨0, rfl⟩ h2
  · constructor
    · intro e
      have em : m = 0 := by omega
      subst em
      exact Eq.symm (show t = here from D.1)
    · rintro rfl
      have := D.2 0 rfl
      omega
theorem dv_get {W : WD} {told : List Int} {g : List Nat} (hg : FlOK W g) (hl : told.length = cntM W) : told[numM W.coats g]? = some (dv W told g) := by
  unfold dv
  rw [List.getD_eq_getElem?_getD, List.getElem?_eq_getElem (by rw [hl]; exact hg.num_lt)]
  rfl
/-- a run -/
def Run (W : WD) : List Nat → List (Nat × Nat × Nat) → List Nat → Prop
  | f, [], g => f = g
  | f, d :: r, g => d ∈ deedsM W f ∧ Run W (doD f d) r g
theorem Run.snoc {W : WD} : ∀ {r : List (Nat × Nat × Nat)} {f g : List Nat} {d : Nat × Nat × Nat}, Run W f r g → d ∈ deedsM W g → Run W f (r ++ [d]) (doD g d)
  | [], f, g, d, e, h => by
    have e : f = g := e
    subst e
    exact ⟨h, rfl⟩
  | a :: r, f, g, d, ⟨h1, h2⟩, h => ⟨h1, Run.snoc h2 h⟩
theorem Run.walk {W : WD} : ∀ {r : List (Nat × Nat × Nat)} {f g : List Nat}, Run W f r g → Walk W r.length f g
  | [], _, _, e => e
  | d :: r, f, g, ⟨h1, h2⟩ => ⟨doD f d, ⟨d, h1, rfl⟩, Run.walk h2⟩
theorem cnt_pos {W : WD} (k : WOK W) : 0 < cntM W := Nat.pow_pos (by have := k.c2; omega)
end PFM
/-! counts of runs -/
namespace PFM
def sumL {α : Type} (l : List α) (f : α → Nat) : Nat := (l.map f).sum
theorem sumL_nil {α : Type} (f : α → Nat) : sumL [] f = 0 := rfl
theorem sumL_cons {α : Type} (a : α) (l : List α) (f : α → Nat) : sumL (a :: l) f = f a + sumL l f := by simp [sumL]
theorem sumL_app {α : Type} (l m : List α) (f : α → Nat) : sumL (l ++ m) f = sumL l f + sumL m f := by simp [sumL]
theorem sumL_add {α : Type} (l : List α) (f g : α → Nat) : sumL l (fun x => f x + g x) = sumL l f + sumL l g := by
  induction l with
  | nil => rfl
  | cons a l ih => rw [sumL_cons, sumL_cons, sumL_cons, ih]; omega
theorem sumL_mul {α : Type} (l : List α) (f : α → Nat) (k : Nat) : sumL l (fun x => f x * k) = sumL l f * k := by
  induction l with
  | nil => simp [sumL]
  | cons a l ih => rw [sumL_cons, sumL_cons, ih, Nat.add_mul]
theorem sumL_mul' {α : Type} (l : List α) (f : α → Nat) (k : Nat) : sumL l (fun x => k * f x) = k * sumL l f := by
  induction l with
  | nil => simp [sumL]
  | cons a l ih => rw [sumL_cons, sumL_cons, ih, Nat.mul_add]
theorem sumL_congr {α : Type} {l : List α} {f g : α → Nat} (h : ∀ x ∈ l, f x = g x) : sumL l f = sumL l g := by
  induction l with
  | nil => rfl
  | cons a l ih => rw [sumL_cons, sumL_cons, h a (by simp), ih fun x hx => h x (by simp [hx])]
theorem sumL_zero {α : Type} (l : List α) : sumL l (fun _ => 0) = 0 := by
  induction l with
  | nil => rfl
  | cons a l ih => rw [sumL_cons, ih]
theorem sumL_swap {α β : Type} (l : List α) (m : List β) (f : α → β → Nat) : sumL l (fun x => sumL m (f x)) = sumL m (fun y => sumL l (fun x => f x y)) := by
  induction l with
  | nil => exact (sumL_zero m).symm
  | cons a l ih =>
    rw [sumL_cons, ih, ← sumL_add]
    exact sumL_congr fun y _ => (sumL_cons a l (fun x => f x y)).symm
theorem sumL_le {α : Type} {l : List α} {f g : α → Nat} (h : ∀ x ∈ l, f x ≤ g x) : sumL l f ≤ sumL l g := by
  induction l with
  | nil => exact Nat.le_refl _
  | cons a l ih =>
    rw [sumL_cons, sumL_cons]
    have h1 := h a (by simp)
    have h2 := ih fun x hx => h x (by simp [hx])
    omega
theorem sumL_mem_le {α : Type} {l : List α} {f : α → Nat} {x : α} (h : x ∈ l) : f x ≤ sumL l f := by
  induction l with
  | nil => cases h
  | cons a l ih =>
    rw [sumL_cons]
    rcases List.mem_cons.mp h with rfl | h
    · omega
    · have := ih h
      omega
/-- one entry of a list without repetition -/
theorem sumL_one {α : Type} [DecidableEq α] {l : List α} (nd : l.Nodup) {k : α} (hk : k ∈ l) (v : Nat) : sumL l (fun x => if x = k then v else 0) = v := by
  induction l with
  | nil => cases hk
  | cons a l ih =>
    rw [sumL_cons]
    obtain ⟨h1, h2⟩ := List.nodup_cons.mp nd
    by_cases e : a = k
    · subst e
      rw [if_pos rfl, sumL_congr (g := fun _ => 0) (fun x hx => if_neg (show ¬ x = a from fun e => h1 (by rw [← e]; exact hx))), sumL_zero, Nat.add_zero]
    · rw [if_neg e, Nat.zero_add]
      rcases List.mem_cons.mp hk with z | z
      · exact absurd z.symm e
      · exact ih h2 z
/-! ### all floors -/
def allM (q : Nat) : Nat → List (List Nat)
  | 0 => [[]]
  | n + 1 => (allM q n).flatMap fun r => (List.range q).map fun c => r ++ [c]
theorem mem_allM {q : Nat} : ∀ {n : Nat} {f : List Nat}, f ∈ allM q n ↔ f.length = n ∧ ∀ c ∈ f, c < q
  | 0, f => by
    show f ∈ [[]] ↔ _
    rw [List.mem_singleton]
    constructor
    · rintro rfl
      exact ⟨rfl, fun c h => by cases h⟩
    · intro h
      exact List.length_eq_zero_iff.mp h.1
  | n + 1, f => by
    show f ∈ (allM q n).flatMap _ ↔ _
    rw [List.mem_flatMap]
    constructor
    · rintro ⟨r, hr, h⟩
      obtain ⟨c, hc, rfl⟩ := List.mem_map.mp h
      obtain ⟨h1, h2⟩ := mem_allM.mp hr
      refine ⟨by rw [List.length_append, h1]; rfl, fun z hz => ?_⟩
      rcases List.mem_append.mp hz with h | h
      · exact h2 z h
      · rw [List.mem_singleton.mp h]
        exact List.mem_range.mp hc
    · rintro ⟨h1, h2⟩
      rcases List.eq_nil_or_concat f with rfl | ⟨r, c, rfl⟩
      · simp at h1
      · rw [List.concat_eq_append] at *
        rw [List.length_append, List.length_singleton] at h1
        refine ⟨r, mem_allM.mpr ⟨by omega, fun z hz => h2 z (by simp [hz])⟩, List.mem_map.mpr ⟨c, List.mem_range.mpr (h2 c (by simp)), rfl⟩⟩
theorem nodup_allM {q : Nat} : ∀ (n : Nat), (allM q n).Nodup
  | 0 => by simp [allM]
  | n + 1 => by
    show ((allM q n).flatMap fun r => (List.range q).map fun c => r ++ [c]).Nodup
    rw [List.Nodup, List.pairwise_flatMap]
    refine ⟨fun r _ => ?_, (nodup_allM n).imp fun {r s} h x hx y hy => ?_⟩
    · rw [List.pairwise_map]
      refine List.nodup_range.imp fun {a b} h e => h ?_
      have := List.append_cancel_left e
      injection this
    · obtain ⟨c, _, rfl⟩ := List.mem_map.mp hx
      obtain ⟨d, _, rfl⟩ := List.mem_map.mp hy
      intro e
      exact h (List.append_inj_left' e rfl)
abbrev allF (W : WD) : List (List Nat) := allM W.coats W.size
theorem mem_allF {W : WD} {f : List Nat} : f ∈ allF W ↔ FlOK W f := mem_allM
/-- a list of floors without repetition -/
theorem nodup_lt {N : Nat} : ∀ {l : List Nat}, l.Nodup → (∀ x ∈ l, x < N) → l.length ≤ N := by
  induction N with
  | zero =>
    intro l _ h
    cases l with
    | nil => exact Nat.le_refl _
    | cons a l => exact absurd (h a (by simp)) (Nat.not_lt_zero _)
  | succ N ih =>
    intro l nd h
    have h1 := ih (l := l.erase N) (nd.erase N) fun x hx => by
      have h2 := (nd.mem_erase_iff).mp hx
      have h3 := h x h2.2
      have := h2.1
      omega
    have := List.le_length_erase (a := N) (l := l)
    omega
theorem floors_len {W : WD} {l : List (List Nat)} (nd : l.Nodup) (h : ∀ f ∈ l, FlOK W f) : l.length ≤ cntM W := by
  have h1 : (l.map (numM W.coats)).Nodup := by
    rw [List.Nodup, List.pairwise_map]
    exact List.Pairwise.imp_of_mem (fun {a b} ha hb hab e => hab ((h a ha).num_inj (h b hb) e)) nd
  have := nodup_lt (N := cntM W) h1 fun x hx => by
    obtain ⟨f, hf, rfl⟩ := List.mem_map.mp hx
    exact (h f hf).num_lt
  rwa [List.length_map] at this
/-! ### how many deeds lead from f to g -/
def behinds (W : WD) (f : List Nat) : List (List Nat) := (deedsM W f).map (doD f)
def Ac (W : WD) (f g : List Nat) : Nat := (behinds W f).count g
def cw (W : WD) : Nat → List Nat → List Nat → Nat
  | 0, f, g => if f = g then 1 else 0
  | n + 1, f, g => sumL (allF W) fun h => cw W n f h * Ac W h g
theorem nodup_count {l : List Nat} (nd : l.Nodup) {a : Nat} (h : a ∈ l) : l.count a = 1 := by
  induction l with
  | nil => cases h
  | cons b l ih =>
    obtain ⟨h1, h2⟩ := List.nodup_cons.mp nd
    rw [List.count_cons]
    rcases List.mem_cons.mp h with rfl | h
    · rw [List.count_eq_zero.mpr h1]
      simp
    · rw [ih h2 h]
      have : ¬ b = a := fun e => h1 (by rw [e]; exact h)
      simp [this]
/-- the deeds at one link -/
theorem count_at {W : WD} (k : WOK W) {f g : List Nat} (hf : FlOK W f) (hg : FlOK W g) {l : Nat × Nat} (hl : l ∈ W.links) :
    ((deedsAt W f l).map (doD f)).count g = if at0 f l.1 = at0 f l.2 ∧ chg W.table (at0 f l.1) (at0 g l.1) = true ∧ doneM f l.1 l.2 (at0 g l.1) = g then 1 else 0 := by
  obtain ⟨x, y⟩ := l
  obtain ⟨l1, l2⟩ := k.lk _ hl
  simp only at l1 l2
  have hx : x < f.length := by rw [hf.1]; omega
  have hgx : at0 g x < W.coats := at0_lt hg (by omega) (by have := k.c2; omega)
  unfold deedsAt
  simp only
  by_cases h1 : at0 f x = at0 f y
  · rw [if_pos h1, List.map_map]
    have e : ∀ c, (doD f ∘ fun c => (x, y, c)) c = doneM f x y c := fun c => rfl
    rw [List.count_eq_countP, List.countP_map]
    have key : ∀ c, ((fun z => z == g) ∘ (doD f ∘ fun c => (x, y, c))) c = decide (doneM f x y c = g) := fun c => by
      show (doneM f x y c == g) = _
      exact (Bool.beq_eq_decide_eq _ _)
    have only : ∀ c, doneM f x y c = g → c = at0 g x := fun c hc => by
      have : at0 (doneM f x y c) x = at0 g x := by rw [hc]
      rw [at0_done hx] at this
      simpa using this
    rw [List.countP_congr (p := _) (q := fun c => decide (c = at0 g x ∧ doneM f x y (at0 g x) = g)) (fun c _ => by
      rw [key c]
      simp only [decide_eq_true_eq]
      constructor
      · intro h
        have := only c h
        subst this
        exact ⟨rfl, h⟩
      · rintro ⟨rfl, h⟩
        exact h), List.countP_filter]
    by_cases h2 : chg W.table (at0 f x) (at0 g x) = true ∧ doneM f x y (at0 g x) = g
    · rw [if_pos ⟨h1, h2⟩]
      have : (List.range W.coats).countP (fun a => (decide (a = at0 g x ∧ doneM f x y (at0 g x) = g)) && chg W.table (at0 f x) a) = (List.range W.coats).count (at0 g x) := by
        rw [List.count_eq_countP]
        refine List.countP_congr fun c _ => ?_
        simp only [Bool.and_eq_true, decide_eq_true_eq, beq_iff_eq]
        constructor
        · rintro ⟨⟨h, _⟩, _⟩
          exact h
        · rintro rfl
          exact ⟨⟨rfl, h2.2⟩, h2.1⟩
      rw [this]
      exact nodup_count List.nodup_range (List.mem_range.mpr hgx)
    · rw [if_neg fun z => h2 z.2]
      refine List.countP_eq_zero.mpr fun c _ hc => h2 ?_
      simp only [Bool.and_eq_true, decide_eq_true_eq] at hc
      obtain ⟨⟨rfl, h3⟩, h4⟩ := hc
      exact ⟨h4, h3⟩
  · rw [if_neg h1, if_neg fun z => h1 z.1]
    rfl
theorem Ac_eq {W : WD} (k : WOK W) {f g : List Nat} (hf : FlOK W f) (hg : FlOK W g) :
    Ac W f g = sumL W.links fun l => if at0 f l.1 = at0 f l.2 ∧ chg W.table (at0 f l.1) (at0 g l.1) = true ∧ doneM f l.1 l.2 (at0 g l.1) = g then 1 else 0 := by
  have h : ∀ ls : List (Nat × Nat), (∀ l ∈ ls, l ∈ W.links) → ((ls.flatMap (deedsAt W f)).map (doD f)).count g = sumL ls fun l => if at0 f l.1 = at0 f l.2 ∧ chg W.table (at0 f l.1) (at0 g l.1) = true ∧ doneM f l.1 l.2 (at0 g l.1) = g then 1 else 0 := by
    intro ls
    induction ls with
    | nil => intro _; rfl
    | cons l ls ih =>
      intro hs
      rw [List.flatMap_cons, List.map_append, List.count_append, count_at k hf hg (hs l (by simp)), ih fun z hz => hs z (by simp [hz]), sumL_cons]
  exact h W.links fun _ h => h
theorem link_back {W : WD} (k : WOK W) {f g : List Nat} (hf : FlOK W f) {l : Nat × Nat} (hl : l ∈ W.links) (h : at0 f l.1 = at0 f l.2 ∧ chg W.table (at0 f l.1) (at0 g l.1) = true ∧ doneM f l.1 l.2 (at0 g l.1) = g) (hg : FlOK W g) :
    at0 g l.1 = at0 g l.2 ∧ chg W.table (at0 g l.1) (at0 f l.1) = true ∧ doneM g l.1 l.2 (at0 f l.1) = f := by
  obtain ⟨x, y⟩ := l
  obtain ⟨h1, h2, h3⟩ := h
  simp only at h1 h2 h3 ⊢
  obtain ⟨l1, l2⟩ := k.lk _ hl
  simp only at l1 l2
  have hgx : at0 g x < W.coats := at0_lt hg (by omega) (by have := k.c2; omega)
  have hd : (x, y, at0 g x) ∈ deedsM W f := mem_deedsM.mpr ⟨hl, h1, hgx, h2⟩
  obtain ⟨b1, b2⟩ := back_deed k hf hd
  rw [h3] at b1 b2
  obtain ⟨_, c2, _, c4⟩ := mem_deedsM.mp b1
  exact ⟨c2, c4, b2⟩
theorem Ac_symm {W : WD} (k : WOK W) {f g : List Nat} (hf : FlOK W f) (hg : FlOK W g) : Ac W f g = Ac W g f := by
  rw [Ac_eq k hf hg, Ac_eq k hg hf]
  refine sumL_congr fun l hl => ?_
  by_cases h : at0 f l.1 = at0 f l.2 ∧ chg W.table (at0 f l.1) (at0 g l.1) = true ∧ doneM f l.1 l.2 (at0 g l.1) = g
  · rw [if_pos h, if_pos (link_back k hf hl h hg)]
  · rw [if_neg h, if_neg fun z => h (link_back k hg hl z hf)]
theorem cw_one {W : WD} {f g : List Nat} (hf : FlOK W f) : cw W 1 f g = Ac W f g := by
  show sumL (allF W) (fun h => (if f = h then 1 else 0) * Ac W h g) = _
  rw [sumL_congr (g := fun h => if h = f then Ac W f g else 0) (fun h _ => by
    by_cases e : f = h
    · subst e
      rw [if_pos rfl, if_pos rfl, Nat.one_mul]
    · rw [if_neg e, if_neg fun z => e z.symm, Nat.zero_mul])]
  exact sumL_one (nodup_allM _) (mem_allF.mpr hf) _
/-- over the middle -/
theorem cw_add {W : WD} {f : List Nat} (m : Nat) : ∀ (n : Nat) {g : List Nat}, FlOK W g → cw W (m + n) f g = sumL (allF W) fun h => cw W m f h * cw W n h g
  | 0, g, hg => by
    show cw W m f g = sumL (allF W) fun h => cw W m f h * (if h = g then 1 else 0)
    rw [sumL_congr (g := fun h => if h = g then cw W m f g else 0) (fun h _ => by
      by_cases e : h = g
      · subst e
        rw [if_pos rfl, if_pos rfl, Nat.mul_one]
      · rw [if_neg e, if_neg e, Nat.mul_zero])]
    exact (sumL_one (nodup_allM _) (mem_allF.mpr hg) _).symm
  | n + 1, g, hg => by
    show sumL (allF W) (fun x => cw W (m + n) f x * Ac W x g) = sumL (allF W) fun h => cw W m f h * sumL (allF W) fun x => cw W n h x * Ac W x g
    rw [sumL_congr (g := fun x => sumL (allF W) fun h => cw W m f h * (cw W n h x * Ac W x g)) (fun x hx => by
      rw [cw_add m n (mem_allF.mp hx), ← sumL_mul]
      exact sumL_congr fun h _ => Nat.mul_assoc _ _ _), sumL_swap]
    exact sumL_congr fun h _ => sumL_mul' _ _ _
theorem cw_symm {W : WD} (k : WOK W) : ∀ (n : Nat) {f g : List Nat}, FlOK W f → FlOK W g → cw W n f g = cw W n g f
  | 0, f, g, _, _ => by
    show (if f = g then 1 else 0) = if g = f then 1 else 0
    by_cases e : f = g
    · rw [if_pos e, if_pos e.symm]
    · rw [if_neg e, if_neg fun z => e z.symm]
  | n + 1, f, g, hf, hg => by
    have h1 : cw W (n + 1) g f = sumL (allF W) fun h => cw W 1 g h * cw W n h f := by
      rw [Nat.add_comm]
      exact cw_add 1 n hf
    rw [h1]
    show sumL (allF W) (fun h => cw W n f h * Ac W h g) = _
    refine sumL_congr fun h hh => ?_
    have ho := mem_allF.mp hh
    rw [cw_one hg, cw_symm k n hf ho, Ac_symm k ho hg, Nat.mul_comm]
/-! ### a bound -/
theorem sum_Ac {W : WD} {f : List Nat} (B : Nat) (hB : (deedsM W f).length ≤ B) : sumL (allF W) (Ac W f) ≤ B := by
  have h : ∀ l : List (List Nat), sumL (allF W) (fun g => l.count g) ≤ l.length := by
    intro l
    induction l with
    | nil =>
      have e : sumL (allF W) (fun g => List.count g ([] : List (List Nat))) = 0 := by rw [sumL_congr (g := fun _ => 0) (fun _ _ => List.count_nil), sumL_zero]
      rw [e]
      exact Nat.le_refl _
    | cons a l ih =>
      rw [sumL_congr (g := fun g => l.count g + if g = a then 1 else 0) (fun g _ => by
        rw [List.count_cons]
        by_cases e : g = a
        · subst e
          simp
        · rw [if_neg (by simpa using fun z => e z.symm), if_neg e]), sumL_add, List.length_cons]
      by_cases ha : a ∈ allF W
      · rw [sumL_one (nodup_allM _) ha]
        omega
      · rw [sumL_congr (l := allF W) (f := fun g => if g = a then 1 else 0) (g := fun _ => 0) (fun g hg => if_neg (show ¬ g = a from fun e => ha (by rw [← e]; exact hg))), sumL_zero]
        omega
  have := h (behinds W f)
  rw [behinds, List.length_map] at this
  exact Nat.le_trans this hB
theorem cw_sum {W : WD} (B : Nat) (hB : ∀ f, FlOK W f → (deedsM W f).length ≤ B) {f : List Nat} (hf : FlOK W f) : ∀ n : Nat, sumL (allF W) (cw W n f) ≤ B ^ n
  | 0 => by
    show sumL (allF W) (fun g => if f = g then 1 else 0) ≤ 1
    rw [sumL_congr (g := fun g => if g = f then 1 else 0) (fun g _ => by
      by_cases e : f = g
      · rw [if_pos e, if_pos e.symm]
      · rw [if_neg e, if_neg fun z => e z.symm]), sumL_one (nodup_allM _) (mem_allF.mpr hf)]
    exact Nat.le_refl _
  | n + 1 => by
    show sumL (allF W) (fun g => sumL (allF W) fun h => cw W n f h * Ac W h g) ≤ _
    rw [sumL_swap, sumL_congr (g := fun h => cw W n f h * sumL (allF W) (Ac W h)) (fun h _ => sumL_mul' _ _ _)]
    refine Nat.le_trans (sumL_le (g := fun h => cw W n f h * B) fun h hh => Nat.mul_le_mul_left _ (sum_Ac B (hB h (mem_allF.mp hh)))) ?_
    rw [sumL_mul, Nat.pow_succ]
    exact Nat.mul_le_mul_right B (cw_sum B hB hf n)
theorem cw_le {W : WD} (B : Nat) (hB : ∀ f, FlOK W f → (deedsM W f).length ≤ B) {f g : List Nat} (hf : FlOK W f) (hg : FlOK W g) (n : Nat) : cw W n f g ≤ B ^ n := Nat.le_trans (sumL_mem_le (mem_allF.mpr hg)) (cw_sum B hB hf n)
/-! ### a dict of counts -/
def lk {α β : Type} [DecidableEq α] (cs : List (α × β)) (g : α) : Option β := (cs.find? fun p => decide (p.1 = g)).map (·.2)
def valC {α : Type} [DecidableEq α] (cs : List (α × Nat)) (g : α) : Nat := (lk cs g).getD 0
theorem lk_cons {α β : Type} [DecidableEq α] (p : α × β) (cs : List (α × β)) (g : α) : lk (p :: cs) g = if p.1 = g then some p.2 else lk cs g := by
  unfold lk
  rw [List.find?_cons]
  by_cases e : p.1 = g
  · rw [if_pos e, decide_eq_true e]
    rfl
  · rw [if_neg e, decide_eq_false e]
theorem lk_none {α β : Type} [DecidableEq α] {cs : List (α × β)} {g : α} (h : g ∉ cs.map (·.1)) : lk cs g = none := by
  induction cs with
  | nil => rfl
  | cons p cs ih =>
    rw [List.map_cons, List.mem_cons] at h
    rw [lk_cons, if_neg fun e => h (.inl e.symm), ih fun z => h (.inr z)]
theorem sum_dict {α : Type} [DecidableEq α] {l : List α} (nd : l.Nodup) (F : α → Nat) : ∀ {cs : List (α × Nat)}, (cs.map (·.1)).Nodup → (∀ p ∈ cs, p.1 ∈ l) → sumL cs (fun p => p.2 * F p.1) = sumL l fun x => valC cs x * F x
  | [], _, _ => by
    have e : sumL l (fun x => valC ([] : List (α × Nat)) x * F x) = 0 := by
      rw [sumL_congr (g := fun _ => 0) (fun x _ => by
        show 0 * F x = 0
        exact Nat.zero_mul _), sumL_zero]
    rw [e]
    rfl
  | (k, v) :: cs, nk, hm => by
    rw [List.map_cons] at nk
    obtain ⟨h1, h2⟩ := List.nodup_cons.mp nk
    rw [sumL_cons, sum_dict nd F h2 fun p hp => hm p (by simp [hp])]
    rw [sumL_congr (f := fun x => valC ((k, v) :: cs) x * F x) (g := fun x => (if x = k then v * F k else 0) + valC cs x * F x) (fun x _ => by
      unfold valC
      rw [lk_cons]
      by_cases e : x = k
      · subst e
        rw [if_pos rfl, if_pos rfl, lk_none h1]
        simp
      · rw [if_neg e, if_neg fun z => e z.symm, Nat.zero_add]), sumL_add, sumL_one nd (hm (k, v) (by simp))]
end PFM
namespace PFM
section
variable {α β : Type} [DecidableEq α]
def putC (cs : List (α × β)) (g : α) (v : β) : List (α × β) := if (cs.any fun p => decide (p.1 = g)) = true then cs.map (fun p => if p.1 = g then (p.1, v) else p) else cs ++ [(g, v)]
theorem any_key (cs : List (α × β)) (g : α) : (cs.any fun p => decide (p.1 = g)) = true ↔ g ∈ cs.map (·.1) := by
  rw [List.any_eq_true, List.mem_map]
  constructor
  · rintro ⟨p, h, e⟩
    exact ⟨p, h, of_decide_eq_true e⟩
  · rintro ⟨p, h, e⟩
    exact ⟨p, h, decide_eq_true e⟩
theorem lk_app {cs ds : List (α × β)} {g : α} (h : lk cs g = none) : lk (cs ++ ds) g = lk ds g := by
  induction cs with
  | nil => rfl
  | cons p cs ih =>
    rw [lk_cons] at h
    rw [List.cons_append, lk_cons]
    by_cases e : p.1 = g
    · rw [if_pos e] at h
      cases h
    · rw [if_neg e] at h ⊢
      exact ih h
theorem lk_app_some {cs ds : List (α × β)} {g : α} {v : β} (h : lk cs g = some v) : lk (cs ++ ds) g = some v := by
  induction cs with
  | nil => cases h
  | cons p cs ih =>
    rw [lk_cons] at h
    rw [List.cons_append, lk_cons]
    by_cases e : p.1 = g
    · rw [if_pos e] at h ⊢
      exact h
    · rw [if_neg e] at h ⊢
      exact ih h
theorem lk_some {cs : List (α × β)} {g : α} (h : g ∈ cs.map (·.1)) : ∃ v, lk cs g = some v ∧ (g, v) ∈ cs := by
  induction cs with
  | nil => cases h
  | cons p cs ih =>
    rw [lk_cons]
    by_cases e : p.1 = g
    · rw [if_pos e]
      exact ⟨p.2, rfl, by rw [← e]; simp⟩
    · rw [if_neg e]
      rw [List.map_cons, List.mem_cons] at h
      obtain ⟨v, h1, h2⟩ := ih (h.resolve_left fun z => e z.symm)
      exact ⟨v, h1, by simp [h2]⟩
theorem lk_map_set (cs : List (α × β)) (g h : α) (v : β) : lk (cs.map fun p => if p.1 = g then (p.1, v) else p) h = (lk cs h).map fun x => if h = g then v else x := by
  induction cs with
  | nil => rfl
  | cons p cs ih =>
    rw [List.map_cons, lk_cons, lk_cons, ih]
    by_cases e : p.1 = g
    · rw [if_pos e]
      by_cases e2 : p.1 = h
      · rw [if_pos e2, if_pos e2]
        show some v = some (if h = g then v else p.2)
        rw [if_pos (e2.symm.trans e)]
      · rw [if_neg e2, if_neg e2]
    · rw [if_neg e]
      by_cases e2 : p.1 = h
      · rw [if_pos e2, if_pos e2]
        show some p.2 = some (if h = g then v else p.2)
        rw [if_neg fun z => e (e2.trans z)]
      · rw [if_neg e2, if_neg e2]
theorem lk_put (cs : List (α × β)) (g h : α) (v : β) : lk (putC cs g v) h = if h = g then some v else lk cs h := by
  unfold putC
  by_cases a : (cs.any fun p => decide (p.1 = g)) = true
  · rw [if_pos a, lk_map_set]
    obtain ⟨x, hx, _⟩ := lk_some ((any_key cs g).mp a)
    by_cases e : h = g
    · subst e
      rw [hx, if_pos rfl]
      show some (if h = h then v else x) = some v
      rw [if_pos rfl]
    · rw [if_neg e]
      cases lk cs h with
      | none => rfl
      | some y =>
        show some (if h = g then v else y) = some y
        rw [if_neg e]
  · rw [if_neg a]
    have hn : lk cs g = none := lk_none fun z => a ((any_key cs g).mpr z)
    by_cases e : h = g
    · subst e
      rw [if_pos rfl, lk_app hn, lk_cons, if_pos rfl]
    · rw [if_neg e]
      cases q : lk cs h with
      | some y => exact lk_app_some q
      | none =>
        rw [lk_app q, lk_cons, if_neg fun z => e z.symm]
        rfl
theorem keys_put (cs : List (α × β)) (g : α) (v : β) : (putC cs g v).map (·.1) = if g ∈ cs.map (·.1) then cs.map (·.1) else cs.map (·.1) ++ [g] := by
  unfold putC
  by_cases a : (cs.any fun p => decide (p.1 = g)) = true
  · rw [if_pos a, if_pos ((any_key cs g).mp a), List.map_map]
    refine List.map_congr_left fun p _ => ?_
    show (if p.1 = g then (p.1, v) else p).1 = p.1
    split <;> rfl
  · rw [if_neg a, if_neg fun z => a ((any_key cs g).mpr z), List.map_append]
    rfl
theorem nodup_put {cs : List (α × β)} (nd : (cs.map (·.1)).Nodup) (g : α) (v : β) : ((putC cs g v).map (·.1)).Nodup := by
  rw [keys_put]
  by_cases h : g ∈ cs.map (·.1)
  · rw [if_pos h]
    exact nd
  · rw [if_neg h]
    rw [List.nodup_append]
    refine ⟨nd, by simp, fun a ha b hb => ?_⟩
    rw [List.mem_singleton.mp hb]
    intro e
    exact h (by rw [← e]; exact ha)
theorem mem_put {cs : List (α × β)} {g : α} {v : β} {p : α × β} (h : p ∈ putC cs g v) : p ∈ cs ∨ p = (g, v) := by
  unfold putC at h
  split at h
  · obtain ⟨q, hq, rfl⟩ := List.mem_map.mp h
    by_cases e : q.1 = g
    · rw [if_pos e, e]
      exact .inr rfl
    · rw [if_neg e]
      exact .inl hq
  · rcases List.mem_append.mp h with h | h
    · exact .inl h
    · exact .inr (List.mem_singleton.mp h)
end
theorem valC_put {α : Type} [DecidableEq α] (cs : List (α × Nat)) (g h : α) (v : Nat) : valC (putC cs g v) h = if h = g then v else valC cs h := by
  unfold valC
  rw [lk_put]
  by_cases e : h = g
  · rw [if_pos e, if_pos e]
    rfl
  · rw [if_neg e, if_neg e]
/-- one deed after the counts cs -/
def StepC (W : WD) (cs ts : List (List Nat × Nat)) : Prop := (ts.map (·.1)).Nodup ∧ (∀ p ∈ ts, FlOK W p.1) ∧ ∀ g, FlOK W g → valC ts g = sumL cs fun p => p.2 * Ac W p.1 g
theorem StepC.cw {W : WD} {one : List Nat} {n : Nat} {cs ts : List (List Nat × Nat)} (S : StepC W cs ts) (nd : (cs.map (·.1)).Nodup) (ok : ∀ p ∈ cs, FlOK W p.1) (h : ∀ g, FlOK W g → valC cs g = cw W n one g) {g : List Nat} (hg : FlOK W g) : valC ts g = cw W (n + 1) one g := by
  rw [S.2.2 g hg, sum_dict (nodup_allM _) (fun f => Ac W f g) (l := allF W) nd fun p hp => mem_allF.mpr (ok p hp)]
  exact sumL_congr fun f hf => by rw [h f (mem_allF.mp hf)]
end PFM
namespace PFM
theorem lk_mem {α β : Type} [DecidableEq α] {cs : List (α × β)} {g : α} {v : β} (h : lk cs g = some v) : (g, v) ∈ cs := by
  unfold lk at h
  cases e : cs.find? (fun p => decide (p.1 = g)) with
  | none =>
    rw [e] at h
    cases h
  | some p =>
    rw [e] at h
    have h1 := List.mem_of_find?_eq_some e
    have h2 := List.find?_some e
    have h3 : p.1 = g := of_decide_eq_true h2
    have h4 : p.2 = v := Option.some.inj h
    rw [← h3, ← h4]
    exact h1
end PFM
/-! data by value: tuples in tuples -/
namespace PF
open PySem PySem.Spec PyProof.Rows L2
open C8 (Cal Mak Met pe_c pe_mk pe_gc pe_mt pe_mt0)
open PFM
/-- all tuples stand -/
def TK (H H' : Hp) : Prop := ∀ b xs, H b = some (.tup xs) → H' b = some (.tup xs)
theorem TK.refl (H : Hp) : TK H H := fun _ _ h => h
theorem TK.trans {H H1 H2 : Hp} (a : TK H H1) (b : TK H1 H2) : TK H H2 := fun c o h => b c o (a c o h)
theorem same_ts {H H' : Hp} (h : Same H H') : TK H H' := fun b xs e => h b _ e
theorem same_new {H : Hp} {p : Addr} {o : HO} (h : H p = none) : Same H (upd H p o) := fun b x e => by
  rw [upd_ne (ne_of_none e h)]
  exact e
theorem ts_new {H : Hp} {p : Addr} {o : HO} (h : H p = none) : TK H (upd H p o) := same_ts (same_new h)
theorem ts_lst {H : Hp} {p : Addr} {o : HO} {xs : List V} (h : H p = some (.lst xs)) : TK H (upd H p o) := fun b ys e => by
  rw [upd_ne (ne_of e h (by intro z; cases z))]
  exact e
theorem ts_dt {H : Hp} {p : Addr} {o : HO} {xs : List (List Key × V)} (h : H p = some (.dT xs)) : TK H (upd H p o) := fun b ys e => by
  rw [upd_ne (ne_of e h (by intro z; cases z))]
  exact e
mutual
inductive Tp (H : Hp) : V → PyData → Prop
  | non : Tp H .non .none
  | bl (b : Bool) : Tp H (.bl b) (.bool b)
  | int (i : Int) : Tp H (.int i) (.int i)
  | str (x : Str) : Tp H (.str x) (.str x)
  | tup {a : Addr} {xs : List V} {ds : List PyData} : H a = some (.tup xs) → TpAll H xs ds → Tp H (.ref a) (.tuple ds)
inductive TpAll (H : Hp) : List V → List PyData → Prop
  | nil : TpAll H [] []
  | cons {v : V} {vs : List V} {d : PyData} {ds : List PyData} : Tp H v d → TpAll H vs ds → TpAll H (v :: vs) (d :: ds)
end
mutual
theorem Tp.mono {H H' : Hp} (s : TK H H') : ∀ {v : V} {d : PyData}, Tp H v d → Tp H' v d
  | _, _, .non => .non
  | _, _, .bl b => .bl b
  | _, _, .int i => .int i
  | _, _, .str x => .str x
  | _, _, .tup h a => .tup (s _ _ h) (TpAll.mono s a)
theorem TpAll.mono {H H' : Hp} (s : TK H H') : ∀ {vs : List V} {ds : List PyData}, TpAll H vs ds → TpAll H' vs ds
  | _, _, .nil => .nil
  | _, _, .cons h t => .cons (Tp.mono s h) (TpAll.mono s t)
end
mutual
theorem Tp.dp {K : PySem.W.Frag} {H : Hp} : ∀ {v : V} {d : PyData}, Tp H v d → Dp K H v d
  | _, _, .non => .non
  | _, _, .bl b => .bl b
  | _, _, .int i => .int i
  | _, _, .str x => .str x
  | _, _, .tup h a => .tup (SqT.of h) (TpAll.dp a)
theorem TpAll.dp {K : PySem.W.Frag} {H : Hp} : ∀ {vs : List V} {ds : List PyData}, TpAll H vs ds → DpAll K H vs ds
  | _, _, .nil => .nil
  | _, _, .cons h t => .cons (Tp.dp h) (TpAll.dp t)
end
theorem TpAll.length {H : Hp} : ∀ {vs : List V} {ds : List PyData}, TpAll H vs ds → vs.length = ds.length
  | _, _, .nil => rfl
  | _, _, .cons _ t => congrArg Nat.succ (TpAll.length t)
theorem TpAll.get {H : Hp} : ∀ {vs : List V} {ds : List PyData} {i : Nat} {d : PyData}, TpAll H vs ds → ds[i]? = some d → ∃ v, vs[i]? = some v ∧ Tp H v d
  | _, _, _, _, .nil, e => by simp at e
  | _, _, 0, _, .cons h _, e => by
    simp at e
    subst e
    exact ⟨_, rfl, h⟩
  | _, _, i + 1, d, .cons _ t, e => by
    obtain ⟨v, a, b⟩ := TpAll.get (i := i) (d := d) t (by simpa using e)
    exact ⟨v, by simpa using a, b⟩
theorem TpAll.app {H : Hp} : ∀ {vs ws : List V} {ds es : List PyData}, TpAll H vs ds → TpAll H ws es → TpAll H (vs ++ ws) (ds ++ es)
  | _, _, _, _, .nil, s => s
  | _, _, _, _, .cons h t, s => .cons h (TpAll.app t s)
theorem TpAll.one {H : Hp} {v : V} {d : PyData} (h : Tp H v d) : TpAll H [v] [d] := .cons h .nil
/-! ### encodings -/
abbrev vN (n : Nat) : V := .int (n : Int)
abbrev dN (n : Nat) : PyData := .int (n : Int)
/-- a tuple of ints -/
abbrev dF (fl : List Nat) : PyData := .tuple (fl.map dN)
abbrev dI (ns : List Int) : PyData := .tuple (ns.map .int)
abbrev dP (p : Nat × Nat) : PyData := .tuple [dN p.1, dN p.2]
abbrev dD (d : Nat × Nat × Nat) : PyData := .tuple [dN d.1, dN d.2.1, dN d.2.2]
abbrev dLs (ps : List (Nat × Nat)) : PyData := .tuple (ps.map dP)
abbrev dDs (ds : List (Nat × Nat × Nat)) : PyData := .tuple (ds.map dD)
theorem tpN {H : Hp} {v : V} {n : Nat} (h : Tp H v (dN n)) : v = vN n := by cases h; rfl
theorem tpI {H : Hp} {v : V} {n : Int} (h : Tp H v (.int n)) : v = .int n := by cases h; rfl
theorem allI {H : Hp} : ∀ {vs : List V} {ns : List Int}, TpAll H vs (ns.map .int) → vs = ns.map V.int
  | _, [], h => by cases h; rfl
  | _, n :: ns, h => by
    cases h with
    | cons a b => rw [tpI a, allI b]; rfl
theorem allN {H : Hp} : ∀ {vs : List V} {ns : List Nat}, TpAll H vs (ns.map dN) → vs = ns.map vN
  | _, [], h => by cases h; rfl
  | _, n :: ns, h => by
    cases h with
    | cons a b => rw [tpN a, allN b]; rfl
theorem allN_mk {H : Hp} : ∀ (ns : List Nat), TpAll H (ns.map vN) (ns.map dN)
  | [] => .nil
  | n :: ns => .cons (.int _) (allN_mk ns)
theorem allI_mk {H : Hp} : ∀ (ns : List Int), TpAll H (ns.map V.int) (ns.map .int)
  | [] => .nil
  | n :: ns => .cons (.int _) (allI_mk ns)
theorem tpT {H : Hp} {v : V} {ds : List PyData} (h : Tp H v (.tuple ds)) : ∃ a xs, v = .ref a ∧ H a = some (.tup xs) ∧ TpAll H xs ds := by
  cases h with
  | tup a b => exact ⟨_, _, rfl, a, b⟩
theorem tpF {H : Hp} {v : V} {fl : List Nat} (h : Tp H v (dF fl)) : ∃ a, v = .ref a ∧ H a = some (.tup (fl.map vN)) := by
  obtain ⟨a, xs, e, h1, h2⟩ := tpT h
  rw [allN h2] at h1
  exact ⟨a, e, h1⟩
theorem tpIs {H : Hp} {v : V} {ns : List Int} (h : Tp H v (dI ns)) : ∃ a, v = .ref a ∧ H a = some (.tup (ns.map V.int)) := by
  obtain ⟨a, xs, e, h1, h2⟩ := tpT h
  rw [allI h2] at h1
  exact ⟨a, e, h1⟩
theorem tpP {H : Hp} {v : V} {p : Nat × Nat} (h : Tp H v (dP p)) : ∃ a, v = .ref a ∧ H a = some (.tup [vN p.1, vN p.2]) := by
  obtain ⟨a, xs, e, h1, h2⟩ := tpT h
  have h3 := allN (ns := [p.1, p.2]) h2
  rw [h3] at h1
  exact ⟨a, e, h1⟩
theorem tpD {H : Hp} {v : V} {d : Nat × Nat × Nat} (h : Tp H v (dD d)) : ∃ a, v = .ref a ∧ H a = some (.tup [vN d.1, vN d.2.1, vN d.2.2]) := by
  obtain ⟨a, xs, e, h1, h2⟩ := tpT h
  have h3 := allN (ns := [d.1, d.2.1, d.2.2]) h2
  rw [h3] at h1
  exact ⟨a, e, h1⟩
theorem mkF {H : Hp} {a : Addr} {fl : List Nat} (h : H a = some (.tup (fl.map vN))) : Tp H (.ref a) (dF fl) := .tup h (allN_mk fl)
theorem mkIs {H : Hp} {a : Addr} {ns : List Int} (h : H a = some (.tup (ns.map V.int))) : Tp H (.ref a) (dI ns) := .tup h (allI_mk ns)
theorem mkP {H : Hp} {a : Addr} {p q : Nat} (h : H a = some (.tup [vN p, vN q])) : Tp H (.ref a) (dP (p, q)) := .tup h (allN_mk [p, q])
theorem mkD {H : Hp} {a : Addr} {x y c : Nat} (h : H a = some (.tup [vN x, vN y, vN c])) : Tp H (.ref a) (dD (x, y, c)) := .tup h (allN_mk [x, y, c])
/-- an item of a tuple of data -/
theorem TpAll.getF {H : Hp} {α : Type} {enc : α → PyData} {vs : List V} {ds : List α} {i : Nat} {v : V} (h : TpAll H vs (ds.map enc)) (e : vs[i]? = some v) : ∃ d, ds[i]? = some d ∧ Tp H v (enc d) := by
  have hl : vs.length = ds.length := by rw [h.length, List.length_map]
  have hi := (List.getElem?_eq_some_iff.mp e).1
  have hd : (ds.map enc)[i]? = some (enc ds[i]) := by rw [List.getElem?_map, List.getElem?_eq_getElem (by omega)]; rfl
  obtain ⟨v2, a, b⟩ := h.get hd
  rw [e] at a
  cases a
  exact ⟨_, List.getElem?_eq_getElem (by omega), b⟩
theorem vN_get {fl : List Nat} {x : Nat} (hx : x < fl.length) : (fl.map vN)[x]? = some (vN (at0 fl x)) := by
  rw [List.getElem?_map, List.getElem?_eq_getElem hx]
  show some (vN fl[x]) = some (vN (fl.getD x 0))
  rw [List.getD_eq_getElem?_getD, List.getElem?_eq_getElem hx]
  rfl
/-- equal data, by ints -/
theorem eqvAll_dN : ∀ (f g : List Nat), PyData.eqvAll (f.map dN) (g.map dN) = decide (f = g)
  | [], [] => rfl
  | [], _ :: _ => rfl
  | _ :: _, [] => rfl
  | a :: f, b :: g => by
    show (((a : Int) == (b : Int)) && PyData.eqvAll (f.map dN) (g.map dN)) = decide (a :: f = b :: g)
    rw [eqvAll_dN f g]
    by_cases h : a = b
    · subst h
      simp
    · have : ((a : Int) == (b : Int)) = false := beq_eq_false_iff_ne.mpr (by omega)
      rw [this]
      simp [h]
theorem eqv_dF (f g : List Nat) : PyData.eqv (dF f) (dF g) = decide (f = g) := eqvAll_dN f g
theorem eqv_dP (p q : Nat × Nat) : PyData.eqv (dP p) (dP q) = decide (p = q) := by
  have h : PyData.eqv (dP p) (dP q) = decide ([p.1, p.2] = [q.1, q.2]) := eqvAll_dN [p.1, p.2] [q.1, q.2]
  rw [h]
  obtain ⟨a, b⟩ := p
  obtain ⟨c, d⟩ := q
  simp
theorem any_dP (ps : List (Nat × Nat)) (q : Nat × Nat) : ((ps.map dP).any fun z => PyData.eqv z (dP q)) = decide (q ∈ ps) := by
  induction ps with
  | nil => rfl
  | cons p ps ih =>
    rw [List.map_cons, List.any_cons, ih, eqv_dP]
    by_cases h : p = q
    · subst h
      simp
    · have : ¬ q = p := fun e => h e.symm
      simp [h, this]
theorem lay_dN : ∀ (f : List Nat), PyData.canLayAll0 (f.map dN) = true
  | [] => by simp [PyData.canLayAll0]
  | a :: f => by
    simp only [List.map_cons, PyData.canLayAll0, lay_dN f, PyData.canLay0, Bool.and_self]
theorem depth_dN : ∀ (f : List Nat), PyData.depthAll (f.map dN) ≤ 1
  | [] => by simp [PyData.depthAll]
  | a :: f => by
    have := depth_dN f
    simp only [List.map_cons, PyData.depthAll, PyData.depth]
    omega
theorem shaped_dF (f : List Nat) : SeqAt.shaped (dF f) = true := by
  have h := depth_dN f
  show ((dF f).canLay0 && decide ((dF f).depth ≤ 64)) = true
  rw [Bool.and_eq_true]
  refine ⟨by simp only [PyData.canLay0]; exact lay_dN f, decide_eq_true ?_⟩
  simp only [PyData.depth]
  omega
theorem shaped_dP (p : Nat × Nat) : SeqAt.shaped (dP p) = true := shaped_dF [p.1, p.2]
theorem lay_dPs : ∀ (ps : List (Nat × Nat)), PyData.canLayAll0 (ps.map dP) = true
  | [] => by simp [PyData.canLayAll0]
  | p :: ps => by
    have h : (dP p).canLay0 = true := by simp only [PyData.canLay0]; exact lay_dN [p.1, p.2]
    rw [List.map_cons, PyData.canLayAll0, h, lay_dPs ps]
    rfl
theorem depth_dPs : ∀ (ps : List (Nat × Nat)), PyData.depthAll (ps.map dP) ≤ 2
  | [] => by simp [PyData.depthAll]
  | p :: ps => by
    have h1 := depth_dPs ps
    have h2 := depth_dN [p.1, p.2]
    have h3 : (dP p).depth ≤ 2 := by
      simp only [PyData.depth]
      exact Nat.succ_le_succ h2
    rw [List.map_cons, PyData.depthAll]
    omega
theorem shaped_dPs (ps : List (Nat × Nat)) : SeqAt.shaped (.tuple (ps.map dP)) = true := by
  have h := depth_dPs ps
  show ((PyData.tuple (ps.map dP)).canLay0 && decide ((PyData.tuple (ps.map dP)).depth ≤ 64)) = true
  rw [Bool.and_eq_true]
  refine ⟨by simp only [PyData.canLay0]; exact lay_dPs ps, decide_eq_true ?_⟩
  simp only [PyData.depth]
  omega
theorem shaped_lPs (ps : List (Nat × Nat)) : SeqAt.shaped (.list (ps.map dP)) = true := by
  have h := depth_dPs ps
  show ((PyData.list (ps.map dP)).canLay0 && decide ((PyData.list (ps.map dP)).depth ≤ 64)) = true
  rw [Bool.and_eq_true]
  refine ⟨by simp only [PyData.canLay0]; exact lay_dPs ps, decide_eq_true ?_⟩
  simp only [PyData.depth]
  omega
end PF
/-! loops and comprehensions over enumerate of a tuple, items of a dict by tuples; tests by their answer -/
namespace PF
open PySem PySem.Spec PyProof.Rows L2
open PFM
theorem bt {p : Prop} [Decidable p] (h : p) : V.bl (decide p) = V.bl true := congrArg V.bl (decide_eq_true h)
theorem bf {p : Prop} [Decidable p] (h : ¬ p) : V.bl (decide p) = V.bl false := congrArg V.bl (decide_eq_false h)
theorem nbt {p : Prop} [Decidable p] (h : ¬ p) : V.bl (!decide p) = V.bl true := by rw [decide_eq_false h]; rfl
theorem nbf {p : Prop} [Decidable p] (h : p) : V.bl (!decide p) = V.bl false := by rw [decide_eq_true h]; rfl
theorem for_enumT {K : PySem.W.Frag} {a : Addr} {xs : List V} {g : TG} {tb : TS} {D : Ends} {σ : Stt} {H : Hp} (Pv : Nat → Stt → Hp → Prop) (h0 : Pv 0 σ H) (hl : ∀ i σ H, i ≤ xs.length → Pv i σ H → SqT K H a xs)
    (hs : ∀ i x T σ H, xs[i]? = some x → Pv i σ H → H T = none → g (.ref T) σ (upd H T (.tup [.int (i : Nat), x])) fun σ2 H2 => tb { D with nx := Pv (i + 1), ct := Pv (i + 1), bk := D.nx } σ2 H2) (hd : ∀ σ H, Pv xs.length σ H → D.nx σ H) :
    ∃ W : Nat → Nat → Stt → Hp → Prop, (∃ m, W 0 m σ H) ∧ ∀ i m σ H, W i m σ H →
      ((IteT K a).stop i H ∧ D.nx σ H) ∨ ((IteT K a).go i H ∧ ∃ N : Stt → Hp → Prop, (∀ σ' H', N σ' H' → ∃ m', m' < m ∧ W (i + 1) m' σ' H') ∧ ∀ x H', (IteT K a).yld i H x H' → g x σ H' fun σ2 H2 => tb { D with nx := N, ct := N, bk := D.nx } σ2 H2) := by
  refine ⟨fun i m σ H => m = xs.length - i ∧ i ≤ xs.length ∧ Pv i σ H, ⟨xs.length, by simp, Nat.zero_le _, h0⟩, ?_⟩
  rintro i m σ H ⟨rfl, hi, p⟩
  have q := hl i σ H hi p
  by_cases hlt : i < xs.length
  · refine .inr ⟨⟨xs, xs[i], q, by simp [hlt]⟩, Pv (i + 1), fun σ' H' p' => ⟨xs.length - (i + 1), by omega, rfl, hlt, p'⟩, fun x H' y => ?_⟩
    obtain ⟨T, z, rfl, nT, rfl, e⟩ := y
    exact hs i z T σ H (e xs q) p nT
  · have e : i = xs.length := by omega
    subst e
    exact .inl ⟨⟨xs, q, Nat.le_refl _⟩, hd σ H p⟩
theorem lc_enumT {K : PySem.W.Frag} {a : Addr} {xs : List V} {g : TG} {tt : TT} {te : TE} {vs : List Nat} {σ : Stt} {H1 : Hp} {D : Addr} {Qd : Hp → Prop} (Pv : Nat → Hp → Prop) (h0 : Pv 0 (upd H1 D (.lst []))) (hl : ∀ i H, i ≤ xs.length → Pv i H → SqT K H a xs)
    (hs : ∀ i x T H, xs[i]? = some x → Pv i H → H T = none → g (.ref T) (wipe σ vs) (upd H T (.tup [.int (i : Nat), x])) fun σ2 H2 => wipe σ2 vs = wipe σ vs ∧ tt σ2 H2 fun b H3 =>
      if b = true then te σ2 H3 fun y H4 => ∃ acc, H4 D = some (.lst acc) ∧ acc.length < sizeLine ∧ Pv (i + 1) (upd H4 D (.lst (acc ++ [y]))) else Pv (i + 1) H3) (hd : ∀ H, Pv xs.length H → Qd H) :
    ∃ W : Nat → Nat → Hp → Prop, (∃ m, W 0 m (upd H1 D (.lst []))) ∧ ∀ i m H, W i m H →
      ((IteT K a).stop i H ∧ Qd H) ∨ ((IteT K a).go i H ∧ ∃ Nx : Hp → Prop, (∀ H', Nx H' → ∃ m', m' < m ∧ W (i + 1) m' H') ∧ ∀ x H', (IteT K a).yld i H x H' → g x (wipe σ vs) H' fun σ2 H2 => wipe σ2 vs = wipe σ vs ∧ tt σ2 H2 fun b H3 =>
        if b = true then te σ2 H3 fun y H4 => ∃ acc, H4 D = some (.lst acc) ∧ acc.length < sizeLine ∧ Nx (upd H4 D (.lst (acc ++ [y]))) else Nx H3) := by
  refine ⟨fun i m H => m = xs.length - i ∧ i ≤ xs.length ∧ Pv i H, ⟨xs.length, by simp, Nat.zero_le _, h0⟩, ?_⟩
  rintro i m H ⟨rfl, hi, p⟩
  have q := hl i H hi p
  by_cases hlt : i < xs.length
  · refine .inr ⟨⟨xs, xs[i], q, by simp [hlt]⟩, Pv (i + 1), fun H' p' => ⟨xs.length - (i + 1), by omega, rfl, hlt, p'⟩, fun x H' y => ?_⟩
    obtain ⟨T, z, rfl, nT, rfl, e⟩ := y
    exact hs i z T H (e xs q) p nT
  · have e : i = xs.length := by omega
    subst e
    exact .inl ⟨⟨xs, q, Nat.le_refl _⟩, hd H p⟩
theorem for_itemsT {d : Addr} {o : Obj} {kvs : List (List Key × V)} {g : TG} {tb : TS} {D : Ends} {σ : Stt} {H : Hp} (Pv : Nat → Stt → Hp → Prop) (h0 : Pv 0 σ H) (hl : ∀ i σ H, i ≤ kvs.length → Pv i σ H → H d = some (.frz o (.dT kvs)))
    (hs : ∀ i k v q T σ H, kvs[i]? = some (k, v) → Pv i σ H → H T = none → H q = some (.tup (k.map kV)) → g (.ref T) σ (upd H T (.tup [.ref q, v])) fun σ2 H2 => tb { D with nx := Pv (i + 1), ct := Pv (i + 1), bk := D.nx } σ2 H2) (hd : ∀ σ H, Pv kvs.length σ H → D.nx σ H) :
    ∃ W : Nat → Nat → Stt → Hp → Prop, (∃ m, W 0 m σ H) ∧ ∀ i m σ H, W i m σ H →
      ((ItiT d o kvs).stop i H ∧ D.nx σ H) ∨ ((ItiT d o kvs).go i H ∧ ∃ N : Stt → Hp → Prop, (∀ σ' H', N σ' H' → ∃ m', m' < m ∧ W (i + 1) m' σ' H') ∧ ∀ x H', (ItiT d o kvs).yld i H x H' → g x σ H' fun σ2 H2 => tb { D with nx := N, ct := N, bk := D.nx } σ2 H2) := by
  refine ⟨fun i m σ H => m = kvs.length - i ∧ i ≤ kvs.length ∧ Pv i σ H, ⟨kvs.length, by simp, Nat.zero_le _, h0⟩, ?_⟩
  rintro i m σ H ⟨rfl, hi, p⟩
  have q := hl i σ H hi p
  by_cases hlt : i < kvs.length
  · refine .inr ⟨⟨q, hlt⟩, Pv (i + 1), fun σ' H' p' => ⟨kvs.length - (i + 1), by omega, rfl, hlt, p'⟩, fun x H' y => ?_⟩
    obtain ⟨T, k, v, qq, e, rfl, nT, hq, rfl⟩ := y
    exact hs i k v qq T σ H e p nT hq
  · have e : i = kvs.length := by omega
    subst e
    exact .inl ⟨⟨q, Nat.le_refl _⟩, hd σ H p⟩
/-- while, by a measure; the test answers b, all else stands -/
theorem while_m {c : TT} {tb : TS} {D : Ends} {σ : Stt} {H : Hp} (Pv : Nat → Stt → Hp → Prop) (m0 : Nat) (h0 : Pv m0 σ H)
    (hs : ∀ m σ H, Pv m σ H → c σ H fun b H1 => if b = true then tb { D with nx := fun σ' H' => ∃ m', m' < m ∧ Pv m' σ' H', ct := fun σ' H' => ∃ m', m' < m ∧ Pv m' σ' H', bk := D.nx } σ H1 else D.nx σ H1)
    (mono : ∀ σ H Q Q', (∀ b H1, Q b H1 → Q' b H1) → c σ H Q → c σ H Q') : tWhile c tb D σ H := by
  refine ⟨Pv, ⟨m0, h0⟩, fun m σ H p => ?_⟩
  refine mono σ H _ _ (fun b H1 q => ?_) (hs m σ H p)
  cases b with
  | true => exact iteT ⟨_, fun _ _ z => z, (by rw [if_pos rfl] at q; exact q)⟩
  | false => exact iteF (by rw [if_neg Bool.false_ne_true] at q; exact q)
theorem itT {c : Bool} {A B : Prop} (h : c = true) (a : A) : if c = true then A else B := by
  rw [if_pos h]
  exact a
theorem itF {c : Bool} {A B : Prop} (h : c = false) (b : B) : if c = true then A else B := by
  rw [if_neg (by rw [h]; exact Bool.false_ne_true)]
  exact b
theorem yes {σ : Stt} {H : Hp} {Q : Bool → Hp → Prop} (h : Q true H) : tYes σ H Q := h
theorem same_mut {H H' : Hp} {l : Addr} {o : HO} (s : Same H H') (h : H l = none) : Same H (upd H' l o) := fun b x e => by
  rw [upd_ne (ne_of_none e h)]
  exact s b x e
theorem for_rangeN {lo n : Nat} {g : TG} {tb : TS} {D : Ends} {σ : Stt} {H : Hp} (Pv : Nat → Stt → Hp → Prop) (h0 : Pv 0 σ H)
    (hs : ∀ i σ H, i < n → Pv i σ H → g (vN (lo + i)) σ H fun σ2 H2 => tb { D with nx := Pv (i + 1), ct := Pv (i + 1), bk := D.nx } σ2 H2) (hd : ∀ σ H, Pv n σ H → D.nx σ H) :
    ∃ W : Nat → Nat → Stt → Hp → Prop, (∃ m, W 0 m σ H) ∧ ∀ i m σ H, W i m σ H →
      ((Itr (lo : Int) n).stop i H ∧ D.nx σ H) ∨ ((Itr (lo : Int) n).go i H ∧ ∃ N : Stt → Hp → Prop, (∀ σ' H', N σ' H' → ∃ m', m' < m ∧ W (i + 1) m' σ' H') ∧ ∀ x H', (Itr (lo : Int) n).yld i H x H' → g x σ H' fun σ2 H2 => tb { D with nx := N, ct := N, bk := D.nx } σ2 H2) :=
  for_range Pv h0 (fun i σ H hi p => by
    have := hs i σ H hi p
    rw [show vN (lo + i) = V.int ((lo : Int) + i) by show V.int _ = _; rw [Int.natCast_add]] at this
    exact this) hd
theorem for_range0 {n : Nat} {g : TG} {tb : TS} {D : Ends} {σ : Stt} {H : Hp} (Pv : Nat → Stt → Hp → Prop) (h0 : Pv 0 σ H)
    (hs : ∀ i σ H, i < n → Pv i σ H → g (vN i) σ H fun σ2 H2 => tb { D with nx := Pv (i + 1), ct := Pv (i + 1), bk := D.nx } σ2 H2) (hd : ∀ σ H, Pv n σ H → D.nx σ H) :
    ∃ W : Nat → Nat → Stt → Hp → Prop, (∃ m, W 0 m σ H) ∧ ∀ i m σ H, W i m σ H →
      ((Itr 0 n).stop i H ∧ D.nx σ H) ∨ ((Itr 0 n).go i H ∧ ∃ N : Stt → Hp → Prop, (∀ σ' H', N σ' H' → ∃ m', m' < m ∧ W (i + 1) m' σ' H') ∧ ∀ x H', (Itr 0 n).yld i H x H' → g x σ H' fun σ2 H2 => tb { D with nx := N, ct := N, bk := D.nx } σ2 H2) :=
  for_range Pv h0 (fun i σ H hi p => by
    rw [Int.zero_add]
    exact hs i σ H hi p) hd
theorem lc_range0 {n : Nat} {g : TG} {tt : TT} {te : TE} {vs : List Nat} {σ : Stt} {H1 : Hp} {D : Addr} {Qd : Hp → Prop} (Pv : Nat → Hp → Prop) (h0 : Pv 0 (upd H1 D (.lst [])))
    (hs : ∀ i H, i < n → Pv i H → g (vN i) (wipe σ vs) H fun σ2 H2 => wipe σ2 vs = wipe σ vs ∧ tt σ2 H2 fun b H3 =>
      if b = true then te σ2 H3 fun y H4 => ∃ acc, H4 D = some (.lst acc) ∧ acc.length < sizeLine ∧ Pv (i + 1) (upd H4 D (.lst (acc ++ [y]))) else Pv (i + 1) H3) (hd : ∀ H, Pv n H → Qd H) :
    ∃ W : Nat → Nat → Hp → Prop, (∃ m, W 0 m (upd H1 D (.lst []))) ∧ ∀ i m H, W i m H →
      ((Itr 0 n).stop i H ∧ Qd H) ∨ ((Itr 0 n).go i H ∧ ∃ Nx : Hp → Prop, (∀ H', Nx H' → ∃ m', m' < m ∧ W (i + 1) m' H') ∧ ∀ x H', (Itr 0 n).yld i H x H' → g x (wipe σ vs) H' fun σ2 H2 => wipe σ2 vs = wipe σ vs ∧ tt σ2 H2 fun b H3 =>
        if b = true then te σ2 H3 fun y H4 => ∃ acc, H4 D = some (.lst acc) ∧ acc.length < sizeLine ∧ Nx (upd H4 D (.lst (acc ++ [y]))) else Nx H3) :=
  lc_range Pv h0 (fun i H hi p => by
    rw [Int.zero_add]
    exact hs i H hi p) hd
theorem small62 {n : Nat} (h : n ≤ 1000000) : -(2 ^ 62) ≤ (n : Int) ∧ (n : Int) < 2 ^ 62 := by omega
theorem ixN_nat {n i : Nat} (h : i < n) : ixN n (i : Int) = some i := by
  unfold ixN
  rw [if_pos (Int.natCast_nonneg i), if_pos (by omega)]
  rfl
theorem rep_flat {v : V} (n : Nat) : (List.replicate n [v]).flatten = List.replicate n v := by
  induction n with
  | zero => rfl
  | succ n ih => rw [List.replicate_succ, List.flatten_cons, ih]; rfl
theorem dec_int2 {i j : Int} : decide (V.int i = V.int j) = decide (i = j) := by
  by_cases h : i = j
  · subst h
    simp
  · have h2 : ¬ V.int i = V.int j := fun e => h (by injection e)
    rw [decide_eq_false h, decide_eq_false h2]
theorem ne_lst {H : Hp} {p q : Addr} {o : HO} {xs : List V} (h : H p = some (.lst xs)) (nq : H q = none) : p ≠ q := ne_of_none h nq
theorem sz100k {n : Nat} (h : n ≤ 100000) : n ≤ sizeLine := Nat.le_trans h (by decide)
theorem sz100kl {n : Nat} (h : n < 100000) : n < sizeLine := Nat.lt_of_lt_of_le h (by decide)
end PF
/-! dicts by floors -/
namespace PF
open PySem PySem.Spec PyProof.Rows L2
open PFM
/-- a floor as a key -/
def kf (fl : List Nat) : List Key := fl.map fun (c : Nat) => Sum.inl (c : Int)
theorem kf_kV (fl : List Nat) : (kf fl).map kV = fl.map vN := by
  unfold kf
  rw [List.map_map]
  rfl
theorem kf_inj {f g : List Nat} (h : kf f = kf g) : f = g := by
  unfold kf at h
  refine (List.map_inj_right fun a b e => ?_).mp h
  injection e with e
  omega
def enc {β : Type} (e : β → V) (p : List Nat × β) : List Key × V := (kf p.1, e p.2)
theorem enc_val {β : Type} (e : β → V) (cs : List (List Nat × β)) (g : List Nat) : valV (cs.map (enc e)) (kf g) = (lk cs g).map e := by
  induction cs with
  | nil => rfl
  | cons p cs ih =>
    rw [lk_cons, List.map_cons]
    unfold valV at ih ⊢
    rw [List.find?_cons]
    by_cases h : p.1 = g
    · rw [if_pos h]
      have : decide ((enc e p).1 = kf g) = true := decide_eq_true (by show kf p.1 = kf g; rw [h])
      rw [this]
      rfl
    · rw [if_neg h]
      have : decide ((enc e p).1 = kf g) = false := decide_eq_false fun z => h (kf_inj z)
      rw [this]
      exact ih
theorem enc_put {β : Type} (e : β → V) (cs : List (List Nat × β)) (g : List Nat) (v : β) : putK (cs.map (enc e)) (kf g) (e v) = (putC cs g v).map (enc e) := by
  have h1 : ((cs.map (enc e)).any fun kv => decide (kv.1 = kf g)) = cs.any fun p => decide (p.1 = g) := by
    rw [List.any_map]
    congr 1
    funext p
    show decide (kf p.1 = kf g) = decide (p.1 = g)
    by_cases h : p.1 = g
    · rw [decide_eq_true h, decide_eq_true (by rw [h])]
    · rw [decide_eq_false h, decide_eq_false fun z => h (kf_inj z)]
  unfold putK putC
  rw [h1]
  by_cases h : (cs.any fun p => decide (p.1 = g)) = true
  · rw [if_pos h, if_pos h, List.map_map, List.map_map]
    refine List.map_congr_left fun p _ => ?_
    show (if (enc e p).1 = kf g then ((enc e p).1, e v) else enc e p) = enc e (if p.1 = g then (p.1, v) else p)
    by_cases h2 : p.1 = g
    · rw [if_pos (show (enc e p).1 = kf g by show kf p.1 = kf g; rw [h2]), if_pos h2]
      rfl
    · rw [if_neg (show ¬ (enc e p).1 = kf g from fun z => h2 (kf_inj z)), if_neg h2]
  · rw [if_neg h, if_neg h, List.map_append]
    rfl
/-- all but the objects at ks stands -/
def FB (ks : List Addr) (H H' : Hp) : Prop := ∀ b o, b ∉ ks → H b = some o → H' b = some o
theorem FB.refl (ks : List Addr) (H : Hp) : FB ks H H := fun _ _ _ h => h
theorem FB.trans {ks : List Addr} {H H1 H2 : Hp} (a : FB ks H H1) (b : FB ks H1 H2) : FB ks H H2 := fun c o n h => b c o n (a c o n h)
theorem FB.same {ks : List Addr} {H H1 : Hp} (s : Same H H1) : FB ks H H1 := fun b o _ h => s b o h
theorem FB.upd {ks : List Addr} {H : Hp} {k : Addr} {o : HO} (h : k ∈ ks) : FB ks H (upd H k o) := fun b x n e => by
  rw [upd_ne fun z => n (by rw [z]; exact h)]
  exact e
theorem FB.new {ks : List Addr} {H H' : Hp} {l : Addr} {o : HO} (a : FB ks H H') (h : H l = none) : FB ks H (L2.upd H' l o) := fun b x n e => by
  rw [upd_ne (ne_of_none e h)]
  exact a b x n e
theorem FB.tk {ks : List Addr} {H H' : Hp} (a : FB ks H H') (h : ∀ k ∈ ks, ∀ xs, H k ≠ some (.tup xs)) : TK H H' := fun b xs e => a b _ (fun z => h b z xs e) e
end PF
namespace PF
open PySem PySem.Spec PyProof.Rows L2
def topS (i : Nat) : Stmt := PySem.Challenge.pw_pairfloors_k76_runs_both_ways_and_over_t.main.body.getD i (.Pass ⟨0, 0, 0, 0⟩)
abbrev s_Web___init__ : Stmt := inClass (topS 14) 0
abbrev s_checked_floor : Stmt := topS 16
abbrev s_checked_table : Stmt := topS 18
abbrev s_want_joined_coats : Stmt := topS 19
abbrev s_is_change : Stmt := topS 20
abbrev s_done : Stmt := topS 22
abbrev s_deeds : Stmt := topS 23
abbrev s_floor_count : Stmt := topS 26
abbrev s_want_small : Stmt := topS 27
abbrev s_number_of : Stmt := topS 28
abbrev s_far : Stmt := topS 30
abbrev s_nearer : Stmt := topS 31
abbrev s_shortest : Stmt := topS 32
abbrev s_runs_of : Stmt := topS 35
abbrev s_stepped_counts : Stmt := topS 36
abbrev s_World___init__ : Stmt := inClass (topS 39) 0
abbrev s__law_pool : Stmt := topS 41
abbrev s__law_take : Stmt := topS 42
abbrev s__law_one : Stmt := topS 43
abbrev s__law_shuffled : Stmt := topS 44
abbrev s__law_near : Stmt := topS 45
abbrev s__law_link : Stmt := topS 46
abbrev s__law_corner : Stmt := topS 47
abbrev s__law_bridge : Stmt := topS 48
abbrev s__law_renamed : Stmt := topS 49
abbrev s__law_stout : Stmt := topS 50
abbrev s__law_round : Stmt := topS 51
abbrev s__law_any : Stmt := topS 52
abbrev s__law_table : Stmt := topS 53
abbrev s__law_floor : Stmt := topS 54
abbrev s__law_let : Stmt := topS 55
abbrev s__law_done : Stmt := topS 56
abbrev s__law_run : Stmt := topS 57
abbrev s__law_small_web : Stmt := topS 58
abbrev s__law_number : Stmt := topS 59
abbrev s__law_floors : Stmt := topS 60
abbrev s__law_ways_right : Stmt := topS 61
abbrev s_law : Stmt := topS 62
abbrev N_Web___init__ : List Str := ["self", "size", "links", "before", "index", "link", "rows", "low", "high", "_", "row"]
theorem sc_Web___init__ : FnScope N_Web___init__ ["self", "size", "links"] (defScope s_Web___init__) := ⟨rfl, rfl, rfl, by decide +kernel, rfl, by decide +kernel, by decide +kernel⟩
abbrev N_checked_floor : List Str := ["world", "floor", "cell", "coat"]
theorem sc_checked_floor : FnScope N_checked_floor ["world", "floor"] (defScope s_checked_floor) := ⟨rfl, rfl, rfl, by decide +kernel, rfl, by decide +kernel, by decide +kernel⟩
abbrev N_checked_table : List Str := ["coats", "table", "before", "index", "pair", "p", "r"]
theorem sc_checked_table : FnScope N_checked_table ["coats", "table"] (defScope s_checked_table) := ⟨rfl, rfl, rfl, by decide +kernel, rfl, by decide +kernel, by decide +kernel⟩
abbrev N_want_joined_coats : List Str := ["coats", "table", "coat", "reached", "_", "p", "r"]
theorem sc_want_joined_coats : FnScope N_want_joined_coats ["coats", "table"] (defScope s_want_joined_coats) := ⟨rfl, rfl, rfl, by decide +kernel, rfl, by decide +kernel, by decide +kernel⟩
abbrev N_is_change : List Str := ["table", "p", "r"]
theorem sc_is_change : FnScope N_is_change ["table", "p", "r"] (defScope s_is_change) := ⟨rfl, rfl, rfl, by decide +kernel, rfl, by decide +kernel, by decide +kernel⟩
abbrev N_done : List Str := ["floor", "deed", "x", "y", "coat", "cell", "worn"]
theorem sc_done : FnScope N_done ["floor", "deed"] (defScope s_done) := ⟨rfl, rfl, rfl, by decide +kernel, rfl, by decide +kernel, by decide +kernel⟩
abbrev N_deeds : List Str := ["world", "floor", "told", "x", "y", "coat"]
theorem sc_deeds : FnScope N_deeds ["world", "floor"] (defScope s_deeds) := ⟨rfl, rfl, rfl, by decide +kernel, rfl, by decide +kernel, by decide +kernel⟩
abbrev N_floor_count : List Str := ["world", "many", "_"]
theorem sc_floor_count : FnScope N_floor_count ["world"] (defScope s_floor_count) := ⟨rfl, rfl, rfl, by decide +kernel, rfl, by decide +kernel, by decide +kernel⟩
abbrev N_want_small : List Str := ["world", "many"]
theorem sc_want_small : FnScope N_want_small ["world"] (defScope s_want_small) := ⟨rfl, rfl, rfl, by decide +kernel, rfl, by decide +kernel, by decide +kernel⟩
abbrev N_number_of : List Str := ["world", "floor", "n", "coat"]
theorem sc_number_of : FnScope N_number_of ["world", "floor"] (defScope s_number_of) := ⟨rfl, rfl, rfl, by decide +kernel, rfl, by decide +kernel, by decide +kernel⟩
abbrev N_far : List Str := ["world", "floor", "told", "queue", "at", "here", "apart", "deed", "behind", "number"]
theorem sc_far : FnScope N_far ["world", "floor"] (defScope s_far) := ⟨rfl, rfl, rfl, by decide +kernel, rfl, by decide +kernel, by decide +kernel⟩
abbrev N_nearer : List Str := ["world", "apart", "here", "left", "deed"]
theorem sc_nearer : FnScope N_nearer ["world", "apart", "here"] (defScope s_nearer) := ⟨rfl, rfl, rfl, by decide +kernel, rfl, by decide +kernel, by decide +kernel⟩
abbrev N_shortest : List Str := ["world", "one", "two", "apart", "here", "run", "deed"]
theorem sc_shortest : FnScope N_shortest ["world", "one", "two"] (defScope s_shortest) := ⟨rfl, rfl, rfl, by decide +kernel, rfl, by decide +kernel, by decide +kernel⟩
abbrev N_runs_of : List Str := ["world", "one", "two", "n", "counts", "known", "_"]
theorem sc_runs_of : FnScope N_runs_of ["world", "one", "two", "n"] (defScope s_runs_of) := ⟨rfl, rfl, rfl, by decide +kernel, rfl, by decide +kernel, by decide +kernel⟩
abbrev N_stepped_counts : List Str := ["world", "counts", "known", "told", "floor", "many", "behind", "deed"]
theorem sc_stepped_counts : FnScope N_stepped_counts ["world", "counts", "known"] (defScope s_stepped_counts) := ⟨rfl, rfl, rfl, by decide +kernel, rfl, by decide +kernel, by decide +kernel⟩
abbrev N_World___init__ : List Str := ["self", "web", "coats", "table"]
theorem sc_World___init__ : FnScope N_World___init__ ["self", "web", "coats", "table"] (defScope s_World___init__) := ⟨rfl, rfl, rfl, by decide +kernel, rfl, by decide +kernel, by decide +kernel⟩
abbrev N__law_pool : List Str := ["_law_script", "_law_k", "_law_cell", "_law_big", "_law_mixed"]
theorem sc__law_pool : FnScope N__law_pool ["_law_script", "_law_k"] (defScope s__law_pool) := ⟨rfl, rfl, rfl, by decide +kernel, rfl, by decide +kernel, by decide +kernel⟩
abbrev N__law_take : List Str := ["_law_source", "_law_top", "_law_drawn"]
theorem sc__law_take : FnScope N__law_take ["_law_source", "_law_top"] (defScope s__law_take) := ⟨rfl, rfl, rfl, by decide +kernel, rfl, by decide +kernel, by decide +kernel⟩
abbrev N__law_one : List Str := ["_law_source", "_law_things"]
theorem sc__law_one : FnScope N__law_one ["_law_source", "_law_things"] (defScope s__law_one) := ⟨rfl, rfl, rfl, by decide +kernel, rfl, by decide +kernel, by decide +kernel⟩
abbrev N__law_shuffled : List Str := ["_law_source", "_law_count", "_law_left", "_law_found", "_law_turn", "_law_x"]
theorem sc__law_shuffled : FnScope N__law_shuffled ["_law_source", "_law_count"] (defScope s__law_shuffled) := ⟨rfl, rfl, rfl, by decide +kernel, rfl, by decide +kernel, by decide +kernel⟩
abbrev N__law_near : List Str := ["_law_links", "_law_x", "_law_a", "_law_b"]
theorem sc__law_near : FnScope N__law_near ["_law_links", "_law_x"] (defScope s__law_near) := ⟨rfl, rfl, rfl, by decide +kernel, rfl, by decide +kernel, by decide +kernel⟩
abbrev N__law_link : List Str := ["_law_a", "_law_b"]
theorem sc__law_link : FnScope N__law_link ["_law_a", "_law_b"] (defScope s__law_link) := ⟨rfl, rfl, rfl, by decide +kernel, rfl, by decide +kernel, by decide +kernel⟩
abbrev N__law_corner : List Str := ["_law_source", "_law_size", "_law_links", "_law_around", "_law_x", "_law_z"]
theorem sc__law_corner : FnScope N__law_corner ["_law_source", "_law_size", "_law_links"] (defScope s__law_corner) := ⟨rfl, rfl, rfl, by decide +kernel, rfl, by decide +kernel, by decide +kernel⟩
abbrev N__law_bridge : List Str := ["_law_source", "_law_size", "_law_links", "_law_a", "_law_x", "_law_y", "_law_b"]
theorem sc__law_bridge : FnScope N__law_bridge ["_law_source", "_law_size", "_law_links"] (defScope s__law_bridge) := ⟨rfl, rfl, rfl, by decide +kernel, rfl, by decide +kernel, by decide +kernel⟩
abbrev N__law_renamed : List Str := ["_law_source", "_law_size", "_law_links", "_law_names", "_law_a", "_law_b"]
theorem sc__law_renamed : FnScope N__law_renamed ["_law_source", "_law_size", "_law_links"] (defScope s__law_renamed) := ⟨rfl, rfl, rfl, by decide +kernel, rfl, by decide +kernel, by decide +kernel⟩
abbrev N__law_stout : List Str := ["_law_source", "_law_most", "_law_kinds", "_law_square", "_law_fours", "_law_prism", "_law_size", "_law_links", "_law_turn"]
theorem sc__law_stout : FnScope N__law_stout ["_law_source", "_law_most", "_law_kinds"] (defScope s__law_stout) := ⟨rfl, rfl, rfl, by decide +kernel, rfl, by decide +kernel, by decide +kernel⟩
abbrev N__law_round : List Str := ["_law_source", "_law_count", "_law_x"]
theorem sc__law_round : FnScope N__law_round ["_law_source", "_law_count"] (defScope s__law_round) := ⟨rfl, rfl, rfl, by decide +kernel, rfl, by decide +kernel, by decide +kernel⟩
abbrev N__law_any : List Str := ["_law_source", "_law_count", "_law_links", "_law_b", "_law_a"]
theorem sc__law_any : FnScope N__law_any ["_law_source", "_law_count"] (defScope s__law_any) := ⟨rfl, rfl, rfl, by decide +kernel, rfl, by decide +kernel, by decide +kernel⟩
abbrev N__law_table : List Str := ["_law_source", "_law_coats", "_law_names", "_law_pairs", "_law_r", "_law_turn", "_law_p"]
theorem sc__law_table : FnScope N__law_table ["_law_source", "_law_coats"] (defScope s__law_table) := ⟨rfl, rfl, rfl, by decide +kernel, rfl, by decide +kernel, by decide +kernel⟩
abbrev N__law_floor : List Str := ["_law_source", "_law_size", "_law_coats", "_law_most", "_law_x"]
theorem sc__law_floor : FnScope N__law_floor ["_law_source", "_law_size", "_law_coats"] (defScope s__law_floor) := ⟨rfl, rfl, rfl, by decide +kernel, rfl, by decide +kernel, by decide +kernel⟩
abbrev N__law_let : List Str := ["_law_links", "_law_coats", "_law_pairs", "_law_floor_here", "_law_found", "_law_x", "_law_y", "_law_coat"]
theorem sc__law_let : FnScope N__law_let ["_law_links", "_law_coats", "_law_pairs", "_law_floor_here"] (defScope s__law_let) := ⟨rfl, rfl, rfl, by decide +kernel, rfl, by decide +kernel, by decide +kernel⟩
abbrev N__law_done : List Str := ["_law_floor_here", "_law_deed", "_law_x"]
theorem sc__law_done : FnScope N__law_done ["_law_floor_here", "_law_deed"] (defScope s__law_done) := ⟨rfl, rfl, rfl, by decide +kernel, rfl, by decide +kernel, by decide +kernel⟩
abbrev N__law_run : List Str := ["_law_source", "_law_links", "_law_coats", "_law_pairs", "_law_floor_here", "_law_most", "_law_run_here", "_law_here", "_law_turn", "_law_let_here", "_law_deed"]
theorem sc__law_run : FnScope N__law_run ["_law_source", "_law_links", "_law_coats", "_law_pairs", "_law_floor_here", "_law_most"] (defScope s__law_run) := ⟨rfl, rfl, rfl, by decide +kernel, rfl, by decide +kernel, by decide +kernel⟩
abbrev N__law_small_web : List Str := ["_law_source", "_law_size", "_law_way"]
theorem sc__law_small_web : FnScope N__law_small_web ["_law_source", "_law_size"] (defScope s__law_small_web) := ⟨rfl, rfl, rfl, by decide +kernel, rfl, by decide +kernel, by decide +kernel⟩
abbrev N__law_number : List Str := ["_law_floor_here", "_law_coats", "_law_told", "_law_coat"]
theorem sc__law_number : FnScope N__law_number ["_law_floor_here", "_law_coats"] (defScope s__law_number) := ⟨rfl, rfl, rfl, by decide +kernel, rfl, by decide +kernel, by decide +kernel⟩
abbrev N__law_floors : List Str := ["_law_size", "_law_coats", "_law_rows", "_law_turn", "_law_longer", "_law_row", "_law_coat"]
theorem sc__law_floors : FnScope N__law_floors ["_law_size", "_law_coats"] (defScope s__law_floors) := ⟨rfl, rfl, rfl, by decide +kernel, rfl, by decide +kernel, by decide +kernel⟩
abbrev N__law_ways_right : List Str := ["_law_world", "_law_one_here", "_law_two", "_law_there", "_law_back", "_law_apart"]
theorem sc__law_ways_right : FnScope N__law_ways_right ["_law_world", "_law_one_here", "_law_two"] (defScope s__law_ways_right) := ⟨rfl, rfl, rfl, by decide +kernel, rfl, by decide +kernel, by decide +kernel⟩
abbrev N_law : List Str := ["_law_script", "_law_source", "_law_size", "_law_coats", "_law_links", "_law_pairs", "_law_world", "_law_one_here", "_law_run_here", "_law_two", "_law_whole", "_law_m", "_law_due", "_law_floor_here"]
theorem sc_law : FnScope N_law ["_law_script"] (defScope s_law) := ⟨rfl, rfl, rfl, by decide +kernel, rfl, by decide +kernel, by decide +kernel⟩
structure Txt (K : PySem.W.Frag) (mg : Str → Option Value) : Prop where
  b_enumerate : mg "enumerate" = none
  b_int : mg "int" = none
  b_len : mg "len" = none
  b_max : mg "max" = none
  b_min : mg "min" = none
  b_range : mg "range" = none
  b_sorted : mg "sorted" = none
  b_tuple : mg "tuple" = none
  c_MOST_CELLS : ∃ u, mg "MOST_CELLS" = some u ∧ RelV (.int 40) u
  c_MOST_LINKS : ∃ u, mg "MOST_LINKS" = some u ∧ RelV (.int 160) u
  c_SMALL : ∃ u, mg "SMALL" = some u ∧ RelV (.int 20000) u
  c_MOST_STEPS : ∃ u, mg "MOST_STEPS" = some u ∧ RelV (.int 12) u
  c_MOST_COATS : ∃ u, mg "MOST_COATS" = some u ∧ RelV (.int 6) u
  cl_Web : Cls K (He.ga K "Web")
  n_Web_size : NoAttr K (He.ga K "Web") "size"
  n_Web_links : NoAttr K (He.ga K "Web") "links"
  n_Web__rows : NoAttr K (He.ga K "Web") "_rows"
  cl_World : Cls K (He.ga K "World")
  n_World_web : NoAttr K (He.ga K "World") "web"
  n_World_coats : NoAttr K (He.ga K "World") "coats"
  n_World_table : NoAttr K (He.ga K "World") "table"
end PF
namespace PF
open PySem PySem.Spec PyProof.Rows L2
open C8 (Cal Mak Met pe_c pe_mk pe_gc pe_mt pe_mt0)
open PFM
/-- the rows of near cells stand at rr -/
def RowsAt (H : Hp) (rr : V) (ls : List (Nat × Nat)) (n : Nat) : Prop := ∃ ra ys, rr = .ref ra ∧ H ra = some (.lst ys) ∧ TpAll H ys ((List.range n).map fun x => dF (nearL ls x))
theorem RowsAt.same {H H' : Hp} {rr : V} {ls : List (Nat × Nat)} {n : Nat} (s : Same H H') (h : RowsAt H rr ls n) : RowsAt H' rr ls n := by
  obtain ⟨ra, ys, e, h1, h2⟩ := h
  exact ⟨ra, ys, e, s _ _ h1, h2.mono (same_ts s)⟩
/-- a world stands at v -/
def IsWorld (K : PySem.W.Frag) (H : Hp) (v : V) (W : WD) : Prop := ∃ (a dx b db : Addr) (lk rr tb : V), v = .ref a ∧ H a = some (.ins (He.ga K "World") dx [("web", .ref b), ("coats", vN W.coats), ("table", tb)]) ∧
  H b = some (.ins (He.ga K "Web") db [("size", vN W.size), ("links", lk), ("_rows", rr)]) ∧ Tp H lk (dLs W.links) ∧ Tp H tb (dLs W.table) ∧ RowsAt H rr W.links W.size
theorem IsWorld.same {K : PySem.W.Frag} {H H' : Hp} {v : V} {W : WD} (s : Same H H') (h : IsWorld K H v W) : IsWorld K H' v W := by
  obtain ⟨a, dx, b, db, lk, rr, tb, e, h1, h2, h3, h4, h5⟩ := h
  exact ⟨a, dx, b, db, lk, rr, tb, e, s _ _ h1, s _ _ h2, h3.mono (same_ts s), h4.mono (same_ts s), h5.same s⟩
section
variable {P : Program} {w : World} {K : PySem.W.Frag} {mg : Str → Option Value} {base : Heap}
/-! ### checked_floor -/
def spCF (K : PySem.W.Frag) : Sp := fun vs H Q _ => ∃ (wv fv : V) (W : WD) (fl : List Nat), vs = [wv, fv] ∧ IsWorld K H wv W ∧ Tp H fv (dF fl) ∧ FlOK W fl ∧ ∀ H', Same H H' → Q fv H'
theorem b_checked_floor (T : Txt K mg) : BodyOk P w K mg base 0 "checked_floor" s_checked_floor N_checked_floor (spCF K) := by
  intro f cdv A outer s H vs Q E hr h
  obtain ⟨wv, fv, W, fl, rfl, hW, hF, ok, q⟩ := h
  obtain ⟨a, dx, b, db, lk, rr, tb, rfl, h1, h2, h3, h4, hrow⟩ := id hW
  obtain ⟨fa, rfl, hf⟩ := tpF hF
  refine ⟨_, (pss_cons (ps_if (pt_cmpR op_ne (pe_callB call_len_seq (by rfl) T.b_len PySem.boot_len (pa_cons (pv 1) pa_nil)) (pe_fld (pe_fld (pv 0) rfl) rfl) (nomark _))
 (pss_one ps_never)
 pss_nil)
 (pss_cons (ps_for PassesOwn.never rfl (PF.pi_enumT (by rfl) T.b_enumerate (pa_cons (pv 1) pa_nil)) (pg_tup rfl (pgs_cons (pg_name (i := 2) sc_checked_floor.nd rfl (Or.inl rfl)) (pgs_cons (pg_name (i := 3) sc_checked_floor.nd rfl (Or.inl rfl)) pgs_nil)))
 (pss_one (ps_if (pt_not (pt_chain op_le op_lt pe_int (pv 3) (pe_fld (pv 0) rfl)))
 (pss_one ps_never)
 pss_nil)))
 (pss_one (ps_ret (pv 1))))), ?_⟩
  refine ⟨_, rfl, fa, _, rfl, .inr (SqT.of hf), _, rfl, a, _, dx, _, _, rfl, h1, T.cl_World, T.n_World_web, rfl, b, _, db, _, _, rfl, h2, T.cl_Web, T.n_Web_size, rfl, rfl, false, nbf (by rw [List.length_map, ok.1]), iteF ?_⟩
  refine ⟨_, rfl, fa, fl.map vN, rfl, SqT.of hf, for_enumT (K := K) (a := fa) (xs := fl.map vN) (fun i σ H' => Same H H' ∧ ∃ x y, σ = [some (.ref a), some (.ref fa), x, y]) ⟨Same.refl H, none, none, rfl⟩ (fun i σ H' _ p => SqT.of (p.1 _ _ hf)) ?_ ?_⟩
  · rintro i x t σ H' hx ⟨sm, x2, x3, rfl⟩ nt
    obtain ⟨hi, hx2⟩ := List.getElem?_eq_some_iff.mp hx
    rw [List.getElem_map] at hx2
    rw [List.length_map] at hi
    subst hx2
    have hc : fl[i] < W.coats := ok.2 _ (List.getElem_mem hi)
    have sm2 := sm.trans (same_new (o := .tup [.int (i : Nat), vN fl[i]]) nt)
    refine ⟨t, _, rfl, SqT.of upd_same, rfl, _, _, rfl, _, _, rfl, rfl, _, rfl, 0, _, rfl, rfl, true, bt (Int.natCast_nonneg _), iteT ⟨_, rfl, a, _, dx, _, _, rfl, sm2 _ _ h1, T.cl_World, T.n_World_coats, rfl, _, _, rfl, rfl, true, bt (by omega), iteF ?_⟩⟩
    exact ⟨sm2, _, _, rfl⟩
  · rintro σ H' ⟨sm, x2, x3, rfl⟩
    exact ⟨_, rfl, q H' sm⟩
/-! ### is_change -/
def spIC : Sp := fun vs H Q _ => ∃ (tv : V) (tb : List (Nat × Nat)) (p r : Nat), vs = [tv, vN p, vN r] ∧ Tp H tv (dLs tb) ∧ ∀ H', Same H H' → Q (.bl (chg tb p r)) H'
theorem minN (p r : Nat) : (if (r : Int) < (p : Int) then (r : Int) else (p : Int)) = ((min p r : Nat) : Int) := by split <;> omega
theorem maxN (p r : Nat) : (if (r : Int) > (p : Int) then (r : Int) else (p : Int)) = ((max p r : Nat) : Int) := by split <;> omega
theorem b_is_change (T : Txt K mg) : BodyOk P w K mg base 0 "is_change" s_is_change N_is_change spIC := by
  intro f cdv A outer s H vs Q E hr h
  obtain ⟨tv, tb, p, r, rfl, hT, q⟩ := h
  refine ⟨_, (pss_one (ps_ret (pe_cmpR (PF.op_inTD (hu65 hr)) (pe_tup (pa_cons (pe_callB (call_min2 rfl) (by rfl) T.b_min (by decide +kernel) (pa_cons (pv 1) (pa_cons (pv 2) pa_nil))) (pa_cons (pe_callB (call_max2 rfl) (by rfl) T.b_max (by decide +kernel) (pa_cons (pv 1) (pa_cons (pv 2) pa_nil))) pa_nil))) (pv 0) (by with_unfolding_all rfl)))), ?_⟩
  refine ⟨_, rfl, _, rfl, _, _, rfl, _, rfl, _, rfl, _, _, rfl, sz100k (by show 2 ≤ 100000; decide), fun t nt => ?_⟩
  rw [minN, maxN]
  have sm : Same H (upd H t (.tup [vN (min p r), vN (max p r)])) := same_new nt
  refine ⟨tv, rfl, dP (min p r, max p r), tb.map dP, (mkP upd_same).dp, (hT.mono (same_ts sm)).dp, shaped_dP _, shaped_dPs _, ?_⟩
  have e : ((tb.map dP).any fun z => PyData.eqv z (dP (min p r, max p r))) = chg tb p r := any_dP tb _
  rw [e]
  exact q _ sm
/-! ### done -/
def spDone : Sp := fun vs H Q _ => ∃ (fv dv : V) (fl : List Nat) (d : Nat × Nat × Nat), vs = [fv, dv] ∧ Tp H fv (dF fl) ∧ Tp H dv (dD d) ∧ fl.length ≤ 1000 ∧ ∀ H' v, Same H H' → Tp H' v (dF (doD fl d)) → Q v H'
theorem take_map_succ {α : Type} {l : List α} {f : α → V} {i : Nat} {x : α} (h : l[i]? = some x) : (l.take (i + 1)).map f = (l.take i).map f ++ [f x] := by
  rw [List.take_add_one, h, List.map_append]
  rfl
theorem dec_vN {i j : Nat} : decide (vN i = vN j) = decide (i = j) := by
  by_cases h : i = j
  · subst h
    simp
  · have h2 : ¬ vN i = vN j := fun e => h (by injection e with e; omega)
    rw [decide_eq_false h, decide_eq_false h2]
theorem b_done (T : Txt K mg) : BodyOk P w K mg base 0 "done" s_done N_done spDone := by
  intro f cdv A outer s H vs Q E hr h
  obtain ⟨fv, dv, fl, ⟨x, y, c⟩, rfl, hF, hD, hl, q⟩ := h
  obtain ⟨fa, rfl, hf⟩ := tpF hF
  obtain ⟨da, rfl, hd⟩ := tpD hD
  refine ⟨_, (pss_cons (ps_asg (pv 1) (pg_tup rfl (pgs_cons (pg_name (i := 2) sc_done.nd rfl (Or.inr rfl)) (pgs_cons (pg_name (i := 3) sc_done.nd rfl (Or.inr rfl)) (pgs_cons (pg_name (i := 4) sc_done.nd rfl (Or.inr rfl)) pgs_nil)))))
 (pss_one (ps_ret (pe_tupleOf (by rfl) T.b_tuple (pe_lc (own := [("cell", 5), ("worn", 6)]) (g := gTup K 2 (gCons (gName 5) (gCons (gName 6) gNil))) (by rfl) sc_done.nd (PF.pi_enumT (by rfl) T.b_enumerate (pa_cons (pv 0) pa_nil)) (blkOk_by (N := N_done) (sc := defScope s_done) (own := [("cell", 5), ("worn", 6)]) (by decide +kernel)) (fun _ _ _ _ _ => by exact (pg_tup rfl (pgs_cons (pg_name (i := 5) sc_done.nd rfl (Or.inl rfl)) (pgs_cons (pg_name (i := 6) sc_done.nd rfl (Or.inl rfl)) pgs_nil)))) (fun _ _ _ _ _ => by exact pts_nil) (fun _ _ _ _ _ => by exact (pe_ifExp (PW.pt (pw_or (pt_cmpR op_eq (pv 5) (pv 2) (nomark _)) (pw_or1 (pt_cmpR op_eq (pv 5) (pv 3) (nomark _))))) (pv 4) (pv 6)))))))), ?_⟩
  refine ⟨_, rfl, da, _, rfl, SqT.of hd, rfl, _, _, rfl, _, _, rfl, _, _, rfl, rfl, ?_⟩
  have hlen := doneM_len fl x y c
  refine ⟨_, rfl, fa, fl.map vN, rfl, SqT.of hf, fun D nD => lc_enumT (K := K) (a := fa) (xs := fl.map vN) (fun i H' => Same H H' ∧ H' D = some (.lst (((doneM fl x y c).take i).map vN)))
    ⟨same_new nD, upd_same⟩ (fun i H' _ p => SqT.of (p.1 _ _ hf)) ?_ ?_⟩
  · rintro i z t H' hz ⟨sm, hL⟩ nt
    obtain ⟨hi, hz2⟩ := List.getElem?_eq_some_iff.mp hz
    rw [List.getElem_map] at hz2
    rw [List.length_map] at hi
    subst hz2
    have sm2 := sm.trans (same_new (o := .tup [.int (i : Nat), vN fl[i]]) nt)
    have hL2 : (upd H' t (.tup [.int (i : Nat), vN fl[i]])) D = some (.lst (((doneM fl x y c).take i).map vN)) := same_new nt _ _ hL
    have g : (doneM fl x y c)[i]? = some (if i = x ∨ i = y then c else fl[i]) := by rw [doneM_get, List.getElem?_eq_getElem hi]; rfl
    have fin : ∀ v, v = vN (if i = x ∨ i = y then c else fl[i]) → ∃ acc, (upd H' t (.tup [.int (i : Nat), vN fl[i]])) D = some (.lst acc) ∧ acc.length < sizeLine ∧ Same H (upd (upd H' t (.tup [.int (i : Nat), vN fl[i]])) D (.lst (acc ++ [v]))) ∧
        (upd (upd H' t (.tup [.int (i : Nat), vN fl[i]])) D (.lst (acc ++ [v]))) D = some (.lst (((doneM fl x y c).take (i + 1)).map vN)) := by
      rintro v rfl
      refine ⟨_, hL2, sz100kl (by rw [List.length_map, List.length_take]; omega), same_mut sm2 nD, ?_⟩
      rw [upd_same, take_map_succ g]
    refine ⟨t, _, rfl, SqT.of upd_same, rfl, _, _, rfl, _, _, rfl, rfl, rfl, yes (itT rfl ?_)⟩
    refine ⟨_, rfl, _, rfl, rfl, _, rfl, ?_⟩
    by_cases h1 : i = x
    · refine itT (by rw [dec_vN]; exact decide_eq_true h1) (itT rfl ⟨_, rfl, fin _ ?_⟩)
      rw [if_pos (.inl h1)]
    · refine itF (by rw [dec_vN]; exact decide_eq_false h1) ⟨_, rfl, _, rfl, rfl, _, rfl, ?_⟩
      by_cases h2 : i = y
      · refine itT (by rw [dec_vN]; exact decide_eq_true h2) ⟨_, rfl, fin _ ?_⟩
        rw [if_pos (.inr h2)]
      · refine itF (by rw [dec_vN]; exact decide_eq_false h2) ⟨_, rfl, fin _ ?_⟩
        rw [if_neg (by omega)]
  · rintro H' ⟨sm, hL⟩
    refine .inl ⟨D, _, rfl, SqL.of hL, fun p np => q _ _ (sm.trans (same_new np)) (mkF (upd_same.trans ?_))⟩
    rw [List.length_map, ← hlen, List.take_length]
    rfl
/-! ### numbers -/
def spFC (K : PySem.W.Frag) : Sp := fun vs H Q _ => ∃ (wv : V) (W : WD), vs = [wv] ∧ IsWorld K H wv W ∧ W.size ≤ 1000 ∧ W.coats ≤ 1000 ∧ Q (vN (cntM W)) H
theorem b_floor_count (T : Txt K mg) : BodyOk P w K mg base 0 "floor_count" s_floor_count N_floor_count (spFC K) := by
  intro f cdv A outer s H vs Q E hr h
  obtain ⟨wv, W, rfl, hW, hs, hc, q⟩ := h
  obtain ⟨a, dx, b, db, lk, rr, tb, rfl, h1, h2, h3, h4, hrow⟩ := id hW
  refine ⟨_, (pss_cons (ps_set (i := 1) sc_floor_count.nd rfl (Or.inl rfl) pe_int)
 (pss_cons (ps_for PassesOwn.never rfl (pi_range1 (by rfl) T.b_range (pa_cons (pe_fld (pe_fld (pv 0) rfl) rfl) pa_nil)) (pg_name (i := 2) sc_floor_count.nd rfl (Or.inl rfl))
 (pss_one (ps_set (i := 1) sc_floor_count.nd rfl (Or.inl rfl) (pe_op op_mul (pv 1) (pe_fld (pv 0) rfl)))))
 (pss_one (ps_ret (pv 1))))), ?_⟩
  refine ⟨_, rfl, a, _, dx, _, _, rfl, h1, T.cl_World, T.n_World_web, rfl, b, _, db, _, _, rfl, h2, T.cl_Web, T.n_Web_size, rfl, _, rfl, (small62 (by omega)).1, (small62 (by omega)).2, for_range0 (n := W.size) (fun i σ H' => H' = H ∧ ∃ x, σ = [some (.ref a), some (vN (W.coats ^ i)), x]) ⟨rfl, none, rfl⟩ ?_ ?_⟩
  · rintro i σ H' hi ⟨rfl, x, rfl⟩
    refine ⟨_, rfl, _, rfl, a, _, dx, _, _, rfl, h1, T.cl_World, T.n_World_coats, rfl, _, _, rfl, rfl, .inr (by omega), rfl, some (vN i), ?_⟩
    have e : ((W.coats ^ i : Nat) : Int) * (W.coats : Int) = ((W.coats ^ (i + 1) : Nat) : Int) := by rw [Nat.pow_succ, Int.natCast_mul]
    show _ = [some (V.ref a), some (V.int (((W.coats ^ i : Nat) : Int) * (W.coats : Int))), _]
    rw [e]
    rfl
  · rintro σ H' ⟨rfl, x, rfl⟩
    exact ⟨_, rfl, q⟩
def spWS (K : PySem.W.Frag) : Sp := fun vs H Q _ => ∃ (wv : V) (W : WD), vs = [wv] ∧ IsWorld K H wv W ∧ WOK W ∧ Q .non H
theorem b_want_small (T : Txt K mg) (c_floor_count : Cal P w K mg base 1 "floor_count" (spFC K) []) : BodyOk P w K mg base 1 "want_small" s_want_small N_want_small (spWS K) := by
  intro f cdv A outer s H vs Q E hr h
  obtain ⟨wv, W, rfl, hW, ok, q⟩ := h
  refine ⟨_, (pss_cons (ps_set (i := 1) sc_want_small.nd rfl (Or.inl rfl) (pe_c c_floor_count hr (by decide) (by rfl) (pa_cons (pv 0) pa_nil)))
 (pss_one (ps_if (pt_cmpR op_gt (pv 1) (pe_gc (by rfl) T.c_SMALL) (nomark _))
 (pss_one ps_never)
 pss_nil))), ?_⟩
  refine ⟨_, rfl, wv, W, rfl, hW, (by have := ok.s40; omega), (by have := ok.c6; omega), _, rfl, _, _, rfl, rfl, false, bf (by have := ok.small; omega), iteF q⟩
def spNum (K : PySem.W.Frag) : Sp := fun vs H Q _ => ∃ (wv fv : V) (W : WD) (fl : List Nat), vs = [wv, fv] ∧ IsWorld K H wv W ∧ Tp H fv (dF fl) ∧ W.coats ≤ 1000 ∧ Q (vN (numM W.coats fl)) H
theorem b_number_of (T : Txt K mg) : BodyOk P w K mg base 0 "number_of" s_number_of N_number_of (spNum K) := by
  intro f cdv A outer s H vs Q E hr h
  obtain ⟨wv, fv, W, fl, rfl, hW, hF, hc, q⟩ := h
  obtain ⟨a, dx, b, db, lk, rr, tb, rfl, h1, h2, h3, h4, hrow⟩ := id hW
  obtain ⟨fa, rfl, hf⟩ := tpF hF
  refine ⟨_, (pss_cons (ps_set (i := 2) sc_number_of.nd rfl (Or.inl rfl) pe_int)
 (pss_cons (ps_for PassesOwn.never rfl (pi_tup (pv 1)) (pg_name (i := 3) sc_number_of.nd rfl (Or.inl rfl))
 (pss_one (ps_set (i := 2) sc_number_of.nd rfl (Or.inl rfl) (pe_op op_add (pe_op op_mul (pv 2) (pe_fld (pv 0) rfl)) (pv 3)))))
 (pss_one (ps_ret (pv 2))))), ?_⟩
  refine ⟨_, rfl, fa, rfl, ⟨_, SqT.of hf⟩, for_tup (K := K) (a := fa) (xs := fl.map vN) (fun i σ H' => H' = H ∧ ∃ x, σ = [some (.ref a), some (.ref fa), some (vN (numM W.coats (fl.take i))), x]) ⟨rfl, none, rfl⟩ (fun i σ H' _ p => by rw [p.1]; exact SqT.of hf) ?_ ?_⟩
  · rintro i x σ H' hx ⟨rfl, y, rfl⟩
    obtain ⟨hi, hx2⟩ := List.getElem?_eq_some_iff.mp hx
    rw [List.getElem_map] at hx2
    rw [List.length_map] at hi
    subst hx2
    refine ⟨_, rfl, _, rfl, a, _, dx, _, _, rfl, h1, T.cl_World, T.n_World_coats, rfl, _, _, rfl, rfl, .inr (by omega), _, rfl, _, _, rfl, rfl, rfl, some (vN fl[i]), ?_⟩
    have e : numM W.coats (fl.take (i + 1)) = numM W.coats (fl.take i) * W.coats + fl[i] := by
      rw [List.take_add_one, List.getElem?_eq_getElem hi]
      exact numM_snoc _ _ _
    have e2 : ((numM W.coats (fl.take i) : Nat) : Int) * (W.coats : Int) + (fl[i] : Int) = ((numM W.coats (fl.take (i + 1)) : Nat) : Int) := by rw [e, Int.natCast_add, Int.natCast_mul]
    show [some (V.ref a), some (.ref fa), some (V.int (((numM W.coats (fl.take i) : Nat) : Int) * (W.coats : Int) + (fl[i] : Int))), _] = _
    rw [e2]
  · rintro σ H' ⟨rfl, x, rfl⟩
    rw [List.length_map, List.take_length]
    exact ⟨_, rfl, q⟩
/-! ### deeds -/
def spDeeds (K : PySem.W.Frag) : Sp := fun vs H Q _ => ∃ (wv fv : V) (W : WD) (fl : List Nat), vs = [wv, fv] ∧ IsWorld K H wv W ∧ Tp H fv (dF fl) ∧ WOK W ∧ FlOK W fl ∧ ∀ H' v, Same H H' → Tp H' v (dDs (deedsM W fl)) → Q v H'
theorem deeds_len {W : WD} (k : WOK W) (fl : List Nat) : ∀ ls : List (Nat × Nat), (ls.flatMap (deedsAt W fl)).length ≤ ls.length * 6
  | [] => Nat.le_refl _
  | l :: ls => by
    have h := deeds_len k fl ls
    have h2 : (deedsAt W fl l).length ≤ 6 := by
      unfold deedsAt
      split
      · rw [List.length_map]
        have := List.length_filter_le (fun c => chg W.table (at0 fl l.1) c) (List.range W.coats)
        rw [List.length_range] at this
        have := k.c6
        omega
      · exact Nat.zero_le _
    rw [List.flatMap_cons, List.length_append, List.length_cons]
    omega
theorem b_deeds (T : Txt K mg) (c_checked_floor : Cal P w K mg base 1 "checked_floor" (spCF K) []) (c_is_change : Cal P w K mg base 1 "is_change" spIC []) : BodyOk P w K mg base 1 "deeds" s_deeds N_deeds (spDeeds K) := by
  intro f cdv A outer s H vs Q E hr h
  obtain ⟨wv, fv, W, fl, rfl, hW, hF, ok, fok, q⟩ := h
  refine ⟨_, (pss_cons (ps_expr (pe_c c_checked_floor hr (by decide) (by rfl) (pa_cons (pv 0) (pa_cons (pv 1) pa_nil))))
 (pss_cons (ps_set (i := 2) sc_deeds.nd rfl (Or.inl rfl) (pe_lst pa_nil))
 (pss_cons (ps_for PassesOwn.never rfl (pi_tup (pe_fld (pe_fld (pv 0) rfl) rfl)) (pg_tup rfl (pgs_cons (pg_name (i := 3) sc_deeds.nd rfl (Or.inl rfl)) (pgs_cons (pg_name (i := 4) sc_deeds.nd rfl (Or.inl rfl)) pgs_nil)))
 (pss_one (ps_if (pt_cmpR op_eq (pe_ix ix_tup (pv 1) (pv 3) (fun _ _ => rfl)) (pe_ix ix_tup (pv 1) (pv 4) (fun _ _ => rfl)) (nomark _))
 (pss_one (ps_for PassesOwn.never rfl (pi_range1 (by rfl) T.b_range (pa_cons (pe_fld (pv 0) rfl) pa_nil)) (pg_name (i := 5) sc_deeds.nd rfl (Or.inl rfl))
 (pss_one (ps_if (pt_val (pe_c c_is_change hr (by decide) (by rfl) (pa_cons (pe_fld (pv 0) rfl) (pa_cons (pe_ix ix_tup (pv 1) (pv 3) (fun _ _ => rfl)) (pa_cons (pv 5) pa_nil)))))
 (pss_one (ps_expr (pe_bm PySem.F.plainAttrs_list PySem.F.slot_list_append PySem.F.type_list_append mt_append (pv 2) (pa_cons (pe_tup (pa_cons (pv 3) (pa_cons (pv 4) (pa_cons (pv 5) pa_nil)))) pa_nil))))
 pss_nil))))
 pss_nil)))
 (pss_one (ps_ret (pe_tupleOf (by rfl) T.b_tuple (pv 2))))))), ?_⟩
  refine ⟨_, rfl, _, rfl, wv, fv, W, fl, rfl, hW, hF, fok, fun H1 s1 => ?_⟩
  refine ⟨Nat.zero_le _, fun l nl => ?_⟩
  have s2 : Same H1 (upd H1 l (.lst [])) := same_new nl
  obtain ⟨a, dx, b, db, lk, rr, tb, rfl, h1, h2, h3, h4, hrow⟩ := hW.same s1
  obtain ⟨fa, rfl, hf⟩ := tpF hF
  obtain ⟨la, lxs, rfl, hl, hla⟩ := tpT h3
  have hlen : lxs.length = W.links.length := by rw [hla.length, List.length_map]
  have hf1 : H1 fa = some (.tup (fl.map vN)) := s1 _ _ hf
  have dget : ∀ {x : Nat}, x < W.size → (fl.map vN)[x]? = some (vN (at0 fl x)) := fun hx => vN_get (by rw [fok.1]; exact hx)
  refine ⟨_, rfl, a, _, dx, _, _, rfl, s2 _ _ h1, T.cl_World, T.n_World_web, rfl, b, _, db, _, _, rfl, s2 _ _ h2, T.cl_Web, T.n_Web_links, rfl, la, rfl, ⟨_, SqT.of (s2 _ _ hl)⟩, for_tup (K := K) (a := la) (xs := lxs)
    (fun i σ H' => Same H1 H' ∧ (∃ ys, H' l = some (.lst ys) ∧ TpAll H' ys (((W.links.take i).flatMap (deedsAt W fl)).map dD)) ∧ ∃ x3 x4 x5, σ = [some (.ref a), some (.ref fa), some (.ref l), x3, x4, x5])
    ⟨s2, ⟨[], upd_same, .nil⟩, none, none, none, rfl⟩ (fun i σ H' _ p => SqT.of (p.1 _ _ hl)) ?_ ?_⟩
  · rintro i x σ H' hx ⟨sm, ⟨ys, hys, hall⟩, x3, x4, x5, rfl⟩
    obtain ⟨⟨p, r⟩, hp, tp⟩ := hla.getF hx
    obtain ⟨t, rfl, ht⟩ := tpP tp
    obtain ⟨hpr, hrs⟩ := ok.lk _ (List.mem_of_getElem? hp)
    simp only at hpr hrs
    refine ⟨t, _, rfl, SqT.of (sm _ _ ht), rfl, _, _, rfl, _, _, rfl, rfl, ?_⟩
    have hfH := sm _ _ hf1
    refine ⟨_, rfl, _, rfl, fa, _, _, _, rfl, rfl, SqT.of hfH, at_of rfl (dget (by omega)), _, rfl, _, rfl, fa, _, _, _, rfl, rfl, SqT.of hfH, at_of rfl (dget hrs), rfl, _, rfl, ?_⟩
    have etake : (W.links.take (i + 1)).flatMap (deedsAt W fl) = (W.links.take i).flatMap (deedsAt W fl) ++ deedsAt W fl (p, r) := by
      rw [List.take_add_one, hp, List.flatMap_append]
      simp
    have hbound : ((W.links.take i).flatMap (deedsAt W fl)).length ≤ 960 := by
      have e1 := deeds_len ok fl (W.links.take i)
      have e2 := ok.l160
      have e3 : (W.links.take i).length ≤ W.links.length := by rw [List.length_take]; omega
      omega
    by_cases hpe : at0 fl p = at0 fl r
    · refine itT (by rw [dec_vN]; exact decide_eq_true hpe) ?_
      have eat : deedsAt W fl (p, r) = ((List.range W.coats).filter fun c => chg W.table (at0 fl p) c).map fun c => (p, r, c) := by
        unfold deedsAt
        rw [if_pos hpe]
      refine ⟨_, rfl, a, _, dx, _, _, rfl, sm _ _ h1, T.cl_World, T.n_World_coats, rfl, _, rfl, (small62 (by have := ok.c6; omega)).1, (small62 (by have := ok.c6; omega)).2, for_range0 (n := W.coats)
        (fun j σ H2 => Same H1 H2 ∧ (∃ ys, H2 l = some (.lst ys) ∧ TpAll H2 ys (((W.links.take i).flatMap (deedsAt W fl)).map dD ++ (((List.range j).filter fun c => chg W.table (at0 fl p) c).map fun c => (p, r, c)).map dD)) ∧ ∃ x5, σ = [some (.ref a), some (.ref fa), some (.ref l), some (vN p), some (vN r), x5])
        ⟨sm, ⟨ys, hys, by simpa using hall⟩, x5, rfl⟩ ?_ ?_⟩
      · rintro j σ H2 hj ⟨sm2, ⟨zs, hzs, hall2⟩, y5, rfl⟩
        refine ⟨_, rfl, a, _, dx, _, _, rfl, sm2 _ _ h1, T.cl_World, T.n_World_table, rfl, _, rfl, _, rfl, fa, _, _, _, rfl, rfl, SqT.of (sm2 _ _ hf1), at_of rfl (dget (by omega)), _, rfl, tb, W.table, at0 fl p, j, rfl, h4.mono (same_ts sm2), fun H3 s3 => ⟨_, rfl, ?_⟩⟩
        have smH3 := sm2.trans s3
        have hzs3 := s3 _ _ hzs
        by_cases hch : chg W.table (at0 fl p) j = true
        · refine itT hch ⟨_, rfl, .inl ⟨rfl, _, SqL.of hzs3⟩, _, rfl, _, rfl, _, rfl, sz100k (by show 3 ≤ 100000; decide), fun t2 nt2 => ?_⟩
          have s4 : Same H3 (upd H3 t2 (.tup [vN p, vN r, vN j])) := same_new nt2
          have hzs4 := s4 _ _ hzs3
          have hl4 : zs.length ≤ 966 := by
            rw [hall2.length, List.length_append, List.length_map, List.length_map, List.length_map]
            have := List.length_filter_le (fun c => chg W.table (at0 fl p) c) (List.range j)
            rw [List.length_range] at this
            have := ok.c6
            omega
          refine ⟨l, _, _, rfl, rfl, hzs4, sz100kl (by omega), ?_⟩
          have ts4 : TK (upd H3 t2 (.tup [vN p, vN r, vN j])) (upd (upd H3 t2 (.tup [vN p, vN r, vN j])) l (.lst (zs ++ [.ref t2]))) := ts_lst hzs4
          have tsA := ((same_ts s3).trans (same_ts s4)).trans ts4
          refine ⟨same_mut (smH3.trans s4) nl, ⟨_, upd_same, ?_⟩, _, rfl⟩
          have e : (List.range (j + 1)).filter (fun c => chg W.table (at0 fl p) c) = (List.range j).filter (fun c => chg W.table (at0 fl p) c) ++ [j] := by
            rw [List.range_succ, List.filter_append]
            simp [hch]
          rw [e, List.map_append, List.map_append, ← List.append_assoc]
          exact (hall2.mono tsA).app (.one ((mkD upd_same).mono ts4))
        · have hch2 : chg W.table (at0 fl p) j = false := by
            cases q : chg W.table (at0 fl p) j with
            | false => rfl
            | true => exact absurd q hch
          refine itF hch2 ⟨smH3, ⟨zs, hzs3, ?_⟩, _, rfl⟩
          have e : (List.range (j + 1)).filter (fun c => chg W.table (at0 fl p) c) = (List.range j).filter (fun c => chg W.table (at0 fl p) c) := by
            rw [List.range_succ, List.filter_append]
            simp [hch2]
          rw [e]
          exact hall2.mono (same_ts s3)
      · rintro σ H2 ⟨sm2, ⟨zs, hzs, hall2⟩, y5, rfl⟩
        exact ⟨sm2, ⟨zs, hzs, by rw [etake, eat, List.map_append]; exact hall2⟩, _, _, _, rfl⟩
    · refine itF (by rw [dec_vN]; exact decide_eq_false hpe) ⟨sm, ⟨ys, hys, ?_⟩, _, _, _, rfl⟩
      have eat : deedsAt W fl (p, r) = [] := by
        unfold deedsAt
        rw [if_neg hpe]
      rw [etake, eat, List.append_nil]
      exact hall
  · rintro σ H' ⟨sm, ⟨ys, hys, hall⟩, x3, x4, x5, rfl⟩
    refine ⟨_, rfl, .inl ⟨l, _, rfl, SqL.of hys, fun t nt => q _ _ ((s1.trans sm).trans (same_new nt)) (.tup upd_same ?_)⟩⟩
    rw [hlen, List.take_length] at hall
    exact hall.mono (ts_new nt)
end
end PF
namespace PF
open PySem PySem.Spec PyProof.Rows L2
open C8 (Cal Mak Met pe_c pe_mk pe_gc pe_mt pe_mt0)
open PFM
section
variable {P : Program} {w : World} {K : PySem.W.Frag} {mg : Str → Option Value} {base : Heap}
def spFar (K : PySem.W.Frag) : Sp := fun vs H Q _ => ∃ (wv fv : V) (W : WD) (fl : List Nat), vs = [wv, fv] ∧ IsWorld K H wv W ∧ Tp H fv (dF fl) ∧ WOK W ∧ FlOK W fl ∧ ∀ H' v told, Same H H' → FarSpec W fl told → Tp H' v (dI told) → Q v H'
theorem b_far (T : Txt K mg) (c_want_small : Cal P w K mg base 2 "want_small" (spWS K) []) (c_checked_floor : Cal P w K mg base 1 "checked_floor" (spCF K) []) (c_floor_count : Cal P w K mg base 1 "floor_count" (spFC K) [])
    (c_number_of : Cal P w K mg base 1 "number_of" (spNum K) []) (c_deeds : Cal P w K mg base 2 "deeds" (spDeeds K) []) (c_done : Cal P w K mg base 1 "done" spDone []) : BodyOk P w K mg base 2 "far" s_far N_far (spFar K) := by
  intro f cdv A outer s H vs Q E hr h
  obtain ⟨wv, fv, W, fl, rfl, hW, hF, ok, fok, q⟩ := h
  have hs := ok.small
  have hcoats : W.coats ≤ 1000 := by have := ok.c6; omega
  have hsize : W.size ≤ 1000 := by have := ok.s40; omega
  refine ⟨_, (pss_cons (ps_expr (pe_c c_want_small hr (by decide) (by rfl) (pa_cons (pv 0) pa_nil)))
 (pss_cons (ps_expr (pe_c c_checked_floor hr (by decide) (by rfl) (pa_cons (pv 0) (pa_cons (pv 1) pa_nil))))
 (pss_cons (ps_set (i := 2) sc_far.nd rfl (Or.inl rfl) (pe_op op_rep (pe_lst (pa_cons (pe_un un_neg pe_int) pa_nil)) (pe_c c_floor_count hr (by decide) (by rfl) (pa_cons (pv 0) pa_nil))))
 (pss_cons (ps_asg pe_int (pg_sub (pv 2) (pe_c c_number_of hr (by decide) (by rfl) (pa_cons (pv 0) (pa_cons (pv 1) pa_nil))) set_list))
 (pss_cons (ps_set (i := 3) sc_far.nd rfl (Or.inl rfl) (pe_lst (pa_cons (pv 1) pa_nil)))
 (pss_cons (ps_set (i := 4) sc_far.nd rfl (Or.inl rfl) pe_int)
 (pss_cons (ps_while PassesOwn.never (pt_cmpR op_lt (pv 4) (pe_callB call_len_seq (by rfl) T.b_len PySem.boot_len (pa_cons (pv 3) pa_nil)) (nomark _))
 (pss_cons (ps_set (i := 5) sc_far.nd rfl (Or.inl rfl) (pe_ix ix_list (pv 3) (pv 4) (fun _ _ => rfl)))
 (pss_cons (ps_aug (i := 4) sc_far.nd rfl (Or.inl rfl) pe_int ip_add)
 (pss_cons (ps_set (i := 6) sc_far.nd rfl (Or.inl rfl) (pe_ix ix_list (pv 2) (pe_c c_number_of hr (by decide) (by rfl) (pa_cons (pv 0) (pa_cons (pv 5) pa_nil))) (fun _ _ => rfl)))
 (pss_one (ps_for PassesOwn.never rfl (pi_tup (pe_c c_deeds hr (by decide) (by rfl) (pa_cons (pv 0) (pa_cons (pv 5) pa_nil)))) (pg_name (i := 7) sc_far.nd rfl (Or.inl rfl))
 (pss_cons (ps_set (i := 8) sc_far.nd rfl (Or.inl rfl) (pe_c c_done hr (by decide) (by rfl) (pa_cons (pv 5) (pa_cons (pv 7) pa_nil))))
 (pss_cons (ps_set (i := 9) sc_far.nd rfl (Or.inl rfl) (pe_c c_number_of hr (by decide) (by rfl) (pa_cons (pv 0) (pa_cons (pv 8) pa_nil))))
 (pss_one (ps_if (pt_cmpR op_eq (pe_ix ix_list (pv 2) (pv 9) (fun _ _ => rfl)) (pe_un un_neg pe_int) (nomark _))
 (pss_cons (ps_asg (pe_op op_add (pv 6) pe_int) (pg_sub (pv 2) (pv 9) set_list))
 (pss_one (ps_expr (pe_bm PySem.F.plainAttrs_list PySem.F.slot_list_append PySem.F.type_list_append mt_append (pv 3) (pa_cons (pv 8) pa_nil)))))
 pss_nil))))))))))
 (pss_one (ps_ret (pe_tupleOf (by rfl) T.b_tuple (pv 2))))))))))), ?_⟩
  refine ⟨_, rfl, wv, W, rfl, hW, ok, _, rfl, _, rfl, wv, fv, W, fl, rfl, hW, hF, fok, fun H1 s1 => ?_⟩
  refine ⟨1, rfl, sz100k (by show 1 ≤ 100000; decide), fun l nl => ?_⟩
  have s2 : Same H1 (upd H1 l (.lst [.int (-1)])) := same_new nl
  refine ⟨_, rfl, wv, W, rfl, (hW.same s1).same s2, hsize, hcoats, l, _, [.int (-1)], rfl, rfl, upd_same, by omega, by omega, sz100k (by show 1 * cntM W ≤ 100000; omega), fun tl ntl => ?_⟩
  have e0 : (List.replicate (Int.toNat ((cntM W : Nat) : Int)) [V.int (-1)]).flatten = (List.replicate (cntM W) (-1 : Int)).map V.int := by
    rw [Int.toNat_natCast, rep_flat, List.map_replicate]
  rw [e0]
  have s3 := same_new (o := .lst ((List.replicate (cntM W) (-1 : Int)).map V.int)) ntl
  have ntl1 : H1 tl = none := s2.free ntl
  have sA := (s1.trans s2).trans s3
  refine ⟨_, rfl, _, rfl, _, rfl, wv, fv, W, fl, rfl, hW.same sA, hF.mono (same_ts sA), hcoats, ?_⟩
  have hnum := fok.num_lt
  refine ⟨tl, _, _, numM W.coats fl, rfl, rfl, upd_same, ixN_nat (by rw [List.length_map, List.length_replicate]; exact hnum), ?_⟩
  rw [upd_upd]
  have nlH : H tl = none := s1.free ntl1
  have sB : ∀ o, Same H (upd (upd H1 l (.lst [.int (-1)])) tl o) := fun o => same_mut (s1.trans s2) nlH
  have eset : ((List.replicate (cntM W) (-1 : Int)).map V.int).set (numM W.coats fl) (.int 0) = (((List.replicate (cntM W) (-1 : Int)).set (numM W.coats fl) 0)).map V.int := by
    rw [List.map_set]
  rw [eset]
  refine ⟨_, rfl, sz100k (by show 1 ≤ 100000; decide), fun ql nql => ?_⟩
  have hql : H ql = none := (sB _).free nql
  have netq : tl ≠ ql := ne_of_none upd_same nql
  have h5 := same_new (o := .lst [fv]) nql
  -- the loop
  refine ⟨fun m σ H' => ∃ told q qs a x5 x6 x7 x8 x9, Same H H' ∧ H' tl = some (.lst (told.map V.int)) ∧ H' ql = some (.lst qs) ∧ TpAll H' qs (q.map dF) ∧ BI W fl told q a [] ∧ a ≤ q.length ∧ m = cntM W - a ∧
    σ = [some wv, some fv, some (.ref tl), some (.ref ql), some (vN a), x5, x6, x7, x8, x9], ⟨_, _, [fl], [fv], 0, none, none, none, none, none, (sB _).trans h5, h5 _ _ upd_same, upd_same, .one ((hF.mono (same_ts (sB _))).mono (same_ts h5)), BI.init fok (cnt_pos ok), Nat.zero_le _, rfl, rfl⟩, ?_⟩
  rintro m σ H2 ⟨told, qq, qs, a, x5, x6, x7, x8, x9, sm, htl, hqs, hall, B, haq, rfl, rfl⟩
  have hqlen : qs.length = qq.length := by rw [hall.length, List.length_map]
  have hqN : qq.length ≤ cntM W := by have := B.cnt; omega
  refine ⟨_, rfl, _, rfl, ql, qs, rfl, .inl (SqL.of hqs), _, _, rfl, rfl, _, rfl, ?_⟩
  by_cases hlt : a < qq.length
  · refine itT (decide_eq_true (by rw [hqlen]; omega)) ⟨fun σ' H' => ∃ m', m' < cntM W - a ∧ ∃ told q qs a x5 x6 x7 x8 x9, Same H H' ∧ H' tl = some (.lst (told.map V.int)) ∧ H' ql = some (.lst qs) ∧ TpAll H' qs (q.map dF) ∧ BI W fl told q a [] ∧ a ≤ q.length ∧ m' = cntM W - a ∧
      σ' = [some wv, some fv, some (.ref tl), some (.ref ql), some (vN a), x5, x6, x7, x8, x9], fun _ _ z => z, ?_⟩
    obtain ⟨u, hu⟩ : ∃ u, qq[a]? = some u := ⟨qq[a], List.getElem?_eq_getElem hlt⟩
    have huo : FlOK W u := B.ok u (List.mem_of_getElem? hu)
    obtain ⟨hv, hhv, thv⟩ := hall.get (i := a) (d := dF u) (by rw [List.getElem?_map, hu]; rfl)
    refine ⟨_, rfl, _, rfl, ql, qs, _, hv, rfl, rfl, SqL.of hqs, at_of rfl hhv, ?_⟩
    refine ⟨_, rfl, _, 1, rfl, rfl, ?_⟩
    refine ⟨_, rfl, _, rfl, _, rfl, wv, hv, W, u, rfl, hW.same sm, thv, hcoats, tl, _, _, .int (dv W told u), rfl, rfl, SqL.of htl, at_of rfl (by rw [List.getElem?_map, dv_get huo B.len]; rfl), ?_⟩
    refine ⟨_, rfl, _, rfl, wv, hv, W, u, rfl, hW.same sm, thv, ok, huo, fun H3 dvv s3 tdv => ?_⟩
    obtain ⟨da, dxs, rfl, hda, hdx⟩ := tpT tdv
    have hdl : dxs.length = (deedsM W u).length := by rw [hdx.length, List.length_map]
    refine ⟨da, rfl, ⟨_, SqT.of hda⟩, for_tup (K := K) (a := da) (xs := dxs) (fun i σ H' => ∃ told' q' qs' y7 y8 y9, Same H H' ∧ TK H3 H' ∧ H' tl = some (.lst (told'.map V.int)) ∧ H' ql = some (.lst qs') ∧ TpAll H' qs' (q'.map dF) ∧ BI W fl told' q' a ((deedsM W u).take i) ∧ q'[a]? = some u ∧ dv W told' u = dv W told u ∧
      σ = [some wv, some fv, some (.ref tl), some (.ref ql), some (.int ((a : Int) + 1)), some hv, some (.int (dv W told u)), y7, y8, y9]) ⟨told, qq, qs, x7, x8, x9, sm.trans s3, TK.refl _, s3 _ _ htl, s3 _ _ hqs, hall.mono (same_ts s3), B, hu, rfl, rfl⟩
      (fun i σ H' _ p => by
        obtain ⟨_, _, _, _, _, _, _, tk, _⟩ := p
        exact SqT.of (tk _ _ hda)) ?_ ?_⟩
    · rintro i x σ H4 hx ⟨told', q', qs', y7, y8, y9, sm4, tk4, htl4, hqs4, hall4, B4, hu4, edv, rfl⟩
      obtain ⟨d, hd, td⟩ := hdx.getF hx
      have hdm : d ∈ deedsM W u := List.mem_of_getElem? hd
      have etake : (deedsM W u).take (i + 1) = (deedsM W u).take i ++ [d] := by rw [List.take_add_one, hd]; rfl
      have hbok : FlOK W (doD u d) := huo.doD hdm
      have tkA : TK H2 H4 := (same_ts s3).trans tk4
      have hul : u.length ≤ 1000 := by rw [huo.1]; exact hsize
      refine ⟨_, rfl, _, rfl, hv, x, u, d, rfl, thv.mono tkA, td.mono tk4, hul, fun H5 bv s5 tb => ?_⟩
      refine ⟨_, rfl, _, rfl, wv, bv, W, doD u d, rfl, hW.same (sm4.trans s5), tb, hcoats, ?_⟩
      refine ⟨_, rfl, _, rfl, tl, _, _, .int (dv W told' (doD u d)), rfl, rfl, SqL.of (s5 _ _ htl4), at_of rfl (by rw [List.getElem?_map, dv_get hbok B4.len]; rfl), 1, rfl, rfl, _, rfl, ?_⟩
      by_cases hn : dv W told' (doD u d) = -1
      · refine itT (by rw [dec_int2]; exact decide_eq_true hn) ?_
        have B5 := B4.new hu4 hdm hn
        have hqN4 : q'.length + 1 ≤ cntM W := by
          have := B5.cnt
          rw [List.length_append, List.length_singleton] at this
          omega
        have hqs4l : qs'.length = q'.length := by rw [hall4.length, List.length_map]
        refine ⟨_, rfl, _, 1, rfl, rfl, _, rfl, _, rfl, tl, _, _, numM W.coats (doD u d), rfl, rfl, s5 _ _ htl4, ixN_nat (by rw [List.length_map, B4.len]; exact hbok.num_lt), ?_⟩
        have hqs5 : (upd H5 tl (.lst ((told'.map V.int).set (numM W.coats (doD u d)) (.int (dv W told u + 1))))) ql = some (.lst qs') := by
          rw [upd_ne netq.symm]
          exact s5 _ _ hqs4
        refine ⟨_, rfl, .inl ⟨rfl, _, SqL.of hqs5⟩, _, rfl, ql, _, _, rfl, rfl, hqs5, sz100kl (by omega), ?_⟩
        have t1 : TK H5 (upd H5 tl (.lst ((told'.map V.int).set (numM W.coats (doD u d)) (.int (dv W told u + 1))))) := ts_lst (s5 _ _ htl4)
        have t2 := ts_lst (o := .lst (qs' ++ [bv])) hqs5
        have tB := ((same_ts s5).trans t1).trans t2
        refine ⟨told'.set (numM W.coats (doD u d)) (dv W told' u + 1), q' ++ [doD u d], qs' ++ [bv], _, _, _, same_mut (same_mut (sm4.trans s5) nlH) hql, tk4.trans tB, ?_, upd_same, ?_, ?_, ?_, ?_, rfl⟩
        · rw [upd_ne netq, upd_same, List.map_set, edv]
        · rw [List.map_append]
          exact (hall4.mono tB).app (.one (tb.mono (t1.trans t2)))
        · rw [etake]
          exact B5
        · rw [List.getElem?_append_left (List.getElem?_eq_some_iff.mp hu4).1]
          exact hu4
        · rw [dv_set hbok huo B4.len, if_neg, edv]
          intro e
          exact ((B4.mem _ hbok).mp hn) (by rw [← e]; exact List.mem_of_getElem? hu4)
      · refine itF (by rw [dec_int2]; exact decide_eq_false hn) ?_
        refine ⟨told', q', qs', _, _, _, sm4.trans s5, tk4.trans (same_ts s5), s5 _ _ htl4, s5 _ _ hqs4, hall4.mono (same_ts s5), ?_, hu4, edv, rfl⟩
        rw [etake]
        exact B4.old hu4 hdm hn
    · rintro σ H4 ⟨told', q', qs', y7, y8, y9, sm4, tk4, htl4, hqs4, hall4, B4, hu4, edv, rfl⟩
      rw [hdl, List.take_length] at B4
      have hq4 : a < q'.length := (List.getElem?_eq_some_iff.mp hu4).1
      exact ⟨cntM W - (a + 1), by omega, told', q', qs', a + 1, _, _, _, _, _, sm4, htl4, hqs4, hall4, B4.next hu4, hq4, rfl, rfl⟩
  · refine itF (decide_eq_false (by rw [hqlen]; omega)) ?_
    refine ⟨_, rfl, .inl ⟨tl, _, rfl, SqL.of htl, fun t nt => q _ _ told (sm.trans (same_new nt)) (B.done (by omega)) (mkIs upd_same)⟩⟩
/-! ### nearer, shortest -/
def spNear (K : PySem.W.Frag) : Sp := fun vs H Q _ => ∃ (wv av hv : V) (W : WD) (told : List Int) (t here : List Nat) (n : Nat), vs = [wv, av, hv] ∧ IsWorld K H wv W ∧ Tp H av (dI told) ∧ Tp H hv (dF here) ∧ WOK W ∧ FlOK W here ∧ FlOK W t ∧ FarSpec W t told ∧ dv W told here = (n + 1 : Nat) ∧
  ∀ H' v d, Same H H' → d ∈ deedsM W here → dv W told (doD here d) = n → Tp H' v (dD d) → Q v H'
theorem b_nearer (T : Txt K mg) (c_number_of : Cal P w K mg base 1 "number_of" (spNum K) []) (c_deeds : Cal P w K mg base 2 "deeds" (spDeeds K) []) (c_done : Cal P w K mg base 1 "done" spDone []) : BodyOk P w K mg base 2 "nearer" s_nearer N_nearer (spNear K) := by
  intro f cdv A outer s H vs Q E hr h
  obtain ⟨wv, av, hv, W, told, t, here, n, rfl, hW, hA, hF, ok, hok, tok, FS, edv, q⟩ := h
  have hcoats : W.coats ≤ 1000 := by have := ok.c6; omega
  have hsize : W.size ≤ 1000 := by have := ok.s40; omega
  have hul : here.length ≤ 1000 := by rw [hok.1]; exact hsize
  obtain ⟨aa, rfl, haa⟩ := tpIs hA
  refine ⟨_, (pss_cons (ps_set (i := 3) sc_nearer.nd rfl (Or.inl rfl) (pe_ix ix_tup (pv 1) (pe_c c_number_of hr (by decide) (by rfl) (pa_cons (pv 0) (pa_cons (pv 2) pa_nil))) (fun _ _ => rfl)))
 (pss_cons (ps_for PassesOwn.never rfl (pi_tup (pe_c c_deeds hr (by decide) (by rfl) (pa_cons (pv 0) (pa_cons (pv 2) pa_nil)))) (pg_name (i := 4) sc_nearer.nd rfl (Or.inl rfl))
 (pss_one (ps_if (pt_cmpR op_eq (pe_ix ix_tup (pv 1) (pe_c c_number_of hr (by decide) (by rfl) (pa_cons (pv 0) (pa_cons (pe_c c_done hr (by decide) (by rfl) (pa_cons (pv 2) (pa_cons (pv 4) pa_nil))) pa_nil))) (fun _ _ => rfl)) (pe_op op_sub (pv 3) pe_int) (nomark _))
 (pss_one (ps_ret (pv 4)))
 pss_nil)))
 (pss_one (ps_ret pe_non)))), ?_⟩
  refine ⟨_, rfl, _, rfl, _, rfl, wv, hv, W, here, rfl, hW, hF, hcoats, aa, _, _, .int (dv W told here), rfl, rfl, SqT.of haa, at_of rfl (by rw [List.getElem?_map, dv_get hok FS.1]; rfl), ?_⟩
  rw [edv]
  refine ⟨_, rfl, _, rfl, wv, hv, W, here, rfl, hW, hF, ok, hok, fun H1 dvv s1 tdv => ?_⟩
  obtain ⟨da, dxs, rfl, hda, hdx⟩ := tpT tdv
  have hdl : dxs.length = (deedsM W here).length := by rw [hdx.length, List.length_map]
  refine ⟨da, rfl, ⟨_, SqT.of hda⟩, for_tup (K := K) (a := da) (xs := dxs) (fun i σ H' => Same H1 H' ∧ (∀ j d, j < i → (deedsM W here)[j]? = some d → dv W told (doD here d) ≠ n) ∧ ∃ y, σ = [some wv, some (.ref aa), some hv, some (vN (n + 1)), y])
    ⟨Same.refl _, fun j d hj => absurd hj (Nat.not_lt_zero j), none, rfl⟩ (fun i σ H' _ p => SqT.of (p.1 _ _ hda)) ?_ ?_⟩
  · rintro i x σ H2 hx ⟨sm, hno, y, rfl⟩
    obtain ⟨d, hd, td⟩ := hdx.getF hx
    have hdm : d ∈ deedsM W here := List.mem_of_getElem? hd
    have hbok : FlOK W (doD here d) := hok.doD hdm
    have sA := s1.trans sm
    refine ⟨_, rfl, _, rfl, _, rfl, _, rfl, hv, x, here, d, rfl, hF.mono (same_ts sA), td.mono (same_ts sm), hul, fun H3 bv s3 tb => ?_⟩
    refine ⟨wv, bv, W, doD here d, rfl, hW.same (sA.trans s3), tb, hcoats, aa, _, _, .int (dv W told (doD here d)), rfl, rfl, SqT.of ((sA.trans s3) _ _ haa), at_of rfl (by rw [List.getElem?_map, dv_get hbok FS.1]; rfl), _, rfl, _, 1, rfl, rfl, rfl, _, rfl, ?_⟩
    have e1 : ((n + 1 : Nat) : Int) - 1 = (n : Int) := by omega
    by_cases hn : dv W told (doD here d) = n
    · exact itT (by show decide (V.int _ = V.int (((n + 1 : Nat) : Int) - 1)) = true; rw [dec_int2, e1]; exact decide_eq_true hn) ⟨_, rfl, q _ _ d (sA.trans s3) hdm hn (td.mono (same_ts (sm.trans s3)))⟩
    · refine itF (by show decide (V.int _ = V.int (((n + 1 : Nat) : Int) - 1)) = false; rw [dec_int2, e1]; exact decide_eq_false hn) ⟨sm.trans s3, fun j d' hj hd' => ?_, some x, rfl⟩
      by_cases hji : j = i
      · subst hji
        rw [hd] at hd'
        cases hd'
        exact hn
      · exact hno j d' (by omega) hd'
  · rintro σ H2 ⟨sm, hno, y, rfl⟩
    obtain ⟨d, hd, e⟩ := FS.near ok tok hok edv
    obtain ⟨j, hj, ej⟩ := List.mem_iff_getElem.mp hd
    exact absurd e (hno j d (by rw [hdl]; exact hj) (by rw [List.getElem?_eq_getElem hj, ej]))
def ShortSpec (W : WD) (one two : List Nat) (H : Hp) (v : V) : Prop := (v = .non ∧ ¬ Reach W one two) ∨ ∃ run, Tp H v (dDs run) ∧ Run W one run two ∧ Dist W one two run.length
def spShort (K : PySem.W.Frag) : Sp := fun vs H Q _ => ∃ (wv ov tv : V) (W : WD) (one two : List Nat), vs = [wv, ov, tv] ∧ IsWorld K H wv W ∧ Tp H ov (dF one) ∧ Tp H tv (dF two) ∧ WOK W ∧ FlOK W one ∧ FlOK W two ∧ ∀ H' v, Same H H' → ShortSpec W one two H' v → Q v H'
theorem b_shortest (T : Txt K mg) (c_want_small : Cal P w K mg base 2 "want_small" (spWS K) []) (c_checked_floor : Cal P w K mg base 1 "checked_floor" (spCF K) []) (c_far : Cal P w K mg base 3 "far" (spFar K) []) (c_nearer : Cal P w K mg base 3 "nearer" (spNear K) [])
    (c_number_of : Cal P w K mg base 1 "number_of" (spNum K) []) (c_done : Cal P w K mg base 1 "done" spDone []) : BodyOk P w K mg base 3 "shortest" s_shortest N_shortest (spShort K) := by
  intro f cdv A outer s H vs Q E hr h
  obtain ⟨wv, ov, tv, W, one, two, rfl, hW, hO, hT, ok, ook, tok, q⟩ := h
  have hs := ok.small
  have hcoats : W.coats ≤ 1000 := by have := ok.c6; omega
  have hsize : W.size ≤ 1000 := by have := ok.s40; omega
  refine ⟨_, (pss_cons (ps_expr (pe_c c_want_small hr (by decide) (by rfl) (pa_cons (pv 0) pa_nil)))
 (pss_cons (ps_expr (pe_c c_checked_floor hr (by decide) (by rfl) (pa_cons (pv 0) (pa_cons (pv 1) pa_nil))))
 (pss_cons (ps_set (i := 3) sc_shortest.nd rfl (Or.inl rfl) (pe_c c_far hr (by decide) (by rfl) (pa_cons (pv 0) (pa_cons (pv 2) pa_nil))))
 (pss_cons (ps_if (pt_cmpR op_eq (pe_ix ix_tup (pv 3) (pe_c c_number_of hr (by decide) (by rfl) (pa_cons (pv 0) (pa_cons (pv 1) pa_nil))) (fun _ _ => rfl)) (pe_un un_neg pe_int) (nomark _))
 (pss_one (ps_ret pe_non))
 pss_nil)
 (pss_cons (ps_set (i := 4) sc_shortest.nd rfl (Or.inl rfl) (pv 1))
 (pss_cons (ps_set (i := 5) sc_shortest.nd rfl (Or.inl rfl) (pe_lst pa_nil))
 (pss_cons (ps_while PassesOwn.never (pt_cmpR (op_neD hr.units) (pv 4) (pv 2) (nomark _))
 (pss_cons (ps_set (i := 6) sc_shortest.nd rfl (Or.inl rfl) (pe_c c_nearer hr (by decide) (by rfl) (pa_cons (pv 0) (pa_cons (pv 3) (pa_cons (pv 4) pa_nil)))))
 (pss_cons (ps_expr (pe_bm PySem.F.plainAttrs_list PySem.F.slot_list_append PySem.F.type_list_append mt_append (pv 5) (pa_cons (pv 6) pa_nil)))
 (pss_one (ps_set (i := 4) sc_shortest.nd rfl (Or.inl rfl) (pe_c c_done hr (by decide) (by rfl) (pa_cons (pv 4) (pa_cons (pv 6) pa_nil))))))))
 (pss_one (ps_ret (pe_tupleOf (by rfl) T.b_tuple (pv 5))))))))))), ?_⟩
  refine ⟨_, rfl, wv, W, rfl, hW, ok, _, rfl, _, rfl, wv, ov, W, one, rfl, hW, hO, ook, fun H1 s1 => ?_⟩
  refine ⟨_, rfl, _, rfl, wv, tv, W, two, rfl, hW.same s1, hT.mono (same_ts s1), ok, tok, fun H2 av told s2 FS tav => ?_⟩
  have sA := s1.trans s2
  obtain ⟨aa, rfl, haa⟩ := tpIs tav
  refine ⟨_, rfl, _, rfl, _, rfl, wv, ov, W, one, rfl, hW.same sA, hO.mono (same_ts sA), hcoats, aa, _, _, .int (dv W told one), rfl, rfl, SqT.of haa, at_of rfl (by rw [List.getElem?_map, dv_get ook FS.1]; rfl), 1, rfl, rfl, _, rfl, ?_⟩
  rcases FS.2 one ook with ⟨hm1, nr⟩ | ⟨D, hD, dist, hDN⟩
  · exact itT (by rw [dec_int2]; exact decide_eq_true hm1) (q _ _ sA (.inl ⟨rfl, fun r => nr (r.symm ok ook)⟩))
  · refine itF (by rw [dec_int2]; exact decide_eq_false (by omega)) ?_
    refine ⟨_, rfl, Nat.zero_le _, fun rl nrl => ?_⟩
    have s3 := same_new (o := .lst []) nrl
    have nrlH : H rl = none := sA.free nrl
    refine ⟨fun m σ H' => ∃ run here hv zs x6, Same H H' ∧ H' rl = some (.lst zs) ∧ TpAll H' zs (run.map dD) ∧ FlOK W here ∧ Tp H' hv (dF here) ∧ Run W one run here ∧ dv W told here = (m : Int) ∧ run.length + m = D ∧ H' aa = some (.tup (told.map V.int)) ∧
      σ = [some wv, some ov, some tv, some (.ref aa), some hv, some (.ref rl), x6], ⟨D, [], one, ov, [], none, sA.trans s3, upd_same, .nil, ook, (hO.mono (same_ts sA)).mono (same_ts s3), rfl, hD, by simp, s3 _ _ haa, rfl⟩, ?_⟩
    rintro m σ H3 ⟨run, here, hv, zs, x6, sm, hzs, hall, hok, thv, rn, edv, esum, ha3, rfl⟩
    refine ⟨_, rfl, _, rfl, dF here, dF two, thv.dp, (hT.mono (same_ts sm)).dp, shaped_dF _, shaped_dF _, _, rfl, ?_⟩
    rw [eqv_dF]
    by_cases heq : here = two
    · refine itF (by rw [decide_eq_true heq]; rfl) ?_
      have e0 : m = 0 := by
        have := (FS.zero hok).mpr heq
        omega
      refine ⟨_, rfl, .inl ⟨rl, _, rfl, SqL.of hzs, fun t nt => q _ _ (sm.trans (same_new nt)) (.inr ⟨run, .tup upd_same (hall.mono (ts_new nt)), by rw [← heq]; exact rn, ?_⟩)⟩⟩
      have e1 : run.length = D := by omega
      rw [e1]
      exact dist.symm ok tok
    · obtain ⟨m', rfl⟩ : ∃ m', m = m' + 1 := by
        cases m with
        | zero => exact absurd ((FS.zero hok).mp edv) heq
        | succ m => exact ⟨m, rfl⟩
      refine itT (by rw [decide_eq_false heq]; rfl) ⟨fun σ' H' => ∃ m'', m'' < m' + 1 ∧ ∃ run here hv zs x6, Same H H' ∧ H' rl = some (.lst zs) ∧ TpAll H' zs (run.map dD) ∧ FlOK W here ∧ Tp H' hv (dF here) ∧ Run W one run here ∧ dv W told here = (m'' : Int) ∧ run.length + m'' = D ∧ H' aa = some (.tup (told.map V.int)) ∧
        σ' = [some wv, some ov, some tv, some (.ref aa), some hv, some (.ref rl), x6], fun _ _ z => z, ?_⟩
      refine ⟨_, rfl, _, rfl, _, rfl, wv, .ref aa, hv, W, told, two, here, m', rfl, hW.same sm, mkIs ha3, thv, ok, hok, tok, FS, edv, fun H4 dvl d s4 hdm hdn tdl => ?_⟩
      have hzs4 := s4 _ _ hzs
      have hzl : zs.length = run.length := by rw [hall.length, List.length_map]
      refine ⟨_, rfl, .inl ⟨rfl, _, SqL.of hzs4⟩, _, rfl, rl, _, _, rfl, rfl, hzs4, sz100kl (by omega), ?_⟩
      have t5 : TK H4 (upd H4 rl (.lst (zs ++ [dvl]))) := ts_lst hzs4
      have tB := (same_ts s4).trans t5
      refine ⟨_, rfl, _, rfl, hv, dvl, here, d, rfl, thv.mono tB, tdl.mono t5, by rw [hok.1]; exact hsize, fun H6 nv s6 tnv => ?_⟩
      refine ⟨m', Nat.lt_succ_self _, run ++ [d], doD here d, nv, zs ++ [dvl], _, (same_mut (sm.trans s4) nrlH).trans s6, s6 _ _ upd_same, ?_, hok.doD hdm, tnv, rn.snoc hdm, hdn, ?_, s6 _ _ (t5 _ _ (s4 _ _ ha3)), rfl⟩
      · rw [List.map_append]
        exact (hall.mono (tB.trans (same_ts s6))).app (.one (tdl.mono (t5.trans (same_ts s6))))
      · rw [List.length_append, List.length_singleton]
        omega
end
end PF
namespace PF
open PySem PySem.Spec PyProof.Rows L2
open C8 (Cal Mak Met pe_c pe_mk pe_gc pe_mt pe_mt0)
open PFM
def Pl : HO → Prop
  | .dT _ => False
  | .frz _ _ => False
  | _ => True
/-- all but dicts and locked things stands -/
def SD (H H' : Hp) : Prop := ∀ b o, Pl o → H b = some o → H' b = some o
theorem SD.refl (H : Hp) : SD H H := fun _ _ _ h => h
theorem SD.trans {H H1 H2 : Hp} (a : SD H H1) (b : SD H1 H2) : SD H H2 := fun c o n h => b c o n (a c o n h)
theorem sd_same {H H' : Hp} (s : Same H H') : SD H H' := fun b o _ h => s b o h
theorem sd_put {H : Hp} {d : Addr} {o u : HO} (h : H d = some u) (hu : ¬ Pl u) : SD H (upd H d o) := fun b x n e => by
  rw [upd_ne (fun z => by rw [z, h] at e; cases e; exact hu n)]
  exact e
theorem sd_tk {H H' : Hp} (s : SD H H') : TK H H' := fun b xs e => s b _ trivial e
theorem IsWorld.sd {K : PySem.W.Frag} {H H' : Hp} {v : V} {W : WD} (s : SD H H') (h : IsWorld K H v W) : IsWorld K H' v W := by
  obtain ⟨a, dx, b, db, lk, rr, tb, e, h1, h2, h3, h4, ra, ys, e5, h6, h7⟩ := h
  exact ⟨a, dx, b, db, lk, rr, tb, e, s _ _ trivial h1, s _ _ trivial h2, h3.mono (sd_tk s), h4.mono (sd_tk s), ra, ys, e5, s _ _ trivial h6, h7.mono (sd_tk s)⟩
/-- known: the floors behind each -/
def KnOK (W : WD) (H : Hp) (kn : List (List Nat × Addr)) : Prop := (kn.map (·.1)).Nodup ∧ ∀ p ∈ kn, FlOK W p.1 ∧ ∃ ys, H p.2 = some (.lst ys) ∧ TpAll H ys ((behinds W p.1).map dF)
theorem KnOK.sd {W : WD} {H H' : Hp} {kn : List (List Nat × Addr)} (s : SD H H') (h : KnOK W H kn) : KnOK W H' kn :=
  ⟨h.1, fun p hp => (let ⟨a, ys, b, c⟩ := h.2 p hp; ⟨a, ys, s _ _ trivial b, c.mono (sd_tk s)⟩)⟩
theorem StepC.snoc {W : WD} {cs : List (List Nat × Nat)} : True := trivial
section
variable {P : Program} {w : World} {K : PySem.W.Frag} {mg : Str → Option Value} {base : Heap}
def spStep (K : PySem.W.Frag) : Sp := fun vs H Q _ => ∃ (wv : V) (W : WD) (cd kd : Addr) (cs : List (List Nat × Nat)) (kn : List (List Nat × Addr)), vs = [wv, .ref cd, .ref kd] ∧ IsWorld K H wv W ∧ WOK W ∧ cd ≠ kd ∧ H cd = some (.dT (cs.map (enc vN))) ∧ H kd = some (.dT (kn.map (enc V.ref))) ∧
  (∀ p ∈ cs, FlOK W p.1) ∧ KnOK W H kn ∧
  ∀ H' td ts kn', FB [kd] H H' → H td = none → H' td = some (.dT (ts.map (enc vN))) → StepC W cs ts → H' kd = some (.dT (kn'.map (enc V.ref))) → KnOK W H' kn' → Q (.ref td) H'
theorem key_tup {H : Hp} {q : Addr} {f : List Nat} (h : H q = some (.tup ((kf f).map kV))) : Tp H (.ref q) (dF f) := mkF (by rw [h, kf_kV])
theorem tup_key {H : Hp} {v : V} {f : List Nat} (h : Tp H v (dF f)) : ∃ q, v = .ref q ∧ H q = some (.tup ((kf f).map kV)) := by
  obtain ⟨a, e, h1⟩ := tpF h
  exact ⟨a, e, by rw [h1, kf_kV]⟩
theorem b_stepped_counts (T : Txt K mg) (c_deeds : Cal P w K mg base 2 "deeds" (spDeeds K) []) (c_done : Cal P w K mg base 1 "done" spDone []) : BodyOk P w K mg base 2 "stepped_counts" s_stepped_counts N_stepped_counts (spStep K) := by
  intro f cdv A outer s H vs Q E hr h
  have hu := hu_of hr
  obtain ⟨wv, W, cd, kd, cs, kn, rfl, hW, ok, nck, hcd, hkd, csok, knok, q⟩ := h
  have hs := ok.small
  have hsize : W.size ≤ 1000 := by have := ok.s40; omega
  refine ⟨_, (pss_cons (ps_set (i := 3) sc_stepped_counts.nd rfl (Or.inl rfl) pe_dnewT)
 (pss_cons (ps_lock (ps_for PassesOwn.never rfl (PF.pi_itemsT (pv 1)) (pg_tup rfl (pgs_cons (pg_name (i := 4) sc_stepped_counts.nd rfl (Or.inr rfl)) (pgs_cons (pg_name (i := 5) sc_stepped_counts.nd rfl (Or.inl rfl)) pgs_nil)))
 (C8.pss_cut (ps_if (pt_cmp (pc_dnotin hu (pv 4) (pv 2)))
 (pss_one (ps_dput hu (pv 2) (pv 4) (pe_lc (own := [("deed", 7)]) (by rfl) sc_stepped_counts.nd (pi_tup (pe_c c_deeds hr (by decide) (by rfl) (pa_cons (pv 0) (pa_cons (pv 4) pa_nil)))) (blkOk_by (N := N_stepped_counts) (sc := defScope s_stepped_counts) (own := [("deed", 7)]) (by decide +kernel)) (fun _ _ _ _ _ => by exact (pg_name (i := 7) sc_stepped_counts.nd rfl (Or.inl rfl))) (fun _ _ _ _ _ => by exact pts_nil) (fun _ _ _ _ _ => by exact (pe_c c_done hr (by decide) (by rfl) (pa_cons (pv 4) (pa_cons (pv 7) pa_nil))))) rfl))
 pss_nil)
 (pss_one (ps_for PassesOwn.never rfl (pi_list (pe_dget hu (pv 2) (pv 4) (fun _ _ => rfl))) (pg_name (i := 6) sc_stepped_counts.nd rfl (Or.inl rfl))
 (pss_one (ps_dput hu (pv 3) (pv 6) (pe_op op_add (pe_dget2 hu (pv 3) (pv 6) pe_int ⟨rfl, rfl, rfl, rfl⟩) (pv 5)) rfl)))))))
 (pss_one (ps_ret (pv 3))))), ?_⟩
  refine fun td ntd => ?_
  have s1 := same_new (o := .dT []) ntd
  have ntc : td ≠ cd := (ne_of_none hcd ntd).symm
  have ntk : td ≠ kd := (ne_of_none hkd ntd).symm
  refine ⟨cd, _, s1 _ _ hcd, trivial, fun od => ?_⟩
  have hH1 : (upd H td (.dT [])) cd = some (.dT (cs.map (enc vN))) := s1 _ _ hcd
  have sdL : SD H (upd (upd H td (.dT [])) cd (.frz od (.dT (cs.map (enc vN))))) := (sd_same s1).trans (sd_put hH1 id)
  refine ⟨_, rfl, cd, od, cs.map (enc vN), rfl, upd_same, for_itemsT (d := cd) (o := od) (kvs := cs.map (enc vN))
    (fun i σ H' => ∃ ts kn' x4 x5 x6, FB [kd, cd] H H' ∧ SD H H' ∧ H' cd = some (.frz od (.dT (cs.map (enc vN)))) ∧ H' td = some (.dT (ts.map (enc vN))) ∧ StepC W (cs.take i) ts ∧ H' kd = some (.dT (kn'.map (enc V.ref))) ∧ KnOK W H' kn' ∧
      σ = [some wv, some (.ref cd), some (.ref kd), some (.ref td), x4, x5, x6, none]) ⟨[], kn, none, none, none, ?_, sdL, upd_same, ?_, ?_, ?_, knok.sd sdL, rfl⟩ (fun i σ H' _ p => by
        obtain ⟨_, _, _, _, _, _, _, h, _⟩ := p
        exact h) ?_ ?_⟩
  · exact (FB.same s1).trans (FB.upd (by simp))
  · rw [upd_ne ntc, upd_same]
    rfl
  · exact ⟨by simp, fun p hp => (by cases hp), fun g _ => rfl⟩
  · rw [upd_ne nck.symm]
    exact s1 _ _ hkd
  · rintro i k v q0 t σ H2 hk ⟨ts, kn', x4, x5, x6, fb, sd0, hfz, htd, sc, hkd2, kok2, rfl⟩ nt hq
    obtain ⟨⟨fl, m⟩, hcs, hen⟩ : ∃ p, cs[i]? = some p ∧ enc vN p = (k, v) := by
      rw [List.getElem?_map] at hk
      cases e : cs[i]? with
      | none =>
        rw [e] at hk
        cases hk
      | some p =>
        rw [e] at hk
        exact ⟨p, rfl, Option.some.inj hk⟩
    obtain ⟨rfl, rfl⟩ : kf fl = k ∧ vN m = v := by
      injection hen with e1 e2
      exact ⟨e1, e2⟩
    have flo : FlOK W fl := csok _ (List.mem_of_getElem? hcs)
    have s3 := same_new (o := .tup [.ref q0, vN m]) nt
    have sd3 := sd0.trans (sd_same s3)
    have hq3 := s3 _ _ hq
    have tq := key_tup hq3
    refine ⟨t, _, rfl, SqT.of upd_same, rfl, _, _, rfl, _, _, rfl, rfl, ?_⟩
    have fb3 : FB [kd, cd] H (upd H2 t (.tup [.ref q0, vN m])) := fb.trans (FB.same s3)
    -- floor in known, or put there
    refine ⟨fun σ' H3 => ∃ kn3 la, FB [kd, cd] H H3 ∧ SD (upd H2 t (.tup [.ref q0, vN m])) H3 ∧ H3 cd = some (.frz od (.dT (cs.map (enc vN)))) ∧ H3 td = some (.dT (ts.map (enc vN))) ∧ H3 kd = some (.dT (kn3.map (enc V.ref))) ∧ KnOK W H3 kn3 ∧ lk kn3 fl = some la ∧
      σ' = [some wv, some (.ref cd), some (.ref kd), some (.ref td), some (.ref q0), some (vN m), x6, none], ?_, ?_⟩
    · refine ⟨_, rfl, _, rfl, kd, _, rfl, DGet.t (k := kf fl) (s3 _ _ hkd2) hq3, ?_⟩
      rw [enc_val]
      refine ⟨_, rfl, ?_⟩
      cases hlk : lk kn' fl with
      | some la =>
        refine itF rfl ?_
        exact ⟨kn', la, fb3, SD.refl _, s3 _ _ hfz, s3 _ _ htd, s3 _ _ hkd2, kok2.sd (sd_same s3), hlk, rfl⟩
      | none =>
        refine itT rfl ?_
        refine ⟨_, rfl, _, rfl, wv, .ref q0, W, fl, rfl, hW.sd sd3, tq, ok, flo, fun H4 dvv s4 tdv => ?_⟩
        obtain ⟨da, dxs, rfl, hda, hdx⟩ := tpT tdv
        have hdl : dxs.length = (deedsM W fl).length := by rw [hdx.length, List.length_map]
        have hdb : (deedsM W fl).length ≤ 960 := by
          have e1 := deeds_len ok fl W.links
          have e2 := ok.l160
          have e3 : (deedsM W fl).length ≤ W.links.length * 6 := e1
          omega
        refine ⟨da, rfl, ⟨_, SqT.of hda⟩, fun D nD => lc_tup (K := K) (a := da) (xs := dxs) (fun j H' => Same H4 H' ∧ ∃ ys, H' D = some (.lst ys) ∧ TpAll H' ys (((behinds W fl).take j).map dF)) ⟨same_new nD, [], upd_same, .nil⟩ (fun j H' _ p => SqT.of (p.1 _ _ hda)) ?_ ?_⟩
        · rintro j x H5 hx ⟨sm, ys, hys, hall⟩
          obtain ⟨d, hd, tdd⟩ := hdx.getF hx
          have hul : fl.length ≤ 1000 := by rw [flo.1]; exact hsize
          refine ⟨rfl, yes (itT rfl ?_)⟩
          refine ⟨_, rfl, _, rfl, .ref q0, x, fl, d, rfl, (tq.mono (same_ts s4)).mono (same_ts sm), tdd.mono (same_ts sm), hul, fun H6 bv s6 tb => ?_⟩
          have hyl : ys.length ≤ 960 := by
            rw [hall.length, List.length_map, List.length_take, behinds, List.length_map]
            omega
          refine ⟨_, s6 _ _ hys, sz100kl (by omega), same_mut (sm.trans s6) nD, _, upd_same, ?_⟩
          have e : (behinds W fl).take (j + 1) = (behinds W fl).take j ++ [doD fl d] := by
            rw [List.take_add_one, behinds, List.getElem?_map, hd]
            rfl
          rw [e, List.map_append]
          have tB := (same_ts s6).trans (ts_lst (o := .lst (ys ++ [bv])) (s6 _ _ hys))
          exact (hall.mono tB).app (.one (tb.mono (ts_lst (s6 _ _ hys))))
        · rintro H5 ⟨sm, ys, hys, hall⟩
          rw [hdl] at hall
          have hall2 : TpAll H5 ys ((behinds W fl).map dF) := by
            have e : (behinds W fl).take (deedsM W fl).length = behinds W fl := List.take_of_length_le (by rw [behinds, List.length_map]; exact Nat.le_refl _)
            rw [e] at hall
            exact hall
          have sA := s3.trans (s4.trans sm)
          have hk5 := sA _ _ hkd2
          have hkl : kn'.length ≤ cntM W := by
            have := floors_len kok2.1 (W := W) fun g hg => by
              obtain ⟨p, hp, rfl⟩ := List.mem_map.mp hg
              exact (kok2.2 p hp).1
            rwa [List.length_map] at this
          refine ⟨_, rfl, _, rfl, kd, _, rfl, DPut.t (k := kf fl) hk5 ((s4.trans sm) _ _ hq3) (sz100kl (by rw [List.length_map]; omega)), ?_⟩
          rw [enc_put]
          have sdP := sd_put (o := .dT ((putC kn' fl D).map (enc V.ref))) hk5 id
          refine ⟨putC kn' fl D, D, (fb3.trans (FB.same (s4.trans sm))).trans (FB.upd (by simp)), (sd_same (s4.trans sm)).trans sdP, ?_, ?_, upd_same, ⟨nodup_put kok2.1 _ _, fun p hp => ?_⟩, by rw [lk_put, if_pos rfl], rfl⟩
          · rw [upd_ne nck]
            exact sA _ _ hfz
          · rw [upd_ne ntk]
            exact sA _ _ htd
          · rcases mem_put hp with h | h
            · obtain ⟨a1, ys1, a2, a3⟩ := kok2.2 p h
              exact ⟨a1, ys1, sdP _ _ trivial (sA _ _ a2), (a3.mono (same_ts sA)).mono (sd_tk sdP)⟩
            · subst h
              exact ⟨flo, ys, sdP _ _ trivial hys, hall2.mono (sd_tk sdP)⟩
    · rintro σ' H3 ⟨kn3, la, fb4, sd4, hfz3, htd3, hkd3, kok3, hlk, rfl⟩
      obtain ⟨_, ys, hla, hall⟩ := kok3.2 _ (lk_mem hlk)
      have hq4 : H3 q0 = some (.tup ((kf fl).map kV)) := sd4 _ _ trivial hq3
      have hyl : ys.length = (behinds W fl).length := by rw [hall.length, List.length_map]
      refine ⟨_, rfl, _, rfl, kd, .ref la, rfl, (by
        have := DGet.t (k := kf fl) hkd3 hq4
        rw [enc_val, hlk] at this
        exact this), la, rfl, ⟨_, SqL.of hla⟩, for_list (K := K) (a := la) (xs := ys) (fun j σ H' => ∃ ts' y6, FB [kd, cd] H H' ∧ SD H3 H' ∧ H' cd = some (.frz od (.dT (cs.map (enc vN)))) ∧ H' td = some (.dT (ts'.map (enc vN))) ∧ (ts'.map (·.1)).Nodup ∧ (∀ p ∈ ts', FlOK W p.1) ∧
          (∀ g, FlOK W g → valC ts' g = (sumL (cs.take i) fun p => p.2 * Ac W p.1 g) + m * ((behinds W fl).take j).count g) ∧ H' kd = some (.dT (kn3.map (enc V.ref))) ∧
          σ = [some wv, some (.ref cd), some (.ref kd), some (.ref td), some (.ref q0), some (vN m), y6, none])
        ⟨ts, x6, fb4, SD.refl _, hfz3, htd3, sc.1, sc.2.1, fun g hg => (by rw [sc.2.2 g hg]; simp), hkd3, rfl⟩ (fun j σ H' _ p => by
          obtain ⟨_, _, _, sd, _⟩ := p
          exact SqL.of (sd _ _ trivial hla)) ?_ ?_⟩
      · rintro j x σ H5 hx ⟨ts', y6, fb5, sd5, hfz5, htd5, nd5, ok5, val5, hkd5, rfl⟩
        obtain ⟨g, hg, tg⟩ := hall.getF hx
        obtain ⟨gq, rfl, hgq⟩ := tup_key (tg.mono (sd_tk sd5))
        have hgo : FlOK W g := by
          have := List.mem_of_getElem? hg
          obtain ⟨d, hd, rfl⟩ := List.mem_map.mp this
          exact flo.doD hd
        refine ⟨_, rfl, td, rfl, .inr ⟨_, .inl htd5⟩, _, rfl, _, DGet.t (k := kf g) htd5 hgq, ?_⟩
        have ev : (valV (ts'.map (enc vN)) (kf g)).getD (V.int 0) = vN (valC ts' g) := by
          rw [enc_val]
          unfold valC
          cases lk ts' g with
          | none => rfl
          | some n => rfl
        rw [ev]
        have hkl : ts'.length ≤ cntM W := by
          have := floors_len nd5 (W := W) fun g hg => by
            obtain ⟨p, hp, rfl⟩ := List.mem_map.mp hg
            exact ok5 p hp
          rwa [List.length_map] at this
        refine ⟨_, rfl, _, _, rfl, rfl, _, rfl, _, rfl, td, _, rfl, DPut.t (k := kf g) htd5 hgq (sz100kl (by rw [List.length_map]; omega)), ?_⟩
        have es : V.int (((valC ts' g : Nat) : Int) + ((m : Nat) : Int)) = vN (valC ts' g + m) := by
          show V.int _ = V.int _
          rw [Int.natCast_add]
        dsimp only
        rw [es, enc_put]
        have sdP := sd_put (o := .dT ((putC ts' g (valC ts' g + m)).map (enc vN))) htd5 id
        refine ⟨putC ts' g (valC ts' g + m), _, fb5.new ntd, sd5.trans sdP, ?_, upd_same, nodup_put nd5 _ _, fun p hp => ?_, fun g2 hg2 => ?_, ?_, rfl⟩
        · rw [upd_ne ntc.symm]
          exact hfz5
        · rcases mem_put hp with h | h
          · exact ok5 p h
          · rw [h]
            exact hgo
        · have e : (behinds W fl).take (j + 1) = (behinds W fl).take j ++ [g] := by rw [List.take_add_one, hg]; rfl
          rw [valC_put, e, List.count_append]
          by_cases h : g2 = g
          · subst h
            rw [if_pos rfl, val5 g2 hg2]
            simp [Nat.mul_add, Nat.add_assoc]
          · rw [if_neg h, val5 g2 hg2]
            have : ¬ g = g2 := fun z => h z.symm
            simp [List.count_cons, this]
        · rw [upd_ne ntk.symm]
          exact hkd5
      · rintro σ H5 ⟨ts', y6, fb5, sd5, hfz5, htd5, nd5, ok5, val5, hkd5, rfl⟩
        refine ⟨ts', kn3, _, _, _, fb5, (sd3.trans sd4).trans sd5, hfz5, htd5, ⟨nd5, ok5, fun g hg => ?_⟩, hkd5, kok3.sd sd5, rfl⟩
        have e : cs.take (i + 1) = cs.take i ++ [(fl, m)] := by rw [List.take_add_one, hcs]; rfl
        rw [val5 g hg, e, sumL_app, hyl, List.take_length, sumL_cons, sumL_nil, Nat.add_zero]
        rfl
  · rintro σ H2 ⟨ts, kn', x4, x5, x6, fb, sd0, hfz, htd, sc, hkd2, kok2, rfl⟩
    rw [List.length_map, List.take_length] at sc
    have sd9 : SD H2 (upd H2 cd (.dT (cs.map (enc vN)))) := sd_put hfz id
    refine ⟨hfz, _, rfl, q _ td ts kn' (fun b o n e => ?_) ntd (by rw [upd_ne ntc]; exact htd) sc (by rw [upd_ne nck.symm]; exact hkd2) (kok2.sd sd9)⟩
    by_cases z : b = cd
    · rw [z, hcd] at e
      rw [z, upd_same]
      exact e
    · rw [upd_ne z]
      refine fb b o (fun z2 => ?_) e
      rcases List.mem_cons.mp z2 with z2 | z2
      · exact n (by rw [z2]; simp)
      · exact z (List.mem_singleton.mp z2)
/-! ### runs_of -/
def spRuns (K : PySem.W.Frag) : Sp := fun vs H Q _ => ∃ (wv ov tv : V) (W : WD) (one two : List Nat) (n : Nat), vs = [wv, ov, tv, vN n] ∧ IsWorld K H wv W ∧ Tp H ov (dF one) ∧ Tp H tv (dF two) ∧ WOK W ∧ FlOK W one ∧ FlOK W two ∧ n ≤ 12 ∧ ∀ H', Same H H' → Q (vN (cw W n one two)) H'
theorem same_fb {H H1 H2 : Hp} {k : Addr} (s : Same H H1) (f : FB [k] H1 H2) (n : H k = none) : Same H H2 := fun b o e => f b o (fun z => by
  rw [List.mem_singleton.mp z, n] at e
  cases e) (s b o e)
theorem b_runs_of (T : Txt K mg) (c_want_small : Cal P w K mg base 2 "want_small" (spWS K) []) (c_checked_floor : Cal P w K mg base 1 "checked_floor" (spCF K) []) (c_stepped_counts : Cal P w K mg base 3 "stepped_counts" (spStep K) []) : BodyOk P w K mg base 3 "runs_of" s_runs_of N_runs_of (spRuns K) := by
  intro f cdv A outer s H vs Q E hr h
  have hu := hu_of hr
  obtain ⟨wv, ov, tv, W, one, two, n, rfl, hW, hO, hT, ok, ook, tok, hn, q⟩ := h
  refine ⟨_, (pss_cons (ps_expr (pe_c c_want_small hr (by decide) (by rfl) (pa_cons (pv 0) pa_nil)))
 (pss_cons (ps_expr (pe_c c_checked_floor hr (by decide) (by rfl) (pa_cons (pv 0) (pa_cons (pv 1) pa_nil))))
 (pss_cons (ps_expr (pe_c c_checked_floor hr (by decide) (by rfl) (pa_cons (pv 0) (pa_cons (pv 2) pa_nil))))
 (pss_cons (ps_if (pt_not (pt_chain op_le op_le pe_int (pv 3) (pe_gc (by rfl) T.c_MOST_STEPS)))
 (pss_one ps_never)
 pss_nil)
 (pss_cons (ps_set (i := 4) sc_runs_of.nd rfl (Or.inl rfl) (PF.pe_dispT hu (pv 1) pe_int))
 (pss_cons (ps_set (i := 5) sc_runs_of.nd rfl (Or.inl rfl) pe_dnewT)
 (pss_cons (ps_for PassesOwn.never rfl (pi_range1 (by rfl) T.b_range (pa_cons (pv 3) pa_nil)) (pg_name (i := 6) sc_runs_of.nd rfl (Or.inl rfl))
 (pss_one (ps_set (i := 4) sc_runs_of.nd rfl (Or.inl rfl) (pe_c c_stepped_counts hr (by decide) (by rfl) (pa_cons (pv 0) (pa_cons (pv 4) (pa_cons (pv 5) pa_nil)))))))
 (pss_one (ps_ret (pe_dget2 hu (pv 4) (pv 2) pe_int ⟨rfl, rfl, rfl, rfl⟩)))))))))), ?_⟩
  refine ⟨_, rfl, wv, W, rfl, hW, ok, _, rfl, _, rfl, wv, ov, W, one, rfl, hW, hO, ook, fun H1 s1 => ?_⟩
  refine ⟨_, rfl, _, rfl, wv, tv, W, two, rfl, hW.same s1, hT.mono (same_ts s1), tok, fun H2 s2 => ?_⟩
  have sA := s1.trans s2
  refine ⟨_, rfl, 0, _, rfl, rfl, true, bt (Int.natCast_nonneg _), iteT ⟨_, 12, rfl, rfl, true, bt (by omega), iteF ?_⟩⟩
  refine fun cd ncd => ?_
  have s3 := same_new (o := .dT []) ncd
  have ncdH : H cd = none := sA.free ncd
  obtain ⟨oq, rfl, hoq⟩ := tup_key ((hO.mono (same_ts sA)).mono (same_ts s3))
  refine ⟨_, rfl, upd_same, kf one, oq, rfl, hoq, ?_⟩
  have sB : Same H (upd (upd H2 cd (.dT [])) cd (.dT [(kf one, vN 1)])) := same_mut (sA.trans s3) ncdH
  refine fun kd nkd => ?_
  have s4 := same_new (o := .dT []) nkd
  have nkdH : H kd = none := sB.free nkd
  have nck : cd ≠ kd := ne_of_none upd_same nkd
  refine ⟨_, rfl, _, rfl, (small62 (by omega)).1, (small62 (by omega)).2, for_range0 (n := n) (fun i σ H' => ∃ cd cs kn x6, Same H H' ∧ cd ≠ kd ∧ H' cd = some (.dT (cs.map (enc vN))) ∧ (cs.map (·.1)).Nodup ∧ (∀ p ∈ cs, FlOK W p.1) ∧ (∀ g, FlOK W g → valC cs g = cw W i one g) ∧ H' kd = some (.dT (kn.map (enc V.ref))) ∧ KnOK W H' kn ∧
      σ = [some wv, some (.ref oq), some tv, some (vN n), some (.ref cd), some (.ref kd), x6])
    ⟨cd, [(one, 1)], [], none, sB.trans s4, nck, s4 _ _ upd_same, by simp, fun p hp => ?_, fun g hg => ?_, upd_same, ⟨by simp, fun p hp => by cases hp⟩, rfl⟩ ?_ ?_⟩
  · rw [List.mem_singleton.mp hp]
    exact ook
  · show (lk [(one, 1)] g).getD 0 = if one = g then 1 else 0
    rw [lk_cons]
    by_cases e : one = g
    · rw [if_pos e, if_pos e]
      rfl
    · rw [if_neg e, if_neg e]
      rfl
  · rintro i σ H5 hi ⟨cd', cs, kn, x6, sm, nck', hcd, ndc, okc, valc, hkd, kok, rfl⟩
    refine ⟨_, rfl, _, rfl, _, rfl, wv, W, cd', kd, cs, kn, rfl, hW.same sm, ok, nck', hcd, hkd, okc, kok, fun H6 td ts kn' fb ntd htd sc hkd6 kok6 => ?_⟩
    exact ⟨td, ts, kn', _, same_fb sm fb nkdH, (ne_of_none hkd ntd).symm, htd, sc.1, sc.2.1, fun g hg => sc.cw ndc okc valc hg, hkd6, kok6, rfl⟩
  · rintro σ H5 ⟨cd', cs, kn, x6, sm, nck', hcd, ndc, okc, valc, hkd, kok, rfl⟩
    obtain ⟨tq, rfl, htq⟩ := tup_key (hT.mono (same_ts sm))
    refine ⟨_, rfl, cd', rfl, .inr ⟨_, .inl hcd⟩, _, rfl, _, DGet.t (k := kf two) hcd htq, ?_⟩
    have ev : (valV (cs.map (enc vN)) (kf two)).getD (V.int 0) = vN (valC cs two) := by
      rw [enc_val]
      unfold valC
      cases lk cs two with
      | none => rfl
      | some n => rfl
    rw [ev, valc two tok]
    exact q H5 sm
end
end PF
namespace PF
open PySem PySem.Spec PyProof.Rows L2
open C8 (Cal Mak Met pe_c pe_mk pe_gc pe_mt pe_mt0)
open PFM
theorem lexLt2 {a b c d : Int} (h : a < c ∨ (a = c ∧ b < d)) : HT.lexLt [a, b] [c, d] = true := by
  rw [HT.lexLt_cons]
  by_cases e : a = c
  · rw [if_pos e, HT.lexLt_cons]
    by_cases e2 : b = d
    · omega
    · rw [if_neg e2]
      exact decide_eq_true (by omega)
  · rw [if_neg e]
    exact decide_eq_true (by omega)
/-- the pair before -/
def Bf (ps : List (Nat × Nat)) (i : Nat) (b0 b1 : Int) : Prop := ∀ p, ps[i]? = some p → b0 < p.1 ∨ (b0 = p.1 ∧ b1 < p.2)
theorem Bf.zero (ps : List (Nat × Nat)) : Bf ps 0 (-1) (-1) := fun p _ => .inl (by omega)
theorem Bf.next {ps : List (Nat × Nat)} (h : ps.Pairwise ltP) {i : Nat} {p : Nat × Nat} (e : ps[i]? = some p) : Bf ps (i + 1) p.1 p.2 := fun q hq => by
  obtain ⟨h1, e1⟩ := List.getElem?_eq_some_iff.mp e
  obtain ⟨h2, e2⟩ := List.getElem?_eq_some_iff.mp hq
  have := List.pairwise_iff_getElem.mp h i (i + 1) h1 h2 (Nat.lt_succ_self i)
  rw [e1, e2] at this
  rcases this with z | ⟨z1, z2⟩
  · exact .inl (by omega)
  · exact .inr ⟨by omega, by omega⟩
section
variable {P : Program} {w : World} {K : PySem.W.Frag} {mg : Str → Option Value} {base : Heap}
/-- what a web wants -/
structure WebOK (size : Nat) (ls : List (Nat × Nat)) : Prop where
  s1 : 1 ≤ size
  s40 : size ≤ 40
  l160 : ls.length ≤ 160
  lk : ∀ l ∈ ls, l.1 < l.2 ∧ l.2 < size
  lasc : ls.Pairwise ltP
def WebFs (size : Nat) (lv rr : V) : List (Str × V) := [("size", vN size), ("links", lv), ("_rows", rr)]
def spWebI (K : PySem.W.Frag) : Sp := fun vs H Q _ => ∃ (x dx : Addr) (size : Nat) (lv : V) (ls : List (Nat × Nat)), vs = [.ref x, vN size, lv] ∧ H x = some (.ins (He.ga K "Web") dx []) ∧ Tp H lv (dLs ls) ∧ WebOK size ls ∧
  ∀ H' rr, FB [x] H H' → H' x = some (.ins (He.ga K "Web") dx (WebFs size lv rr)) → RowsAt H' rr ls size → Q .non H'
theorem fs3 (s l r : V) : putF "_rows" r (putF "links" l (putF "size" s [])) = [(("size" : Str), s), ("links", l), ("_rows", r)] := by rfl
theorem rowM_snoc {ls : List (Nat × Nat)} {i : Nat} {a b : Nat} (h : ls[i]? = some (a, b)) (x : Nat) : rowM (ls.take (i + 1)) x = rowM (ls.take i) x ++ ((if a = x then [b] else []) ++ (if b = x then [a] else [])) := by
  rw [List.take_add_one, h]
  unfold rowM
  rw [List.flatMap_append]
  simp
theorem FB.free {ks : List Addr} {H H' : Hp} {l : Addr} (a : FB ks H H') (hk : ∀ k ∈ ks, H' k ≠ none) (h : H' l = none) : H l = none := by
  by_cases z : l ∈ ks
  · exact absurd h (hk l z)
  · cases e : H l with
    | none => rfl
    | some o =>
      rw [a l o z e] at h
      cases h
/-- rows of lists under way -/
structure RwI (H0 H' : Hp) (D : Addr) (ras : List Addr) (n : Nat) (g : Nat → List Nat) : Prop where
  fD : H0 D = none
  fr : ∀ r ∈ ras, H0 r = none
  hD : H' D = some (.lst (ras.map V.ref))
  nD : D ∉ ras
  nd : ras.Nodup
  len : ras.length = n
  row : ∀ j r, ras[j]? = some r → H' r = some (.lst ((g j).map vN))
theorem RwI.same {H0 H' H2 : Hp} {D : Addr} {ras : List Addr} {n : Nat} {g : Nat → List Nat} (h : RwI H0 H' D ras n g) (s : Same H' H2) : RwI H0 H2 D ras n g :=
  ⟨h.fD, h.fr, s _ _ h.hD, h.nD, h.nd, h.len, fun j r e => s _ _ (h.row j r e)⟩
theorem RwI.cong {H0 H' : Hp} {D : Addr} {ras : List Addr} {n : Nat} {g g2 : Nat → List Nat} (h : RwI H0 H' D ras n g) (e : ∀ j, j < n → g j = g2 j) : RwI H0 H' D ras n g2 :=
  ⟨h.fD, h.fr, h.hD, h.nD, h.nd, h.len, fun j r z => by
    have hj := (List.getElem?_eq_some_iff.mp z).1
    rw [h.len] at hj
    rw [← e j hj]
    exact h.row j r z⟩
theorem RwI.put {H0 H' : Hp} {D : Addr} {ras : List Addr} {n : Nat} {g : Nat → List Nat} (h : RwI H0 H' D ras n g) {j : Nat} {r : Addr} (e : ras[j]? = some r) (b : Nat) :
    RwI H0 (upd H' r (.lst ((g j).map vN ++ [vN b]))) D ras n fun i => if i = j then g i ++ [b] else g i := by
  have hr : r ∈ ras := List.mem_of_getElem? e
  refine ⟨h.fD, h.fr, ?_, h.nD, h.nd, h.len, fun i r2 e2 => ?_⟩
  · rw [upd_ne fun z => h.nD (by rw [z]; exact hr)]
    exact h.hD
  · by_cases z : i = j
    · subst z
      rw [e] at e2
      cases e2
      rw [upd_same, if_pos rfl, List.map_append]
      rfl
    · rw [if_neg z, upd_ne (fun w => ?_)]
      · exact h.row i r2 e2
      · subst w
        obtain ⟨h1, e3⟩ := List.getElem?_eq_some_iff.mp e
        obtain ⟨h2, e4⟩ := List.getElem?_eq_some_iff.mp e2
        exact z ((List.getElem_inj h.nd).mp (e4.trans e3.symm))
theorem RwI.snoc {H0 H' H2 : Hp} {D : Addr} {ras : List Addr} {n : Nat} {r : Addr} (h : RwI H0 H' D ras n fun _ => []) (nr : H' r = none) (n0 : H0 r = none) (h1 : H2 = upd (upd H' r (.lst [])) D (.lst (ras.map V.ref ++ [.ref r]))) : RwI H0 H2 D (ras ++ [r]) (n + 1) fun _ => [] := by
  subst h1
  have nrD : r ≠ D := fun z => by
    rw [z, h.hD] at nr
    cases nr
  have nrr : r ∉ ras := fun z => by
    obtain ⟨j, hj, e⟩ := List.mem_iff_getElem.mp z
    have := h.row j r (by rw [List.getElem?_eq_getElem hj, e])
    rw [nr] at this
    cases this
  refine ⟨h.fD, fun q hq => ?_, by rw [upd_same, List.map_append]; rfl, fun z => ?_, ?_, by rw [List.length_append, h.len]; rfl, fun j q e => ?_⟩
  · rcases List.mem_append.mp hq with z | z
    · exact h.fr q z
    · rw [List.mem_singleton.mp z]
      exact n0
  · rcases List.mem_append.mp z with z | z
    · exact h.nD z
    · exact nrD (List.mem_singleton.mp z).symm
  · rw [List.nodup_append]
    exact ⟨h.nd, by simp, fun a ha b hb z => nrr (by rw [← List.mem_singleton.mp hb, ← z]; exact ha)⟩
  · by_cases z : q = r
    · subst z
      rw [upd_ne nrD, upd_same]
      rfl
    · have hj : ras[j]? = some q := by
        rw [List.getElem?_append] at e
        split at e
        · exact e
        · exact absurd (List.mem_singleton.mp (List.mem_of_getElem? e)) z
      rw [upd_ne (fun w => h.nD (by rw [← w]; exact List.mem_of_getElem? hj)), upd_ne z]
      exact h.row j q hj
theorem rowM_len (ls : List (Nat × Nat)) (x : Nat) : (rowM ls x).length ≤ 2 * ls.length := by
  induction ls with
  | nil => simp [rowM]
  | cons l ls ih =>
    unfold rowM at ih ⊢
    rw [List.flatMap_cons, List.length_append, List.length_cons, List.length_append]
    have h1 : (if l.1 = x then [l.2] else []).length ≤ 1 := by split <;> simp
    have h2 : (if l.2 = x then [l.1] else []).length ≤ 1 := by split <;> simp
    omega
theorem b_Web_init (T : Txt K mg) : BodyOk P w K mg base 0 "Web.__init__" s_Web___init__ N_Web___init__ (spWebI K) := by
  intro f cdv A outer s H vs Q E hr h
  obtain ⟨x, dx, size, lv, ls, rfl, hx, hL, ok, q⟩ := h
  obtain ⟨la, lxs, rfl, hla, hall⟩ := tpT hL
  have hlen : lxs.length = ls.length := by rw [hall.length, List.length_map]
  have h40 := ok.s40
  have h160 := ok.l160
  refine ⟨_, (pss_cons (ps_if (pt_not (pt_chain op_le op_le pe_int (pv 1) (pe_gc (by rfl) T.c_MOST_CELLS)))
 (pss_one ps_never)
 pss_nil)
 (pss_cons (ps_if (pt_cmpR op_gt (pe_callB call_len_seq (by rfl) T.b_len PySem.boot_len (pa_cons (pv 2) pa_nil)) (pe_gc (by rfl) T.c_MOST_LINKS) (nomark _))
 (pss_one ps_never)
 pss_nil)
 (pss_cons (ps_set (i := 3) sc_Web___init__.nd rfl (Or.inl rfl) (pe_tup (pa_cons (pe_un un_neg pe_int) (pa_cons (pe_un un_neg pe_int) pa_nil))))
 (pss_cons (ps_for PassesOwn.never rfl (PF.pi_enumT (by rfl) T.b_enumerate (pa_cons (pv 2) pa_nil)) (pg_tup rfl (pgs_cons (pg_name (i := 4) sc_Web___init__.nd rfl (Or.inl rfl)) (pgs_cons (pg_name (i := 5) sc_Web___init__.nd rfl (Or.inl rfl)) pgs_nil)))
 (pss_cons (ps_if (PW.pt (pw_or (pt_cmpR op_ne (pe_callB call_len_seq (by rfl) T.b_len PySem.boot_len (pa_cons (pv 5) pa_nil)) pe_int (nomark _)) (pw_or (pt_not (PF.pt_chain3 op_le op_lt op_lt pe_int (pe_ix ix_tup (pv 5) pe_int (fun _ _ => rfl)) (pe_ix ix_tup (pv 5) pe_int (fun _ _ => rfl)) (pv 1))) (pw_or1 (pt_not (pt_cmpR (op_ltT hr.units0) (pv 3) (pv 5) (nomark _)))))))
 (pss_one ps_never)
 pss_nil)
 (pss_one (ps_set (i := 3) sc_Web___init__.nd rfl (Or.inl rfl) (pv 5)))))
 (pss_cons (ps_fld (pv 0) (pv 1) rfl)
 (pss_cons (ps_fld (pv 0) (pv 2) rfl)
 (pss_cons (ps_setLc (i := 6) (own := [("_", 9)]) (by rfl) sc_Web___init__.nd rfl rfl (sw_true rfl rfl rfl (by decide +kernel)) (pi_range1 (by rfl) T.b_range (pa_cons (pv 1) pa_nil)) (blkOk_by (N := N_Web___init__) (sc := defScope s_Web___init__) (own := [("_", 9)]) (by decide +kernel)) (fun _ _ _ _ _ => by exact (pg_name (i := 9) sc_Web___init__.nd rfl (Or.inl rfl))) (fun _ _ _ _ _ => by exact pts_nil) (fun _ _ _ _ _ => by exact (pe_lst pa_nil)))
 (pss_cons (ps_for PassesOwn.never rfl (pi_tup (pv 2)) (pg_tup rfl (pgs_cons (pg_name (i := 7) sc_Web___init__.nd rfl (Or.inl rfl)) (pgs_cons (pg_name (i := 8) sc_Web___init__.nd rfl (Or.inl rfl)) pgs_nil)))
 (pss_cons (ps_expr (pe_bm PySem.F.plainAttrs_list PySem.F.slot_list_append PySem.F.type_list_append mt_append (pe_ix ix_list (pv 6) (pv 7) (fun _ _ => rfl)) (pa_cons (pv 8) pa_nil)))
 (pss_one (ps_expr (pe_bm PySem.F.plainAttrs_list PySem.F.slot_list_append PySem.F.type_list_append mt_append (pe_ix ix_list (pv 6) (pv 8) (fun _ _ => rfl)) (pa_cons (pv 7) pa_nil))))))
 (pss_one (ps_fld (pv 0) (pe_lc (own := [("row", 10)]) (by rfl) sc_Web___init__.nd (pi_list (pv 6)) (blkOk_by (N := N_Web___init__) (sc := defScope s_Web___init__) (own := [("row", 10)]) (by decide +kernel)) (fun _ _ _ _ _ => by exact (pg_name (i := 10) sc_Web___init__.nd rfl (Or.inl rfl))) (fun _ _ _ _ _ => by exact pts_nil) (fun _ _ _ _ _ => by exact (PF.pe_tupleOfK (K := K) rfl (by rfl) T.b_tuple (pe_callB (r := rSortedI K) cr_sortedI (by rfl) T.b_sorted (by decide +kernel) (pa_cons (pv 10) pa_nil))))) rfl)))))))))), ?_⟩
  refine ⟨_, rfl, 1, _, rfl, rfl, true, bt (by have := ok.s1; omega), iteT ⟨_, 40, rfl, rfl, true, bt (by omega), iteF ?_⟩⟩
  refine ⟨_, rfl, la, _, rfl, .inr (SqT.of hla), _, 160, rfl, rfl, false, bf (by omega), iteF ?_⟩
  refine ⟨_, rfl, _, rfl, sz100k (by show 2 ≤ 100000; decide), fun t0 nt0 => ?_⟩
  have s0 := same_new (o := .tup [V.int (-1), V.int (-1)]) nt0
  refine ⟨_, rfl, la, lxs, rfl, SqT.of (s0 _ _ hla), for_enumT (K := K) (a := la) (xs := lxs) (fun i σ H' => ∃ bb b0 b1 x4 x5, Same H H' ∧ H' bb = some (.tup [.int b0, .int b1]) ∧ Bf ls i b0 b1 ∧ σ = [some (.ref x), some (vN size), some (.ref la), some (.ref bb), x4, x5, none, none, none, none, none]) ⟨t0, -1, -1, none, none, s0, upd_same, Bf.zero ls, rfl⟩ (fun i σ H' _ p => by
    obtain ⟨_, _, _, _, _, sm, _⟩ := p
    exact SqT.of (sm _ _ hla)) ?_ ?_⟩
  · rintro i v t σ H' hv ⟨bb, b0, b1, x4, x5, sm, hbb, bf0, rfl⟩ nt
    obtain ⟨⟨p, r⟩, hp, tp⟩ := hall.getF hv
    have sm2 := sm.trans (same_new (o := .tup [.int (i : Nat), v]) nt)
    have hbb2 := same_new (o := .tup [.int (i : Nat), v]) nt _ _ hbb
    obtain ⟨pa, rfl, hpa⟩ := tpP (tp.mono (same_ts sm2))
    obtain ⟨l1, l2⟩ := ok.lk _ (List.mem_of_getElem? hp)
    simp only at l1 l2
    refine ⟨t, _, rfl, SqT.of upd_same, rfl, _, _, rfl, _, _, rfl, rfl, ?_⟩
    refine ⟨_, rfl, pa, _, rfl, .inr (SqT.of hpa), rfl, _, rfl, itF rfl ?_⟩
    refine ⟨_, rfl, pa, _, _, vN p, rfl, rfl, SqT.of hpa, at_of rfl rfl, 0, _, rfl, rfl, true, bt (by omega), iteT ?_⟩
    refine ⟨_, rfl, pa, _, _, vN r, rfl, rfl, SqT.of hpa, at_of rfl rfl, _, _, rfl, rfl, true, bt (by omega), iteT ?_⟩
    refine ⟨_, rfl, _, _, rfl, rfl, true, bt (by omega), itF rfl ?_⟩
    refine ⟨_, rfl, _, rfl, bb, pa, [b0, b1], [(p : Int), (r : Int)], rfl, rfl, SqT.of hbb2, SqT.of hpa, true, ?_⟩
    have hb := bf0 _ hp
    refine ⟨congrArg V.bl (lexLt2 (by omega)), itF rfl ?_⟩
    exact ⟨_, rfl, pa, _, _, _, _, sm2, hpa, Bf.next ok.lasc hp, rfl⟩
  · rintro σ H1 ⟨bb, b0, b1, x4, x5, sm, hbb, bf0, rfl⟩
    have hx1 := sm _ _ hx
    have hla1 := sm _ _ hla
    refine ⟨_, rfl, _, rfl, x, He.ga K "Web", dx, [], rfl, hx1, T.cl_Web, T.n_Web_size, by simp, ?_⟩
    refine ⟨_, rfl, _, rfl, x, He.ga K "Web", dx, _, rfl, upd_same, T.cl_Web, T.n_Web_links, by show 1 < 1000; decide, ?_⟩
    have hnx : x ≠ x → False := fun z => z rfl
    obtain ⟨H2, hH2⟩ : ∃ H2, H2 = upd (upd H1 x (.ins (He.ga K "Web") dx (putF "size" (vN size) []))) x (.ins (He.ga K "Web") dx (putF "links" (.ref la) (putF "size" (vN size) []))) := ⟨_, rfl⟩
    have fb2 : FB [x] H H2 := by
      rw [hH2]
      exact ((FB.same sm).trans (FB.upd (by simp))).trans (FB.upd (by simp))
    have hx2 : H2 x = some (.ins (He.ga K "Web") dx (putF "links" (.ref la) (putF "size" (vN size) []))) := by rw [hH2, upd_same]
    have tk2 : TK H H2 := fb2.tk fun k hk xs e => by
      rw [List.mem_singleton.mp hk, hx] at e
      cases e
    have hla2 := tk2 _ _ hla
    have fr2 : ∀ l, H2 l = none → H l = none := fun l h => fb2.free (fun k hk z => by
      rw [List.mem_singleton.mp hk, hx2] at z
      cases z) h
    rw [← hH2]
    refine ⟨_, rfl, _, rfl, (small62 (by omega)).1, (small62 (by omega)).2, fun D nD => ?_⟩
    refine lc_range0 (n := size) (fun i H' => Same H2 H' ∧ ∃ ras, RwI H2 H' D ras i fun _ => []) ⟨same_new nD, [], nD, fun _ h => (by cases h), upd_same, (by simp), .nil, rfl, fun j r e => (by simp at e)⟩ ?_ ?_
    · rintro i H3 hi ⟨sm3, ras, rw3⟩
      refine ⟨rfl, yes (itT rfl ?_)⟩
      refine ⟨sz100k (by show 0 ≤ 100000; decide), fun t nt => ?_⟩
      have s4 := same_new (o := .lst []) nt
      have n0 := sm3.free nt
      refine ⟨_, s4 _ _ rw3.hD, sz100kl (by rw [List.length_map, rw3.len]; omega), same_mut (sm3.trans s4) nD, ras ++ [t], rw3.snoc nt n0 rfl⟩
    · rintro H3 ⟨sm3, ras, rw3⟩
      refine ⟨_, rfl, la, rfl, ⟨_, SqT.of (sm3 _ _ hla2)⟩, for_tup (K := K) (a := la) (xs := lxs) (fun i σ H' => Same H2 H' ∧ RwI H2 H' D ras size (rowM (ls.take i)) ∧ ∃ y7 y8, σ = [some (.ref x), some (vN size), some (.ref la), some (.ref bb), x4, x5, some (.ref D), y7, y8, none, none]) ⟨sm3, rw3.cong fun j _ => rfl, none, none, rfl⟩ (fun i σ H' _ p => SqT.of (p.1 _ _ hla2)) ?_ ?_⟩
      · rintro i v σ H4 hv ⟨sm4, rw4, y7, y8, rfl⟩
        obtain ⟨⟨p, r⟩, hp, tp⟩ := hall.getF hv
        obtain ⟨pa, rfl, hpa⟩ := tpP ((tp.mono tk2).mono (same_ts sm4))
        obtain ⟨l1, l2⟩ := ok.lk _ (List.mem_of_getElem? hp)
        simp only at l1 l2
        have hpl : p < ras.length := by rw [rw4.len]; omega
        have hrl : r < ras.length := by rw [rw4.len]; omega
        have gp : ras[p]? = some ras[p] := List.getElem?_eq_getElem hpl
        have gr : ras[r]? = some ras[r] := List.getElem?_eq_getElem hrl
        have small : ∀ j, (rowM (ls.take i) j).length ≤ 1000 := fun j => by
          have := rowM_len (ls.take i) j
          rw [List.length_take] at this
          omega
        refine ⟨pa, _, rfl, SqT.of hpa, rfl, _, _, rfl, _, _, rfl, rfl, ?_⟩
        refine ⟨_, rfl, _, rfl, D, _, _, .ref ras[p], rfl, rfl, SqL.of rw4.hD, at_of rfl (by rw [List.getElem?_map, gp]; rfl), .inl ⟨rfl, _, SqL.of (rw4.row p _ gp)⟩, _, rfl, ras[p], _, _, rfl, rfl, rw4.row p _ gp, sz100kl (by rw [List.length_map]; have := small p; omega), ?_⟩
        have rw5 := rw4.put gp r
        refine ⟨_, rfl, _, rfl, D, _, _, .ref ras[r], rfl, rfl, SqL.of rw5.hD, at_of rfl (by rw [List.getElem?_map, gr]; rfl), .inl ⟨rfl, _, SqL.of (rw5.row r _ gr)⟩, _, rfl, ras[r], _, _, rfl, rfl, rw5.row r _ gr, sz100kl (by rw [if_neg (by omega), List.length_map]; have := small r; omega), ?_⟩
        have rw6 := rw5.put gr p
        refine ⟨same_mut (same_mut sm4 (rw4.fr _ (List.getElem_mem hpl))) (rw4.fr _ (List.getElem_mem hrl)), rw6.cong fun j _ => ?_, _, _, rfl⟩
        rw [rowM_snoc hp j]
        by_cases h1 : j = p
        · subst h1
          rw [if_neg (by omega), if_pos rfl, if_pos rfl, if_neg (by omega), List.append_nil]
        · by_cases h2 : j = r
          · subst h2
            rw [if_pos rfl, if_neg h1, if_neg (by omega), if_pos rfl, List.nil_append]
          · rw [if_neg h2, if_neg h1, if_neg (by omega), if_neg (by omega), List.append_nil, List.append_nil]
      · rintro σ H4 ⟨sm4, rw4, y7, y8, rfl⟩
        rw [hlen, List.take_length] at rw4
        refine ⟨_, rfl, D, rfl, ⟨_, SqL.of rw4.hD⟩, fun D2 nD2 => ?_⟩
        refine lc_list (K := K) (a := D) (xs := ras.map V.ref) (fun i H' => Same H4 H' ∧ ∃ ys, H' D2 = some (.lst ys) ∧ TpAll H' ys (((List.range size).take i).map fun x => dF (nearL ls x))) ⟨same_new nD2, [], upd_same, .nil⟩ (fun i H' _ p => SqL.of (p.1 _ _ rw4.hD)) ?_ ?_
        · rintro i v H5 hv ⟨sm5, ys, hys, hall5⟩
          obtain ⟨hi, hv2⟩ := List.getElem?_eq_some_iff.mp hv
          rw [List.getElem_map] at hv2
          rw [List.length_map] at hi
          subst hv2
          have hi2 : i < size := by rw [← rw4.len]; exact hi
          have hrow := sm5 _ _ (rw4.row i _ (List.getElem?_eq_getElem hi))
          have en : ((rowM ls i).map fun (n : Nat) => (n : Int)).map V.int = (rowM ls i).map vN := by rw [List.map_map]; rfl
          have hyl : ys.length ≤ 40 := by
            rw [hall5.length, List.length_map, List.length_take, List.length_range]
            omega
          refine ⟨rfl, yes (itT rfl ?_)⟩
          refine ⟨_, rfl, ras[i], (rowM ls i).map fun (n : Nat) => (n : Int), rfl, SqL.of (by rw [en]; exact hrow), fun ns p perm rise np => .inl ⟨p, _, rfl, SqL.of upd_same, fun q nq => ?_⟩⟩
          have s6 := same_new (o := .lst (ns.map V.int)) np
          have s7 := s6.trans (same_new (o := .tup (ns.map V.int)) nq)
          refine ⟨ys, s7 _ _ hys, sz100kl (by omega), same_mut (sm5.trans s7) nD2, _, upd_same, ?_⟩
          have tkE := ts_lst (o := .lst (ys ++ [.ref q])) (s7 _ _ hys)
          rw [List.take_add_one, List.getElem?_range hi2, List.map_append]
          refine ((hall5.mono (same_ts s7)).mono tkE).app (.one (Tp.mono tkE ?_))
          rw [near_of perm rise] at s7 ⊢
          exact mkF (by rw [upd_same, List.map_map]; rfl)
        · rintro H5 ⟨sm5, ys, hys, hall5⟩
          rw [List.length_map, rw4.len, List.take_of_length_le (by rw [List.length_range]; exact Nat.le_refl _)] at hall5
          have sm6 := sm4.trans sm5
          have hx5 := sm6 _ _ hx2
          refine ⟨_, rfl, x, He.ga K "Web", dx, _, rfl, hx5, T.cl_Web, T.n_Web__rows, by show 2 < 1000; decide, ?_⟩
          have nDx : D2 ≠ x := fun z => by
            rw [z] at nD2
            rw [sm4 _ _ hx2] at nD2
            cases nD2
          have fb5 : FB [x] H (upd H5 x (.ins (He.ga K "Web") dx (putF "_rows" (.ref D2) (putF "links" (.ref la) (putF "size" (vN size) []))))) := (fb2.trans (FB.same sm6)).trans (FB.upd (by simp))
          refine q _ (.ref D2) fb5 ?_ ⟨D2, ys, rfl, ?_, hall5.mono fun b xs e => ?_⟩
          · rw [upd_same]
            rfl
          · rw [upd_ne nDx]
            exact hys
          · rw [upd_ne (ne_of e hx5 (by intro z; cases z))]
            exact e
end
end PF
namespace PFM
/-! coats that hang together -/
def Joined (n : Nat) (tb : List (Nat × Nat)) : Prop := ∀ S : Nat → Bool, S 0 = true → (∀ p ∈ tb, S p.1 = S p.2) → ∀ c, c < n → S c = true
def bt0 (R : List Bool) (x : Nat) : Bool := R.getD x false
theorem bt0_get {R : List Bool} {x : Nat} (h : x < R.length) : R[x]? = some (bt0 R x) := by
  unfold bt0
  rw [List.getD_eq_getElem?_getD, List.getElem?_eq_getElem h]
  rfl
/-- one pair -/
def mark (R : List Bool) (p : Nat × Nat) : List Bool := if bt0 R p.1 || bt0 R p.2 then (R.set p.1 true).set p.2 true else R
theorem mark_len (R : List Bool) (p : Nat × Nat) : (mark R p).length = R.length := by
  unfold mark
  split <;> simp
theorem bt0_set {R : List Bool} {x y : Nat} (h : x < R.length) : bt0 (R.set x true) y = if y = x then true else bt0 R y := by
  unfold bt0
  rw [List.getD_eq_getElem?_getD, List.getD_eq_getElem?_getD, List.getElem?_set]
  by_cases e : x = y
  · subst e
    rw [if_pos rfl, if_pos rfl, if_pos h]
    rfl
  · rw [if_neg e, if_neg fun z => e z.symm]
theorem cnt_set {R : List Bool} {x : Nat} (h : x < R.length) : (R.set x true).count true = R.count true + if bt0 R x then 0 else 1 := by
  have e : R[x] = bt0 R x := by
    have := bt0_get h
    rw [List.getElem?_eq_getElem h] at this
    exact Option.some.inj this
  rw [List.count_set h, e]
  cases hb : bt0 R x with
  | false => simp
  | true =>
    have : 0 < R.count true := List.count_pos_iff.mpr (by
      rw [← hb, ← e]
      exact List.getElem_mem h)
    simp
    omega
theorem set_id {R : List Bool} {x : Nat} (h : x < R.length) (e : bt0 R x = true) : R.set x true = R := by
  refine List.ext_getElem? fun i => ?_
  rw [List.getElem?_set]
  by_cases z : x = i
  · subst z
    rw [if_pos rfl, if_pos h, bt0_get h, e]
  · rw [if_neg z]
/-- a pair leaves all as it is and is closed, or marks one more -/
theorem mark_step {R : List Bool} {p : Nat × Nat} (h1 : p.1 < R.length) (h2 : p.2 < R.length) : (mark R p = R ∧ bt0 R p.1 = bt0 R p.2) ∨ R.count true < (mark R p).count true := by
  unfold mark
  cases e1 : bt0 R p.1 with
  | true =>
    rw [Bool.true_or, if_pos rfl, set_id h1 e1]
    cases e2 : bt0 R p.2 with
    | true => exact .inl ⟨set_id h2 e2, rfl⟩
    | false =>
      right
      rw [cnt_set h2, e2]
      simp
  | false =>
    cases e2 : bt0 R p.2 with
    | false => exact .inl ⟨rfl, rfl⟩
    | true =>
      right
      rw [Bool.or_true, if_pos rfl, cnt_set (by rw [List.length_set]; exact h2), cnt_set h1, e1]
      simp
      omega
theorem mark_up {R : List Bool} {p : Nat × Nat} (h1 : p.1 < R.length) (h2 : p.2 < R.length) {x : Nat} (e : bt0 R x = true) : bt0 (mark R p) x = true := by
  unfold mark
  split
  · rw [bt0_set (by rw [List.length_set]; exact h2), bt0_set h1, e]
    simp
  · exact e
theorem mark_cnt {R : List Bool} {p : Nat × Nat} (h1 : p.1 < R.length) (h2 : p.2 < R.length) : R.count true ≤ (mark R p).count true := by
  rcases mark_step h1 h2 with ⟨h, _⟩ | h
  · rw [h]
    exact Nat.le_refl _
  · omega
/-- a round -/
def rnd (R : List Bool) (tb : List (Nat × Nat)) : List Bool := tb.foldl mark R
theorem rnd_snoc (R : List Bool) (tb : List (Nat × Nat)) (p : Nat × Nat) : rnd R (tb ++ [p]) = mark (rnd R tb) p := by simp [rnd]
theorem rnd_len (tb : List (Nat × Nat)) : ∀ R, (rnd R tb).length = R.length := by
  induction tb with
  | nil => exact fun R => rfl
  | cons p tb ih => exact fun R => (ih _).trans (mark_len R p)
theorem rnd_cnt {n : Nat} (tb : List (Nat × Nat)) (h : ∀ p ∈ tb, p.1 < n ∧ p.2 < n) : ∀ R : List Bool, R.length = n → R.count true ≤ (rnd R tb).count true ∧ ∀ x, bt0 R x = true → bt0 (rnd R tb) x = true := by
  induction tb with
  | nil => exact fun R _ => ⟨Nat.le_refl _, fun _ e => e⟩
  | cons p tb ih =>
    intro R hl
    have hp := h p (by simp)
    obtain ⟨a, b⟩ := ih (fun q hq => h q (by simp [hq])) (mark R p) (by rw [mark_len]; exact hl)
    have h1 := mark_cnt (R := R) (p := p) (by omega) (by omega)
    exact ⟨Nat.le_trans h1 a, fun x e => b x (mark_up (by omega) (by omega) e)⟩
theorem rnd_step {n : Nat} (tb : List (Nat × Nat)) (h : ∀ p ∈ tb, p.1 < n ∧ p.2 < n) : ∀ R : List Bool, R.length = n → (rnd R tb = R ∧ ∀ p ∈ tb, bt0 R p.1 = bt0 R p.2) ∨ R.count true < (rnd R tb).count true := by
  induction tb with
  | nil => exact fun R _ => .inl ⟨rfl, fun p hp => by cases hp⟩
  | cons p tb ih =>
    intro R hl
    have hp := h p (by simp)
    have ht : ∀ q ∈ tb, q.1 < n ∧ q.2 < n := fun q hq => h q (by simp [hq])
    have hr := rnd_cnt tb ht (mark R p) (by rw [mark_len]; exact hl)
    rcases mark_step (R := R) (p := p) (by omega) (by omega) with ⟨h1, h2⟩ | h1
    · rcases ih ht R hl with ⟨a, b⟩ | a
      · left
        refine ⟨by show rnd (mark R p) tb = R; rw [h1]; exact a, fun q hq => ?_⟩
        rcases List.mem_cons.mp hq with z | z
        · rw [z]
          exact h2
        · exact b q z
      · right
        show _ < (rnd (mark R p) tb).count true
        rw [h1]
        exact a
    · right
      show _ < (rnd (mark R p) tb).count true
      omega
/-- what holds behind i rounds -/
structure Rd (n : Nat) (R : List Bool) (i : Nat) : Prop where
  len : R.length = n
  zero : bt0 R 0 = true
  cnt : min (i + 1) n ≤ R.count true
theorem full {R : List Bool} (h : R.length ≤ R.count true) : ∀ c, c < R.length → bt0 R c = true := by
  intro c hc
  have : R.count true = R.length := Nat.le_antisymm List.count_le_length h
  have h2 := (List.count_eq_length.mp this) _ (List.getElem_mem hc)
  have := bt0_get hc
  rw [List.getElem?_eq_getElem hc] at this
  rw [← Option.some.inj this]
  exact h2.symm
theorem full' {R : List Bool} {n : Nat} (hl : R.length = n) (h : ∀ c, c < n → bt0 R c = true) : R.count true = n := by
  rw [← hl]
  refine List.count_eq_length.mpr fun b hb => ?_
  obtain ⟨i, hi, e⟩ := List.mem_iff_getElem.mp hb
  have := bt0_get hi
  rw [List.getElem?_eq_getElem hi, h i (by omega)] at this
  rw [← e]
  exact (Option.some.inj this).symm
theorem Rd.next {n : Nat} {R : List Bool} {i : Nat} {tb : List (Nat × Nat)} (r : Rd n R i) (h : ∀ p ∈ tb, p.1 < n ∧ p.2 < n) (j : Joined n tb) : Rd n (rnd R tb) (i + 1) := by
  refine ⟨(rnd_len tb R).trans r.len, (rnd_cnt tb h R r.len).2 0 r.zero, ?_⟩
  rcases rnd_step tb h R r.len with ⟨a, b⟩ | a
  · have := full' r.len (j (bt0 R) r.zero b)
    rw [a]
    omega
  · have := r.cnt
    omega
theorem Rd.all {n : Nat} {R : List Bool} {i : Nat} (r : Rd n R i) (hi : n ≤ i + 1) : ∀ c, c < n → bt0 R c = true := by
  have := r.cnt
  intro c hc
  exact full (by rw [r.len]; omega) c (by rw [r.len]; exact hc)
theorem asc_nodup {ps : List (Nat × Nat)} (h : ps.Pairwise ltP) : ps.Nodup := h.imp fun {a b} h e => by
  subst e
  unfold ltP at h
  omega
theorem asc_len (ps : List (Nat × Nat)) (n : Nat) (h : ps.Pairwise ltP) (b : ∀ p ∈ ps, p.1 < n ∧ p.2 < n) : ps.length ≤ n * n := by
  have hnd : (ps.map fun p => p.1 * n + p.2).Nodup := by
    unfold List.Nodup
    rw [List.pairwise_map]
    refine (List.Pairwise.and_mem.mp h).imp fun {p q} ⟨hp, hq, hl⟩ => ?_
    have h1 := b p hp
    have h2 := b q hq
    unfold ltP at hl
    intro e
    rcases hl with hl | ⟨e1, e2⟩
    · have : (p.1 + 1) * n ≤ q.1 * n := Nat.mul_le_mul_right n hl
      rw [Nat.succ_mul] at this
      omega
    · rw [e1] at e
      omega
  have := nodup_lt (N := n * n) hnd fun z hz => by
    obtain ⟨p, hp, rfl⟩ := List.mem_map.mp hz
    have h1 := b p hp
    have : (p.1 + 1) * n ≤ n * n := Nat.mul_le_mul_right n h1.1
    rw [Nat.succ_mul] at this
    omega
  rw [List.length_map] at this
  exact this
end PFM
namespace PF
open PySem PySem.Spec PyProof.Rows L2
open C8 (Cal Mak Met pe_c pe_mk pe_gc pe_mt pe_mt0)
open PFM
section
variable {P : Program} {w : World} {K : PySem.W.Frag} {mg : Str → Option Value} {base : Heap}
/-- what a table wants -/
structure TabOK (n : Nat) (tb : List (Nat × Nat)) : Prop where
  c2 : 2 ≤ n
  c6 : n ≤ 6
  ord : ∀ p ∈ tb, p.1 < p.2 ∧ p.2 < n
  tasc : tb.Pairwise ltP
  joined : Joined n tb
def spWJ : Sp := fun vs H Q _ => ∃ (n : Nat) (tv : V) (tb : List (Nat × Nat)), vs = [vN n, tv] ∧ Tp H tv (dLs tb) ∧ TabOK n tb ∧ ∀ H', Same H H' → Q .non H'
theorem zeros (n : Nat) (h : 1 ≤ n) : Rd n ((List.range n).map fun i => decide (i = 0)) 0 := by
  refine ⟨by simp, ?_, ?_⟩
  · unfold bt0
    rw [List.getD_eq_getElem?_getD, List.getElem?_map, List.getElem?_range (by omega)]
    rfl
  · have : 0 < ((List.range n).map fun i => decide (i = 0)).count true := List.count_pos_iff.mpr (List.mem_map.mpr ⟨0, List.mem_range.mpr (by omega), rfl⟩)
    omega
theorem bl_get {R : List Bool} {x : Nat} (h : x < R.length) : (R.map V.bl)[x]? = some (.bl (bt0 R x)) := by rw [List.getElem?_map, bt0_get h]; rfl
theorem b_want_joined_coats (T : Txt K mg) : BodyOk P w K mg base 0 "want_joined_coats" s_want_joined_coats N_want_joined_coats spWJ := by
  intro f cdv A outer s H vs Q E hr h
  obtain ⟨n, tv, tb, rfl, hT, ok, q⟩ := h
  obtain ⟨ta, txs, rfl, hta, hall⟩ := tpT hT
  have c2 := ok.c2
  have c6 := ok.c6
  have tlen : txs.length = tb.length := by rw [hall.length, List.length_map]
  have tbn : ∀ p ∈ tb, p.1 < n ∧ p.2 < n := fun p hp => (let ⟨a, b⟩ := ok.ord p hp; ⟨by omega, b⟩)
  refine ⟨_, (pss_cons (ps_setLc (i := 3) (own := [("coat", 2)]) (by rfl) sc_want_joined_coats.nd rfl rfl (sw_true rfl rfl rfl (by decide +kernel)) (pi_range1 (by rfl) T.b_range (pa_cons (pv 0) pa_nil)) (blkOk_by (N := N_want_joined_coats) (sc := defScope s_want_joined_coats) (own := [("coat", 2)]) (by decide +kernel)) (fun _ _ _ _ _ => by exact (pg_name (i := 2) sc_want_joined_coats.nd rfl (Or.inl rfl))) (fun _ _ _ _ _ => by exact pts_nil) (fun _ _ _ _ _ => by exact (pe_cmpR op_eq (pv 2) pe_int (nomark _))))
 (pss_cons (ps_for PassesOwn.never rfl (pi_range1 (by rfl) T.b_range (pa_cons (pv 0) pa_nil)) (pg_name (i := 4) sc_want_joined_coats.nd rfl (Or.inl rfl))
 (pss_one (ps_for PassesOwn.never rfl (pi_tup (pv 1)) (pg_tup rfl (pgs_cons (pg_name (i := 5) sc_want_joined_coats.nd rfl (Or.inl rfl)) (pgs_cons (pg_name (i := 6) sc_want_joined_coats.nd rfl (Or.inl rfl)) pgs_nil)))
 (pss_one (ps_if (PW.pt (pw_or (pt_val (pe_ix ix_list (pv 3) (pv 5) (fun _ _ => rfl))) (pw_or1 (pt_val (pe_ix ix_list (pv 3) (pv 6) (fun _ _ => rfl))))))
 (pss_cons (ps_asg pe_bl (pg_sub (pv 3) (pv 5) set_list))
 (pss_one (ps_asg pe_bl (pg_sub (pv 3) (pv 6) set_list))))
 pss_nil)))))
 (pss_one (ps_for PassesOwn.never rfl (pi_range1 (by rfl) T.b_range (pa_cons (pv 0) pa_nil)) (pg_name (i := 2) sc_want_joined_coats.nd rfl (Or.inl rfl))
 (pss_one (ps_if (pt_not (pt_val (pe_ix ix_list (pv 3) (pv 2) (fun _ _ => rfl))))
 (pss_one ps_never)
 pss_nil)))))), ?_⟩
  refine ⟨_, rfl, _, rfl, (small62 (by omega)).1, (small62 (by omega)).2, fun D nD => ?_⟩
  refine lc_range0 (n := n) (fun i H' => Same H H' ∧ H' D = some (.lst ((((List.range n).map fun i => decide (i = 0)).take i).map V.bl))) ⟨same_new nD, upd_same⟩ ?_ ?_
  · rintro i H1 hi ⟨sm, hD⟩
    refine ⟨rfl, yes (itT rfl ?_)⟩
    refine ⟨_, rfl, rfl, _, hD, sz100kl (by rw [List.length_map, List.length_take]; omega), same_mut sm nD, ?_⟩
    rw [upd_same, take_map_succ (x := decide (i = 0)) (by rw [List.getElem?_map, List.getElem?_range hi]; rfl)]
    exact congrArg (fun b => some (HO.lst (_ ++ [V.bl b]))) (dec_vN (i := i) (j := 0))
  · rintro H1 ⟨sm, hD⟩
    rw [List.take_of_length_le (by simp)] at hD
    refine ⟨_, rfl, _, rfl, (small62 (by omega)).1, (small62 (by omega)).2, for_range0 (n := n) (fun i σ H' => Same H H' ∧ ∃ R x4 x5 x6, Rd n R i ∧ H' D = some (.lst (R.map V.bl)) ∧ σ = [some (vN n), some (.ref ta), none, some (.ref D), x4, x5, x6]) ⟨sm, _, none, none, none, zeros n (by omega), hD, rfl⟩ ?_ ?_⟩
    · rintro i σ H2 hi ⟨sm2, R, x4, x5, x6, rd, hD2, rfl⟩
      refine ⟨_, rfl, ta, rfl, ⟨_, SqT.of (sm2 _ _ hta)⟩, for_tup (K := K) (a := ta) (xs := txs) (fun j σ H' => Same H H' ∧ ∃ x5 x6, H' D = some (.lst ((rnd R (tb.take j)).map V.bl)) ∧ σ = [some (vN n), some (.ref ta), none, some (.ref D), some (vN i), x5, x6]) ⟨sm2, _, _, hD2, rfl⟩ (fun j σ H' _ p => SqT.of (p.1 _ _ hta)) ?_ ?_⟩
      · rintro j v σ H3 hv ⟨sm3, y5, y6, hD3, rfl⟩
        obtain ⟨⟨p, r⟩, hp, tp⟩ := hall.getF hv
        obtain ⟨pa, rfl, hpa⟩ := tpP (tp.mono (same_ts sm3))
        obtain ⟨l1, l2⟩ := tbn _ (List.mem_of_getElem? hp)
        simp only at l1 l2
        have e : tb.take (j + 1) = tb.take j ++ [(p, r)] := by rw [List.take_add_one, hp]; rfl
        obtain ⟨Q0, hQ0⟩ : ∃ Q0, Q0 = rnd R (tb.take j) := ⟨_, rfl⟩
        have hQl : Q0.length = n := by rw [hQ0, rnd_len, rd.len]
        rw [← hQ0] at hD3
        rw [e]
        simp only [rnd_snoc, ← hQ0]
        refine ⟨pa, _, rfl, SqT.of hpa, rfl, _, _, rfl, _, _, rfl, rfl, ?_⟩
        refine ⟨_, rfl, _, rfl, D, _, _, .bl (bt0 Q0 p), rfl, rfl, SqL.of hD3, at_of rfl (bl_get (by omega)), ?_⟩
        have e0 : ((Q0.map V.bl).set p (.bl true)).set r (.bl true) = ((Q0.set p true).set r true).map V.bl := by rw [List.map_set, List.map_set]
        have hl1 : r < ((Q0.map V.bl).set p (.bl true)).length := by rw [List.length_set, List.length_map]; omega
        have hl0 : p < (Q0.map V.bl).length := by rw [List.length_map]; omega
        have em : (bt0 Q0 p || bt0 Q0 r) = true → mark Q0 (p, r) = (Q0.set p true).set r true := fun e => by
          unfold mark
          rw [if_pos e]
        cases e1 : bt0 Q0 p with
        | true =>
          refine ⟨true, rfl, itT rfl (iteT ?_)⟩
          refine ⟨_, rfl, _, rfl, D, _, _, p, rfl, rfl, hD3, ixN_nat hl0, ?_⟩
          refine ⟨_, rfl, _, rfl, D, _, _, r, rfl, rfl, upd_same, ixN_nat hl1, ?_⟩
          refine ⟨same_mut (same_mut sm3 nD) nD, _, _, ?_, rfl⟩
          rw [upd_same, e0, em (by rw [e1]; rfl)]
        | false =>
          refine ⟨false, rfl, itF rfl ?_⟩
          refine ⟨_, rfl, _, rfl, D, _, _, .bl (bt0 Q0 r), rfl, rfl, SqL.of hD3, at_of rfl (bl_get (by omega)), ?_⟩
          cases e2 : bt0 Q0 r with
          | true =>
            refine ⟨true, rfl, iteT ?_⟩
            refine ⟨_, rfl, _, rfl, D, _, _, p, rfl, rfl, hD3, ixN_nat hl0, ?_⟩
            refine ⟨_, rfl, _, rfl, D, _, _, r, rfl, rfl, upd_same, ixN_nat hl1, ?_⟩
            refine ⟨same_mut (same_mut sm3 nD) nD, _, _, ?_, rfl⟩
            rw [upd_same, e0, em (by rw [e2, Bool.or_true])]
          | false =>
            refine ⟨false, rfl, iteF ?_⟩
            refine ⟨sm3, _, _, ?_, rfl⟩
            unfold mark
            rw [if_neg (by rw [e1, e2]; exact Bool.false_ne_true)]
            exact hD3
      · rintro σ H3 ⟨sm3, y5, y6, hD3, rfl⟩
        rw [tlen, List.take_length] at hD3
        exact ⟨sm3, _, _, _, _, rd.next tbn ok.joined, hD3, rfl⟩
    · rintro σ H2 ⟨sm2, R, x4, x5, x6, rd, hD2, rfl⟩
      refine ⟨_, rfl, _, rfl, (small62 (by omega)).1, (small62 (by omega)).2, for_range0 (n := n) (fun i σ H' => H' = H2 ∧ ∃ x2, σ = [some (vN n), some (.ref ta), x2, some (.ref D), x4, x5, x6]) ⟨rfl, _, rfl⟩ ?_ ?_⟩
      · rintro i σ H3 hi ⟨rfl, x2, rfl⟩
        refine ⟨_, rfl, _, rfl, D, _, _, .bl (bt0 R i), rfl, rfl, SqL.of hD2, at_of rfl (bl_get (by rw [rd.len]; exact hi)), ?_⟩
        exact ⟨_, by rw [rd.all (by omega) i hi], itF rfl ⟨rfl, _, rfl⟩⟩
      · rintro σ H3 ⟨rfl, x2, rfl⟩
        exact q _ sm2
/-! ### checked_table -/
def spCT : Sp := fun vs H Q _ => ∃ (n : Nat) (tv : V) (tb : List (Nat × Nat)), vs = [vN n, tv] ∧ Tp H tv (dLs tb) ∧ TabOK n tb ∧ ∀ H', Same H H' → Q tv H'
theorem tab_len {n : Nat} {tb : List (Nat × Nat)} (ok : TabOK n tb) : tb.length ≤ 36 := by
  have h := asc_len tb n ok.tasc fun p hp => (let ⟨a, b⟩ := ok.ord p hp; ⟨by omega, b⟩)
  have h6 := ok.c6
  have : n * n ≤ 6 * 6 := Nat.mul_le_mul h6 h6
  omega
theorem b_checked_table (T : Txt K mg) (c_want_joined_coats : Cal P w K mg base 1 "want_joined_coats" spWJ []) : BodyOk P w K mg base 1 "checked_table" s_checked_table N_checked_table spCT := by
  intro f cdv A outer s H vs Q E hr h
  obtain ⟨n, tv, tb, rfl, hT, ok, q⟩ := h
  obtain ⟨la, lxs, rfl, hla, hall⟩ := tpT hT
  have hlen : lxs.length = tb.length := by rw [hall.length, List.length_map]
  have c2 := ok.c2
  have c6 := ok.c6
  refine ⟨_, (pss_cons (ps_if (pt_cmpR op_isN (pv 1) pe_non (nomark _))
 (pss_one ps_never)
 pss_nil)
 (pss_cons (ps_set (i := 2) sc_checked_table.nd rfl (Or.inl rfl) (pe_tup (pa_cons (pe_un un_neg pe_int) (pa_cons (pe_un un_neg pe_int) pa_nil))))
 (pss_cons (ps_for PassesOwn.never rfl (PF.pi_enumT (by rfl) T.b_enumerate (pa_cons (pv 1) pa_nil)) (pg_tup rfl (pgs_cons (pg_name (i := 3) sc_checked_table.nd rfl (Or.inl rfl)) (pgs_cons (pg_name (i := 4) sc_checked_table.nd rfl (Or.inl rfl)) pgs_nil)))
 (pss_cons (ps_if (PW.pt (pw_or (pt_cmpR op_ne (pe_callB call_len_seq (by rfl) T.b_len PySem.boot_len (pa_cons (pv 4) pa_nil)) pe_int (nomark _)) (pw_or (pt_not (PF.pt_chain3 op_le op_lt op_lt pe_int (pe_ix ix_tup (pv 4) pe_int (fun _ _ => rfl)) (pe_ix ix_tup (pv 4) pe_int (fun _ _ => rfl)) (pv 0))) (pw_or1 (pt_not (pt_cmpR (op_ltT hr.units0) (pv 2) (pv 4) (nomark _)))))))
 (pss_one ps_never)
 pss_nil)
 (pss_one (ps_set (i := 2) sc_checked_table.nd rfl (Or.inl rfl) (pv 4)))))
 (pss_cons (ps_expr (pe_c c_want_joined_coats hr (by decide) (by rfl) (pa_cons (pv 0) (pa_cons (pv 1) pa_nil))))
 (pss_one (ps_ret (pv 1))))))), ?_⟩
  refine ⟨_, rfl, rfl, false, rfl, iteF ?_⟩
  refine ⟨_, rfl, _, rfl, sz100k (by show 2 ≤ 100000; decide), fun t0 nt0 => ?_⟩
  have s0 := same_new (o := .tup [V.int (-1), V.int (-1)]) nt0
  refine ⟨_, rfl, la, lxs, rfl, SqT.of (s0 _ _ hla), for_enumT (K := K) (a := la) (xs := lxs) (fun i σ H' => ∃ bb b0 b1 x4 x5, Same H H' ∧ H' bb = some (.tup [.int b0, .int b1]) ∧ Bf tb i b0 b1 ∧ σ = [some (vN n), some (.ref la), some (.ref bb), x4, x5, none, none]) ⟨t0, -1, -1, none, none, s0, upd_same, Bf.zero tb, rfl⟩ (fun i σ H' _ p => by
    obtain ⟨_, _, _, _, _, sm, _⟩ := p
    exact SqT.of (sm _ _ hla)) ?_ ?_⟩
  · rintro i v t σ H' hv ⟨bb, b0, b1, x4, x5, sm, hbb, bf0, rfl⟩ nt
    obtain ⟨⟨p, r⟩, hp, tp⟩ := hall.getF hv
    have sm2 := sm.trans (same_new (o := .tup [.int (i : Nat), v]) nt)
    have hbb2 := same_new (o := .tup [.int (i : Nat), v]) nt _ _ hbb
    obtain ⟨pa, rfl, hpa⟩ := tpP (tp.mono (same_ts sm2))
    obtain ⟨l1, l2⟩ := ok.ord _ (List.mem_of_getElem? hp)
    simp only at l1 l2
    refine ⟨t, _, rfl, SqT.of upd_same, rfl, _, _, rfl, _, _, rfl, rfl, ?_⟩
    refine ⟨_, rfl, pa, _, rfl, .inr (SqT.of hpa), rfl, _, rfl, itF rfl ?_⟩
    refine ⟨_, rfl, pa, _, _, vN p, rfl, rfl, SqT.of hpa, at_of rfl rfl, 0, _, rfl, rfl, true, bt (by omega), iteT ?_⟩
    refine ⟨_, rfl, pa, _, _, vN r, rfl, rfl, SqT.of hpa, at_of rfl rfl, _, _, rfl, rfl, true, bt (by omega), iteT ?_⟩
    refine ⟨_, rfl, _, _, rfl, rfl, true, bt (by omega), itF rfl ?_⟩
    refine ⟨_, rfl, _, rfl, bb, pa, [b0, b1], [(p : Int), (r : Int)], rfl, rfl, SqT.of hbb2, SqT.of hpa, true, ?_⟩
    have hb := bf0 _ hp
    refine ⟨congrArg V.bl (lexLt2 (by omega)), itF rfl ?_⟩
    exact ⟨_, rfl, pa, _, _, _, _, sm2, hpa, Bf.next ok.tasc hp, rfl⟩
  · rintro σ H1 ⟨bb, b0, b1, x4, x5, sm, hbb, bf0, rfl⟩
    refine ⟨_, rfl, _, rfl, n, .ref la, tb, rfl, hT.mono (same_ts sm), ok, fun H2 s2 => ?_⟩
    exact ⟨_, rfl, q H2 (sm.trans s2)⟩
/-! ### World -/
def spWorldI (K : PySem.W.Frag) : Sp := fun vs H Q _ => ∃ (x dx b db : Addr) (n m : Nat) (lv rr tv : V) (ls tb : List (Nat × Nat)), vs = [.ref x, .ref b, vN n, tv] ∧ H x = some (.ins (He.ga K "World") dx []) ∧ H b = some (.ins (He.ga K "Web") db (WebFs m lv rr)) ∧ Tp H lv (dLs ls) ∧ RowsAt H rr ls m ∧ Tp H tv (dLs tb) ∧ TabOK n tb ∧
  ∀ H', FB [x] H H' → IsWorld K H' (.ref x) ⟨m, ls, n, tb⟩ → Q .non H'
theorem b_World_init (T : Txt K mg) (c_checked_table : Cal P w K mg base 2 "checked_table" spCT []) : BodyOk P w K mg base 2 "World.__init__" s_World___init__ N_World___init__ (spWorldI K) := by
  intro f cdv A outer s H vs Q E hr h
  obtain ⟨x, dx, b, db, n, m, lv, rr, tv, ls, tb, rfl, hx, hb, hL, hR, hT, ok, q⟩ := h
  have c2 := ok.c2
  have c6 := ok.c6
  refine ⟨_, (pss_cons (ps_if (pt_not (pt_chain op_le op_le pe_int (pv 2) (pe_gc (by rfl) T.c_MOST_COATS)))
 (pss_one ps_never)
 pss_nil)
 (pss_cons (ps_fld (pv 0) (pv 1) rfl)
 (pss_cons (ps_fld (pv 0) (pv 2) rfl)
 (pss_one (ps_fld (pv 0) (pe_c c_checked_table hr (by decide) (by rfl) (pa_cons (pv 2) (pa_cons (pv 3) pa_nil))) rfl))))), ?_⟩
  refine ⟨_, rfl, 2, _, rfl, rfl, true, bt (by omega), iteT ⟨_, 6, rfl, rfl, true, bt (by omega), iteF ?_⟩⟩
  refine ⟨_, rfl, _, rfl, x, He.ga K "World", dx, _, rfl, hx, T.cl_World, T.n_World_web, by show 0 < 1000; decide, ?_⟩
  refine ⟨_, rfl, _, rfl, x, He.ga K "World", dx, _, rfl, upd_same, T.cl_World, T.n_World_coats, by show 1 < 1000; decide, ?_⟩
  obtain ⟨H2, hH2⟩ : ∃ H2, H2 = upd (upd H x (.ins (He.ga K "World") dx (putF "web" (.ref b) []))) x (.ins (He.ga K "World") dx (putF "coats" (vN n) (putF "web" (.ref b) []))) := ⟨_, rfl⟩
  rw [← hH2]
  have fb2 : FB [x] H H2 := by
    rw [hH2]
    exact (FB.upd (by simp)).trans (FB.upd (by simp))
  have hx2 : H2 x = some (.ins (He.ga K "World") dx (putF "coats" (vN n) (putF "web" (.ref b) []))) := by rw [hH2, upd_same]
  have tk2 : TK H H2 := fb2.tk fun k hk xs e => by
    rw [List.mem_singleton.mp hk, hx] at e
    cases e
  refine ⟨_, rfl, _, rfl, n, tv, tb, rfl, hT.mono tk2, ok, fun H3 s3 => ?_⟩
  refine ⟨_, rfl, x, He.ga K "World", dx, _, rfl, s3 _ _ hx2, T.cl_World, T.n_World_table, by show 2 < 1000; decide, ?_⟩
  have fb3 : FB [x] H (upd H3 x (.ins (He.ga K "World") dx (putF "table" tv (putF "coats" (vN n) (putF "web" (.ref b) []))))) := (fb2.trans (FB.same s3)).trans (FB.upd (by simp))
  have nxb : b ≠ x := fun z => by
    rw [z, hx] at hb
    injection hb with hb
    injection hb with h1 h2 h3
    cases h3
  have tk3 := fb3.tk fun k hk xs e => by
    rw [List.mem_singleton.mp hk, hx] at e
    cases e
  obtain ⟨ra, ys, rfl, hra, hys⟩ := hR
  have nxr : ra ≠ x := fun z => by
    rw [z, hx] at hra
    cases hra
  refine q _ fb3 ⟨x, dx, b, db, lv, .ref ra, tv, rfl, by rw [upd_same]; rfl, fb3 _ _ (by simp [nxb]) hb, hL.mono tk3, hT.mono tk3, ra, ys, rfl, fb3 _ _ (by simp [nxr]) hra, hys.mono tk3⟩
end
end PF
/-! the law's own draws; lists of pairs -/
namespace PF
open PySem PySem.Spec PyProof.Rows L2
open PFM
/-- a source of draws stands at s -/
def Src (H : Hp) (s : Addr) : Prop := ∃ a b : Nat, H s = some (.lst [vN a, vN b])
/-- all but the source stands, the source is one -/
structure SF (s : Addr) (H H' : Hp) : Prop where
  src : Src H' s
  fb : FB [s] H H'
theorem SF.refl {s : Addr} {H : Hp} (h : Src H s) : SF s H H := ⟨h, FB.refl _ _⟩
theorem SF.trans {s : Addr} {H H1 H2 : Hp} (a : SF s H H1) (b : SF s H1 H2) : SF s H H2 := ⟨b.src, a.fb.trans b.fb⟩
theorem Src.same {s : Addr} {H H1 : Hp} (h : Src H s) (a : Same H H1) : Src H1 s := let ⟨x, y, e⟩ := h; ⟨x, y, a _ _ e⟩
theorem SF.same {s : Addr} {H H1 : Hp} (h : Src H s) (a : Same H H1) : SF s H H1 := ⟨h.same a, FB.same a⟩
theorem SF.at {s b : Addr} {H H1 : Hp} {o : HO} (a : SF s H H1) (h : H b = some o) (n : b ≠ s) : H1 b = some o := a.fb b o (by simpa using n) h
theorem SF.tk {s : Addr} {H H1 : Hp} (a : SF s H H1) (h : Src H s) : TK H H1 := a.fb.tk fun k hk xs e => by
  obtain ⟨x, y, z⟩ := h
  rw [List.mem_singleton.mp hk, z] at e
  cases e
theorem SF.free {s l : Addr} {H H1 : Hp} (a : SF s H H1) (h : H1 l = none) : H l = none := a.fb.free (fun k hk z => by
  obtain ⟨x, y, e⟩ := a.src
  rw [List.mem_singleton.mp hk, e] at z
  cases z) h
theorem SF.nes {s l : Addr} {H H1 : Hp} (a : SF s H H1) (h : H1 l = none) : l ≠ s := fun e => by
  obtain ⟨x, y, z⟩ := a.src
  rw [← e, h] at z
  cases z
theorem Src.ne {s l : Addr} {H : Hp} (a : Src H s) (h : H l = none) : l ≠ s := fun e => by
  obtain ⟨x, y, z⟩ := a
  rw [← e, h] at z
  cases z
/-- an object made and put between, not the source -/
theorem SF.new {s l : Addr} {H H1 : Hp} {o : HO} (a : SF s H H1) (h : H1 l = none) : SF s H (upd H1 l o) := a.trans (SF.same a.src (same_new h))
theorem SF.put {s l : Addr} {H H1 : Hp} {o : HO} (a : SF s H H1) (h : H l = none) (n : l ≠ s) : SF s H (upd H1 l o) := by
  refine ⟨?_, a.fb.new h⟩
  obtain ⟨x, y, e⟩ := a.src
  exact ⟨x, y, by rw [upd_ne n.symm]; exact e⟩
theorem IsWorld.sf {K : PySem.W.Frag} {s : Addr} {H H1 : Hp} {v : V} {W : WD} (a : SF s H H1) (hs : Src H s) (n : 1 ≤ W.size) (h : IsWorld K H v W) : IsWorld K H1 v W := by
  obtain ⟨x, dx, b, db, lk, rr, tb, e, h1, h2, h3, h4, ra, ys, e5, h6, h7⟩ := h
  have tk := a.tk hs
  obtain ⟨p, q, hsrc⟩ := hs
  refine ⟨x, dx, b, db, lk, rr, tb, e, a.at h1 (fun z => ?_), a.at h2 (fun z => ?_), h3.mono tk, h4.mono tk, ra, ys, e5, a.at h6 (fun z => ?_), h7.mono tk⟩
  · rw [z, hsrc] at h1
    cases h1
  · rw [z, hsrc] at h2
    cases h2
  · rw [z, hsrc] at h6
    cases h6
    obtain ⟨m, hm⟩ : ∃ m, W.size = m + 1 := ⟨W.size - 1, by omega⟩
    rw [hm, List.range_succ_eq_map] at h7
    cases h7 with
    | cons c d => cases c
/-! ### lists of pairs -/
/-- a list of pairs at l -/
def LsAt (H : Hp) (l : Addr) (ls : List (Nat × Nat)) : Prop := ∃ xs, H l = some (.lst xs) ∧ TpAll H xs (ls.map dP)
theorem LsAt.same {H H1 : Hp} {l : Addr} {ls : List (Nat × Nat)} (h : LsAt H l ls) (a : Same H H1) : LsAt H1 l ls := let ⟨xs, b, c⟩ := h; ⟨xs, a _ _ b, c.mono (same_ts a)⟩
theorem LsAt.sf {s : Addr} {H H1 : Hp} {l : Addr} {ls : List (Nat × Nat)} (h : LsAt H l ls) (a : SF s H H1) (hs : Src H s) (n : l ≠ s) : LsAt H1 l ls := let ⟨xs, b, c⟩ := h; ⟨xs, a.at b n, c.mono (a.tk hs)⟩
theorem LsAt.len {H : Hp} {l : Addr} {ls : List (Nat × Nat)} {xs : List V} (h : TpAll H xs (ls.map dP)) : xs.length = ls.length := by rw [h.length, List.length_map]
/-- ascending -/
def leP (p q : Nat × Nat) : Prop := p.1 < q.1 ∨ (p.1 = q.1 ∧ p.2 ≤ q.2)
/-- what a value stands for -/
def pairOf (H : Hp) (v : V) : Int × Int := match v with
  | .ref a => match H a with
    | some (.tup [.int i, .int j]) => (i, j)
    | _ => (0, 0)
  | _ => (0, 0)
theorem pairOf_dP {H : Hp} {v : V} {p : Nat × Nat} (h : Tp H v (dP p)) : pairOf H v = ((p.1 : Int), (p.2 : Int)) := by
  obtain ⟨a, rfl, e⟩ := tpP h
  unfold pairOf
  simp only [e]
theorem perm_tp {H : Hp} {ys xs : List V} (h : ys.Perm xs) : ∀ {ps : List (Nat × Nat)}, TpAll H xs (ps.map dP) → ∃ ps' : List (Nat × Nat), ps'.Perm ps ∧ TpAll H ys (ps'.map dP) := by
  induction h with
  | nil => exact fun {ps} h => ⟨ps, List.Perm.refl _, h⟩
  | cons x _ ih =>
    intro ps h
    cases ps with
    | nil => cases h
    | cons p ps =>
      cases h with
      | cons a b =>
        obtain ⟨ps', e, c⟩ := ih b
        exact ⟨p :: ps', e.cons p, .cons a c⟩
  | swap x y l =>
    intro ps h
    cases ps with
    | nil => cases h
    | cons p ps =>
      cases ps with
      | nil =>
        cases h with
        | cons a b => cases b
      | cons q ps =>
        cases h with
        | cons a b =>
          cases b with
          | cons b c => exact ⟨q :: p :: ps, List.Perm.swap _ _ _, .cons b (.cons a c)⟩
  | trans _ _ ih1 ih2 =>
    intro ps h
    obtain ⟨ps1, e1, h1⟩ := ih2 h
    obtain ⟨ps2, e2, h2⟩ := ih1 h1
    exact ⟨ps2, e2.trans e1, h2⟩
theorem sorted_leP {H : Hp} : ∀ {ys : List V} {ps : List (Nat × Nat)}, TpAll H ys (ps.map dP) → ys.Pairwise (fun x y => SrtO.lexB (pairOf H y) (pairOf H x) = false) → ps.Pairwise leP
  | _, [], _, _ => .nil
  | _, p :: ps, h, s => by
    cases h with
    | @cons v vs _ _ a b =>
      rw [List.pairwise_cons] at s ⊢
      refine ⟨fun q hq => ?_, sorted_leP b s.2⟩
      obtain ⟨i, hi, e⟩ := List.mem_iff_getElem.mp hq
      have hd : (ps.map dP)[i]? = some (dP q) := by rw [List.getElem?_map, List.getElem?_eq_getElem hi, e]; rfl
      obtain ⟨y, hy, ty⟩ := b.get hd
      have := s.1 y (List.mem_of_getElem? hy)
      rw [pairOf_dP a, pairOf_dP ty] at this
      have h2 := SrtO.lexB_no.mp this
      unfold leP
      simp only at h2
      omega
theorem srt_pairs {K : PySem.W.Frag} {H : Hp} {l : Addr} {ls : List (Nat × Nat)} {Q : VK} (h : LsAt H l ls) (q : ∀ (p : Addr) (ls' : List (Nat × Nat)), H p = none → ls'.Perm ls → ls'.Pairwise leP → ∀ ys, TpAll H ys (ls'.map dP) → Q (.ref p) (upd H p (.lst ys))) : rSortedPO K [.ref l] H Q := by
  obtain ⟨xs, hl, hx⟩ := h
  refine ⟨l, xs, pairOf H, rfl, SqL.of hl, fun x hxm => ?_, fun ys p hs hp np => ?_⟩
  · obtain ⟨i, hi⟩ := List.mem_iff_getElem?.mp hxm
    obtain ⟨d, hd, td⟩ := hx.getF hi
    obtain ⟨a, rfl, e⟩ := tpP td
    exact ⟨a, rfl, by rw [pairOf_dP td]; exact e⟩
  · obtain ⟨ls', e, t⟩ := perm_tp hp.perm hx
    exact q p ls' np e (sorted_leP t hs) ys t
theorem asc_of {ls : List (Nat × Nat)} (h : ls.Pairwise leP) (n : ls.Nodup) : ls.Pairwise PFM.ltP := by
  refine (List.Pairwise.and h n).imp fun {p q} ⟨a, b⟩ => ?_
  unfold leP at a
  unfold PFM.ltP
  rcases a with a | ⟨a, c⟩
  · exact .inl a
  · refine .inr ⟨a, Nat.lt_of_le_of_ne c fun e => b (Prod.ext a e)⟩
end PF
namespace PF
open PySem PySem.Spec PyProof.Rows L2
open C8 (Cal Mak Met pe_c pe_mk pe_gc pe_mt pe_mt0)
open PFM hiding ltP
section
variable {P : Program} {w : World} {K : PySem.W.Frag} {mg : Str → Option Value} {base : Heap}
/-! ### draws -/
theorem nat_of {i : Int} (h : 0 ≤ i) : ∃ n : Nat, i = n := ⟨i.toNat, (Int.toNat_of_nonneg h).symm⟩
theorem fmod_nat (i : Int) {n : Nat} (h : 0 < n) : ∃ m : Nat, i.fmod (n : Int) = m ∧ m < n := by
  rw [Int.fmod_eq_emod_of_nonneg _ (by omega)]
  obtain ⟨m, e⟩ := nat_of (Int.emod_nonneg i (b := (n : Int)) (by omega))
  have := Int.emod_lt_of_pos i (b := (n : Int)) (by omega)
  exact ⟨m, e, by omega⟩
theorem fdiv_nat (i : Nat) (n : Nat) : ∃ m : Nat, (i : Int).fdiv (n : Int) = m := by
  rw [Int.fdiv_eq_ediv_of_nonneg _ (by omega)]
  exact ⟨i / n, rfl⟩
def spTake : Sp := fun vs H Q _ => ∃ (s : Addr) (n : Nat), vs = [.ref s, vN n] ∧ Src H s ∧ 1 ≤ n ∧ n ≤ 1000000 ∧ ∀ (H' : Hp) (r : Nat), SF s H H' → r < n → Q (vN r) H'
theorem b_law_take (T : Txt K mg) : BodyOk P w K mg base 0 "_law_take" s__law_take N__law_take spTake := by
  intro f cdv A outer s0 H vs Q E hr h
  obtain ⟨s, n, rfl, ⟨a, b, hs⟩, h1, hn, q⟩ := h
  refine ⟨_, (pss_cons (ps_if (pt_cmpR op_gt (pe_ix ix_list (pv 0) pe_int (fun _ _ => rfl)) pe_int (nomark _))
 (pss_cons (ps_set (i := 2) sc__law_take.nd rfl (Or.inl rfl) (pe_op op_modN (pe_callTy call_int1 (by rfl) T.b_int (by decide +kernel) (pa_cons (pe_ix ix_list (pv 0) pe_int (fun _ _ => rfl)) pa_nil)) (pv 1)))
 (pss_cons (ps_asg (pe_op op_fdivN (pe_ix ix_list (pv 0) pe_int (fun _ _ => rfl)) (pv 1)) (pg_sub (pv 0) pe_int set_list))
 (pss_one (ps_ret (pv 2)))))
 pss_nil)
 (pss_cons (ps_asg (pe_op op_modN (pe_callTy call_int1 (by rfl) T.b_int (by decide +kernel) (pa_cons (pe_op op_add (pe_op op_mul (pe_ix ix_list (pv 0) pe_int (fun _ _ => rfl)) pe_int) pe_int) pa_nil)) pe_int) (pg_sub (pv 0) pe_int set_list))
 (pss_one (ps_ret (pe_op op_modN (pe_callTy call_int1 (by rfl) T.b_int (by decide +kernel) (pa_cons (pe_op op_fdivN (pe_op op_modN (pe_callTy call_int1 (by rfl) T.b_int (by decide +kernel) (pa_cons (pe_op op_mul (pe_ix ix_list (pv 0) pe_int (fun _ _ => rfl)) (pe_ix ix_list (pv 0) pe_int (fun _ _ => rfl))) pa_nil)) pe_int) pe_int) pa_nil)) (pv 1)))))), ?_⟩
  refine ⟨_, rfl, s, _, _, vN a, rfl, rfl, SqL.of hs, at_of rfl rfl, _, 0, rfl, rfl, ?_⟩
  have hup : ∀ {H1 : Hp} {a' b' : Nat}, H1 = upd H s (.lst [vN a', vN b']) → SF s H H1 := fun e => by
    rw [e]
    exact ⟨⟨_, _, upd_same⟩, FB.upd (by simp)⟩
  by_cases ha : (0 : Int) < (a : Int)
  · refine ⟨true, bt ha, iteT ?_⟩
    obtain ⟨r, er, hr2⟩ := fmod_nat (a : Int) (n := n) (by omega)
    obtain ⟨a2, ea⟩ := fdiv_nat a n
    refine ⟨_, rfl, s, _, _, vN a, rfl, rfl, SqL.of hs, at_of rfl rfl, .inl ⟨_, rfl, ?_⟩⟩
    refine ⟨_, rfl, _, _, rfl, rfl, by omega, ?_⟩
    refine ⟨_, rfl, s, _, _, vN a, rfl, rfl, SqL.of hs, at_of rfl rfl, _, rfl, _, _, rfl, rfl, ⟨by omega, by omega⟩, ?_⟩
    refine ⟨_, rfl, s, _, _, 0, rfl, rfl, hs, rfl, ?_⟩
    dsimp only
    rw [er, ea]
    exact ⟨_, rfl, q _ r (hup rfl) hr2⟩
  · refine ⟨false, bf ha, iteF ?_⟩
    refine ⟨_, rfl, s, _, _, vN b, rfl, rfl, SqL.of hs, at_of (j := 1) rfl rfl, ?_⟩
    refine ⟨_, 39373, rfl, rfl, .inr ⟨by omega, by omega⟩, _, 7, rfl, rfl, .inl ⟨_, rfl, _, 2147483647, rfl, rfl, by omega, ?_⟩⟩
    obtain ⟨b2, eb, hb2⟩ := fmod_nat ((b : Int) * 39373 + 7) (n := 2147483647) (by omega)
    refine ⟨_, rfl, s, _, _, 1, rfl, rfl, hs, rfl, ?_⟩
    dsimp only
    rw [show ((b : Int) * 39373 + 7).fmod 2147483647 = (b2 : Int) from eb]
    have h2 : (upd H s (.lst [vN a, vN b2])) s = some (.lst [vN a, vN b2]) := upd_same
    refine ⟨_, rfl, s, _, _, vN b2, rfl, rfl, SqL.of h2, at_of (j := 1) rfl rfl, ?_⟩
    refine ⟨_, rfl, s, _, _, vN b2, rfl, rfl, SqL.of h2, at_of (j := 1) rfl rfl, ?_⟩
    obtain ⟨c, ec, hc⟩ := fmod_nat ((b2 : Int) * b2) (n := 2147483629) (by omega)
    obtain ⟨d, ed⟩ := fdiv_nat c 32
    obtain ⟨r, er, hr2⟩ := fmod_nat (d : Int) (n := n) (by omega)
    refine ⟨_, _, rfl, rfl, .inr ⟨by omega, by omega⟩, .inl ⟨_, rfl, _, 2147483629, rfl, rfl, by omega, ?_⟩⟩
    refine ⟨_, 32, rfl, rfl, ⟨by omega, by omega⟩, .inl ⟨_, rfl, _, rfl, _, _, rfl, rfl, by omega, ?_⟩⟩
    dsimp only
    rw [show ((b2 : Int) * (b2 : Int)).fmod 2147483629 = (c : Int) from ec, show ((c : Int).fdiv 32) = (d : Int) from ed, er]
    exact q _ r (hup rfl) hr2
/-! ### a pool -/
def spPool (K : PySem.W.Frag) : Sp := fun vs H Q _ => ∃ (a : Addr) (ns : List Int) (k : Nat), vs = [.ref a, vN k] ∧ SqL K H a (ns.map V.int) ∧ k ≤ 100000 ∧ ∀ H' p, Same H H' → H p = none → Src H' p → Q (.ref p) H'
theorem b_law_pool (T : Txt K mg) : BodyOk P w K mg base 0 "_law_pool" s__law_pool N__law_pool (spPool K) := by
  intro f cdv A outer s0 H vs Q E hr h
  obtain ⟨a, ns, k, rfl, ha, hk, q⟩ := h
  refine ⟨_, (pss_cons (ps_set (i := 2) sc__law_pool.nd rfl (Or.inl rfl) pe_int)
 (C8.pss_cut (ps_if (pt_cmpR op_lt (pv 1) (pe_callB call_len_seq (by rfl) T.b_len PySem.boot_len (pa_cons (pv 0) pa_nil)) (nomark _))
 (pss_one (ps_set (i := 2) sc__law_pool.nd rfl (Or.inl rfl) (pe_ix ix_list (pv 0) (pv 1) (fun _ _ => rfl))))
 (pss_one (ps_if (pt_truth (pv 0) (by intro _; rfl))
 (pss_one (ps_set (i := 2) sc__law_pool.nd rfl (Or.inl rfl) (pe_ix ix_list (pv 0) pe_int (fun _ _ => rfl))))
 pss_nil)))
 (pss_cons (ps_set (i := 3) sc__law_pool.nd rfl (Or.inl rfl) (pe_callB (call_max2 rfl) (by rfl) T.b_max (by decide +kernel) (pa_cons (pe_callTy call_int1 (by rfl) T.b_int (by decide +kernel) (pa_cons (pv 2) pa_nil)) (pa_cons (pe_callTy call_int1 (by rfl) T.b_int (by decide +kernel) (pa_cons (pe_op op_sub (pe_un un_neg pe_int) (pv 2)) pa_nil)) pa_nil))))
 (pss_cons (ps_set (i := 4) sc__law_pool.nd rfl (Or.inl rfl) (pe_op op_modN (pe_callTy call_int1 (by rfl) T.b_int (by decide +kernel) (pa_cons (pe_op op_mul (pe_op op_add (pe_op op_add (pe_op op_add (pe_op op_modN (pe_callTy call_int1 (by rfl) T.b_int (by decide +kernel) (pa_cons (pv 3) pa_nil)) pe_int) (pe_op op_mul (pe_op op_mul pe_int (pv 1)) (pv 1))) (pe_op op_mul pe_int (pv 1))) pe_int) pe_int) pa_nil)) pe_int))
 (pss_one (ps_ret (pe_lst (pa_cons (pe_op op_mul (pv 3) (pe_callTy call_int1 (by rfl) T.b_int (by decide +kernel) (pa_cons (pe_cmpR op_ge (pv 3) (pe_op op_pow pe_int pe_int) (nomark _)) pa_nil))) (pa_cons (pv 4) pa_nil))))))))), ?_⟩
  refine ⟨fun σ H' => H' = H ∧ ∃ c : Int, σ = [some (.ref a), some (vN k), some (.int c), none, none], ?_, ?_⟩
  · by_cases hl : k < ns.length
    · refine ⟨_, rfl, _, rfl, a, _, rfl, .inl (ha), _, _, rfl, rfl, true, bt (by rw [List.length_map]; omega), iteT ?_⟩
      exact ⟨_, rfl, _, rfl, a, _, _, .int ns[k], rfl, rfl, ha, at_of rfl (by rw [List.getElem?_map, List.getElem?_eq_getElem hl]; rfl), rfl, _, rfl⟩
    · refine ⟨_, rfl, _, rfl, a, _, rfl, .inl (ha), _, _, rfl, rfl, false, bf (by rw [List.length_map]; omega), iteF ?_⟩
      cases ns with
      | nil => exact ⟨_, rfl, false, .inl ⟨_, ha, rfl⟩, iteF ⟨rfl, _, rfl⟩⟩
      | cons c ns => exact ⟨_, rfl, true, .inl ⟨_, ha, rfl⟩, iteT ⟨_, rfl, a, _, _, .int c, rfl, rfl, ha, at_of (j := 0) rfl rfl, rfl, _, rfl⟩⟩
  · rintro σ H' ⟨rfl, c, rfl⟩
    refine ⟨_, rfl, .inl ⟨_, rfl, _, rfl, _, rfl, _, _, rfl, rfl, .inl ⟨_, rfl, _, _, rfl, ?_⟩⟩⟩
    obtain ⟨g, eg⟩ := nat_of (i := if (-1 - c) > c then (-1 - c) else c) (by split <;> omega)
    dsimp only
    rw [show (if -1 - c > c then -1 - c else c) = (g : Int) from eg]
    obtain ⟨m, em, hm⟩ := fmod_nat (g : Int) (n := 2147483629) (by omega)
    refine ⟨_, rfl, .inl ⟨_, rfl, _, 2147483629, rfl, rfl, by omega, ?_⟩⟩
    refine ⟨_, rfl, 7919, _, rfl, rfl, .inl ⟨by omega, by omega⟩, _, rfl, _, _, rfl, rfl, .inr ⟨by omega, by omega⟩, _, _, rfl, rfl, ?_⟩
    refine ⟨_, rfl, 31, _, rfl, rfl, .inl ⟨by omega, by omega⟩, _, _, rfl, rfl, ?_⟩
    refine ⟨_, 17, rfl, rfl, _, 48271, rfl, rfl, .inr ⟨by omega, by omega⟩, .inl ⟨_, rfl, _, 2147483647, rfl, rfl, by omega, ?_⟩⟩
    obtain ⟨mx, emx, _⟩ := fmod_nat (((g : Int).fmod 2147483629 + 7919 * k * k + 31 * k + 17) * 48271) (n := 2147483647) (by omega)
    dsimp only
    rw [show (((g : Int).fmod 2147483629 + 7919 * k * k + 31 * k + 17) * 48271).fmod 2147483647 = (mx : Int) from emx]
    refine ⟨_, rfl, _, rfl, 10, 18, rfl, rfl, ⟨by omega, by omega, by omega⟩, _, _, rfl, rfl, .inr ⟨_, rfl, ?_⟩⟩
    refine ⟨_, _, rfl, rfl, .inr ⟨by split <;> omega, by split <;> omega⟩, _, rfl, sz100k (by show 2 ≤ 100000; decide), fun p np => ?_⟩
    refine q _ p (same_new np) np ?_
    cases decide ((g : Int) ≥ 10 ^ (18 : Int).toNat) with
    | true => exact ⟨g, mx, by rw [upd_same]; show some (HO.lst [V.int ((g : Int) * 1), vN mx]) = _; rw [Int.mul_one]⟩
    | false => exact ⟨0, mx, by rw [upd_same]; show some (HO.lst [V.int ((g : Int) * 0), vN mx]) = _; rw [Int.mul_zero]; rfl⟩
/-! ### one of -/
def spOne : Sp := fun vs H Q _ => ∃ (s l : Addr) (xs : List V), vs = [.ref s, .ref l] ∧ Src H s ∧ H l = some (.lst xs) ∧ l ≠ s ∧ 1 ≤ xs.length ∧ xs.length ≤ 1000000 ∧ ∀ (H' : Hp) (x : V), SF s H H' → x ∈ xs → Q x H'
theorem b_law_one (T : Txt K mg) (c__law_take : Cal P w K mg base 1 "_law_take" spTake []) : BodyOk P w K mg base 1 "_law_one" s__law_one N__law_one spOne := by
  intro f cdv A outer s0 H vs Q E hr h
  obtain ⟨s, l, xs, rfl, hs, hl, ne, h1, hn, q⟩ := h
  refine ⟨_, (pss_one (ps_ret (pe_ix ix_list (pv 1) (pe_c c__law_take hr (by decide) (by rfl) (pa_cons (pv 0) (pa_cons (pe_callB call_len_seq (by rfl) T.b_len PySem.boot_len (pa_cons (pv 1) pa_nil)) pa_nil))) (fun _ _ => rfl)))), ?_⟩
  refine ⟨_, rfl, _, rfl, _, rfl, l, _, rfl, .inl (SqL.of hl), s, xs.length, rfl, hs, h1, hn, fun H1 r sf hr2 => ?_⟩
  exact ⟨l, xs, _, xs[r], rfl, rfl, SqL.of (sf.at hl ne), at_of rfl (List.getElem?_eq_getElem hr2), q H1 _ sf (List.getElem_mem hr2)⟩
/-! ### link -/
def spLink : Sp := fun vs H Q _ => ∃ (a b : Nat), vs = [vN a, vN b] ∧ ∀ p, H p = none → Q (.ref p) (upd H p (.tup [vN (min a b), vN (max a b)]))
theorem b_law_link (T : Txt K mg) : BodyOk P w K mg base 0 "_law_link" s__law_link N__law_link spLink := by
  intro f cdv A outer s0 H vs Q E hr h
  obtain ⟨a, b, rfl, q⟩ := h
  refine ⟨_, (pss_one (ps_ret (pe_tup (pa_cons (pe_callB (call_min2 rfl) (by rfl) T.b_min (by decide +kernel) (pa_cons (pv 0) (pa_cons (pv 1) pa_nil))) (pa_cons (pe_callB (call_max2 rfl) (by rfl) T.b_max (by decide +kernel) (pa_cons (pv 0) (pa_cons (pv 1) pa_nil))) pa_nil))))), ?_⟩
  refine ⟨_, rfl, _, rfl, _, _, rfl, _, rfl, _, rfl, _, _, rfl, sz100k (by show 2 ≤ 100000; decide), fun t nt => ?_⟩
  rw [minN, maxN]
  exact q t nt
/-! ### near -/
def spNearL : Sp := fun vs H Q _ => ∃ (l : Addr) (ls : List (Nat × Nat)) (x : Nat), vs = [.ref l, vN x] ∧ LsAt H l ls ∧ ls.length ≤ 1000 ∧ ∀ H' p, Same H H' → H p = none → H' p = some (.lst ((nearL ls x).map vN)) → Q (.ref p) H'
/-- the cells behind x, before x -/
def fwd (ls : List (Nat × Nat)) (x : Nat) : List Nat := (ls.filter fun p => decide (p.1 = x)).map (·.2)
def bwd (ls : List (Nat × Nat)) (x : Nat) : List Nat := (ls.filter fun p => decide (p.2 = x)).map (·.1)
theorem fwd_bwd (ls : List (Nat × Nat)) (x : Nat) : (fwd ls x ++ bwd ls x).Perm (rowM ls x) := by
  induction ls with
  | nil => exact List.Perm.refl _
  | cons p ls ih =>
    have e1 : fwd (p :: ls) x = (if p.1 = x then [p.2] else []) ++ fwd ls x := by
      unfold fwd
      rw [List.filter_cons]
      by_cases h : p.1 = x <;> simp [h]
    have e2 : bwd (p :: ls) x = (if p.2 = x then [p.1] else []) ++ bwd ls x := by
      unfold bwd
      rw [List.filter_cons]
      by_cases h : p.2 = x <;> simp [h]
    have e3 : rowM (p :: ls) x = ((if p.1 = x then [p.2] else []) ++ (if p.2 = x then [p.1] else [])) ++ rowM ls x := by
      unfold rowM
      rw [List.flatMap_cons]
    rw [e1, e2, e3]
    refine List.Perm.trans ?_ (List.Perm.append (List.Perm.refl _) ih)
    rw [List.append_assoc, List.append_assoc]
    refine List.Perm.append (List.Perm.refl _) ?_
    rw [← List.append_assoc, ← List.append_assoc]
    exact List.Perm.append List.perm_append_comm (List.Perm.refl _)
theorem fwd_take {ls : List (Nat × Nat)} {i : Nat} {p : Nat × Nat} (h : ls[i]? = some p) (x : Nat) : fwd (ls.take (i + 1)) x = fwd (ls.take i) x ++ if p.1 = x then [p.2] else [] := by
  rw [List.take_add_one, h]
  unfold fwd
  rw [List.filter_append, List.map_append]
  by_cases e : p.1 = x <;> simp [e]
theorem bwd_take {ls : List (Nat × Nat)} {i : Nat} {p : Nat × Nat} (h : ls[i]? = some p) (x : Nat) : bwd (ls.take (i + 1)) x = bwd (ls.take i) x ++ if p.2 = x then [p.1] else [] := by
  rw [List.take_add_one, h]
  unfold bwd
  rw [List.filter_append, List.map_append]
  by_cases e : p.2 = x <;> simp [e]
theorem fwd_len (ls : List (Nat × Nat)) (x : Nat) : (fwd ls x).length ≤ ls.length := by
  unfold fwd
  rw [List.length_map]
  exact List.length_filter_le _ _
theorem bwd_len (ls : List (Nat × Nat)) (x : Nat) : (bwd ls x).length ≤ ls.length := by
  unfold bwd
  rw [List.length_map]
  exact List.length_filter_le _ _
theorem b_law_near (T : Txt K mg) : BodyOk P w K mg base 0 "_law_near" s__law_near N__law_near spNearL := by
  intro f cdv A outer s0 H vs Q E hr h
  obtain ⟨l, ls, x, rfl, ⟨xs, hl, hall⟩, hn, q⟩ := h
  have hlen : xs.length = ls.length := by rw [hall.length, List.length_map]
  refine ⟨_, (pss_one (ps_ret (pe_callB cr_sortedI (by rfl) T.b_sorted (by decide +kernel) (pa_cons (pe_op op_cat (pe_lc (own := [("_law_a", 2), ("_law_b", 3)]) (g := gTup K 2 (gCons (gName 2) (gCons (gName 3) gNil))) (by rfl) sc__law_near.nd (pi_list (pv 0)) (blkOk_by (N := N__law_near) (sc := defScope s__law_near) (own := [("_law_a", 2), ("_law_b", 3)]) (by decide +kernel)) (fun _ _ _ _ _ => by exact (pg_tup rfl (pgs_cons (pg_name (i := 2) sc__law_near.nd rfl (Or.inl rfl)) (pgs_cons (pg_name (i := 3) sc__law_near.nd rfl (Or.inl rfl)) pgs_nil)))) (fun _ _ _ _ _ => by exact (pts_one (pt_cmpR op_eq (pv 2) (pv 1) (nomark _)))) (fun _ _ _ _ _ => by exact (pv 3))) (pe_lc (own := [("_law_a", 2), ("_law_b", 3)]) (g := gTup K 2 (gCons (gName 2) (gCons (gName 3) gNil))) (by rfl) sc__law_near.nd (pi_list (pv 0)) (blkOk_by (N := N__law_near) (sc := defScope s__law_near) (own := [("_law_a", 2), ("_law_b", 3)]) (by decide +kernel)) (fun _ _ _ _ _ => by exact (pg_tup rfl (pgs_cons (pg_name (i := 2) sc__law_near.nd rfl (Or.inl rfl)) (pgs_cons (pg_name (i := 3) sc__law_near.nd rfl (Or.inl rfl)) pgs_nil)))) (fun _ _ _ _ _ => by exact (pts_one (pt_cmpR op_eq (pv 3) (pv 1) (nomark _)))) (fun _ _ _ _ _ => by exact (pv 2)))) pa_nil)))), ?_⟩
  refine ⟨_, rfl, l, rfl, ⟨_, SqL.of hl⟩, fun D nD => lc_list (K := K) (a := l) (xs := xs) (fun i H' => Same H H' ∧ H' D = some (.lst ((fwd (ls.take i) x).map vN))) ⟨same_new nD, upd_same⟩ (fun i H' _ p => SqL.of (p.1 _ _ hl)) ?_ ?_⟩
  · rintro i v H1 hv ⟨sm, hD⟩
    obtain ⟨⟨p, r⟩, hp, tp⟩ := hall.getF hv
    obtain ⟨pa, rfl, hpa⟩ := tpP (tp.mono (same_ts sm))
    refine ⟨pa, _, rfl, SqT.of hpa, rfl, _, _, rfl, _, _, rfl, rfl, rfl, ?_⟩
    refine ⟨_, rfl, _, rfl, rfl, _, rfl, ?_⟩
    by_cases e : p = x
    · refine itT (by rw [dec_vN]; exact decide_eq_true e) ⟨_, rfl, _, hD, sz100kl (by rw [List.length_map]; have := fwd_len (ls.take i) x; rw [List.length_take] at this; omega), same_mut sm nD, ?_⟩
      rw [upd_same, fwd_take hp, if_pos e, List.map_append]
      rfl
    · refine itF (by rw [dec_vN]; exact decide_eq_false e) ⟨sm, ?_⟩
      rw [fwd_take hp, if_neg e, List.append_nil]
      exact hD
  · rintro H1 ⟨sm, hD⟩
    rw [hlen, List.take_length] at hD
    have hl1 := sm _ _ hl
    refine ⟨_, rfl, l, rfl, ⟨_, SqL.of hl1⟩, fun D2 nD2 => lc_list (K := K) (a := l) (xs := xs) (fun i H' => Same H1 H' ∧ H' D2 = some (.lst ((bwd (ls.take i) x).map vN))) ⟨same_new nD2, upd_same⟩ (fun i H' _ p => SqL.of (p.1 _ _ hl1)) ?_ ?_⟩
    · rintro i v H2 hv ⟨sm2, hD2⟩
      obtain ⟨⟨p, r⟩, hp, tp⟩ := hall.getF hv
      obtain ⟨pa, rfl, hpa⟩ := tpP (tp.mono (same_ts (sm.trans sm2)))
      refine ⟨pa, _, rfl, SqT.of hpa, rfl, _, _, rfl, _, _, rfl, rfl, rfl, ?_⟩
      refine ⟨_, rfl, _, rfl, rfl, _, rfl, ?_⟩
      by_cases e : r = x
      · refine itT (by rw [dec_vN]; exact decide_eq_true e) ⟨_, rfl, _, hD2, sz100kl (by rw [List.length_map]; have := bwd_len (ls.take i) x; rw [List.length_take] at this; omega), same_mut sm2 nD2, ?_⟩
        rw [upd_same, bwd_take hp, if_pos e, List.map_append]
        rfl
      · refine itF (by rw [dec_vN]; exact decide_eq_false e) ⟨sm2, ?_⟩
        rw [bwd_take hp, if_neg e, List.append_nil]
        exact hD2
    · rintro H2 ⟨sm2, hD2⟩
      rw [hlen, List.take_length] at hD2
      have hf := fwd_len ls x
      have hb := bwd_len ls x
      refine ⟨D, D2, _, _, rfl, rfl, sm2 _ _ hD, hD2, sz100k (by rw [List.length_map, List.length_map]; omega), fun c nc => ?_⟩
      have sA := (sm.trans sm2).trans (same_new (o := .lst ((fwd ls x).map vN ++ (bwd ls x).map vN)) nc)
      refine ⟨c, (fwd ls x ++ bwd ls x).map fun (n : Nat) => (n : Int), rfl, SqL.of ?_, fun ns p perm rise np => ?_⟩
      · rw [upd_same, List.map_map, List.map_append]
        rfl
      · refine q _ p (sA.trans (same_new np)) (sA.free np) ?_
        rw [upd_same, near_of (perm.trans ((fwd_bwd ls x).map _)) rise, List.map_map]
        rfl
end
end PF
namespace PFM
/-! webs as drawn: links ascending, cells below n; each cell with two near it -/
structure WebL (n : Nat) (ls : List (Nat × Nat)) : Prop where
  lk : ∀ l ∈ ls, l.1 < l.2 ∧ l.2 < n
  asc : ls.Pairwise ltP
/-- the same but for the order -/
structure WebN (n : Nat) (ls : List (Nat × Nat)) : Prop where
  lk : ∀ l ∈ ls, l.1 < l.2 ∧ l.2 < n
  nd : ls.Nodup
theorem WebL.toN {n : Nat} {ls : List (Nat × Nat)} (h : WebL n ls) : WebN n ls := ⟨h.lk, asc_nodup h.asc⟩
theorem WebN.perm {n : Nat} {ls ls' : List (Nat × Nat)} (h : WebN n ls) (p : ls'.Perm ls) : WebN n ls' := ⟨fun l hl => h.lk l (p.mem_iff.mp hl), p.nodup_iff.mpr h.nd⟩
theorem mem_rowM {ls : List (Nat × Nat)} {x y : Nat} : y ∈ rowM ls x ↔ (x, y) ∈ ls ∨ (y, x) ∈ ls := by
  unfold rowM
  rw [List.mem_flatMap]
  constructor
  · rintro ⟨⟨a, b⟩, hl, h⟩
    rcases List.mem_append.mp h with h | h
    · simp only at h
      split at h
      · rename_i e
        rw [List.mem_singleton.mp h, ← e]
        exact .inl hl
      · cases h
    · simp only at h
      split at h
      · rename_i e
        rw [List.mem_singleton.mp h, ← e]
        exact .inr hl
      · cases h
  · rintro (h | h)
    · exact ⟨_, h, by simp⟩
    · exact ⟨_, h, by simp⟩
theorem mem_nearL {ls : List (Nat × Nat)} {x y : Nat} : y ∈ nearL ls x ↔ (x, y) ∈ ls ∨ (y, x) ∈ ls := (nearL_perm ls x).mem_iff.trans mem_rowM
theorem rowM_app (a b : List (Nat × Nat)) (x : Nat) : rowM (a ++ b) x = rowM a x ++ rowM b x := by unfold rowM; rw [List.flatMap_append]
theorem rowM_perm {a b : List (Nat × Nat)} (p : a.Perm b) (x : Nat) : (rowM a x).Perm (rowM b x) := by
  unfold rowM
  exact p.flatMap_right _
theorem near_len {ls : List (Nat × Nat)} {x : Nat} : (nearL ls x).length = (rowM ls x).length := (nearL_perm ls x).length_eq
theorem rowM_nodup {n : Nat} {ls : List (Nat × Nat)} (h : WebN n ls) (x : Nat) : (rowM ls x).Nodup := by
  obtain ⟨lk, nd⟩ := h
  induction ls with
  | nil => simp [rowM]
  | cons l ls ih =>
    rw [show l :: ls = [l] ++ ls from rfl, rowM_app]
    rw [List.nodup_cons] at nd
    have hl := lk l (by simp)
    refine List.nodup_append.mpr ⟨?_, ih (fun q hq => lk q (by simp [hq])) nd.2, fun a ha b hb e => ?_⟩
    · show (([l].flatMap _) : List Nat).Nodup
      by_cases h1 : l.1 = x
      · have h2 : ¬ l.2 = x := by omega
        simp [h1, h2]
      · by_cases h2 : l.2 = x <;> simp [h1, h2]
    · subst e
      have h1 := mem_rowM.mp ha
      have h2 := mem_rowM.mp hb
      simp only [List.mem_singleton] at h1
      rcases h1 with h1 | h1 <;> rcases h2 with h2 | h2
      · rw [h1] at h2
        exact nd.1 h2
      · have h3 := lk (a, x) (by simp [h2])
        rw [← h1] at hl
        simp only at hl h3
        omega
      · have h3 := lk (x, a) (by simp [h2])
        rw [← h1] at hl
        simp only at hl h3
        omega
      · rw [h1] at h2
        exact nd.1 h2
theorem near_nodup {n : Nat} {ls : List (Nat × Nat)} (h : WebN n ls) (x : Nat) : (nearL ls x).Nodup := (nearL_perm ls x).nodup_iff.mpr (rowM_nodup h x)
theorem near_lt {n : Nat} {ls : List (Nat × Nat)} (h : WebN n ls) {x y : Nat} (m : y ∈ nearL ls x) : y < n ∧ x < n ∧ x ≠ y := by
  rcases mem_nearL.mp m with m | m
  · have := h.lk _ m
    simp only at this
    omega
  · have := h.lk _ m
    simp only at this
    omega
/-- every cell has two near it -/
structure StW (n : Nat) (ls : List (Nat × Nat)) : Prop extends WebN n ls where
  n4 : 4 ≤ n
  deg : ∀ x, x < n → 2 ≤ (nearL ls x).length
theorem StW.perm {n : Nat} {ls ls' : List (Nat × Nat)} (h : StW n ls) (p : ls'.Perm ls) : StW n ls' :=
  ⟨h.toWebN.perm p, h.n4, fun x hx => by rw [near_len, (rowM_perm p x).length_eq, ← near_len]; exact h.deg x hx⟩
theorem StW.bridge {n : Nat} {ls : List (Nat × Nat)} (h : StW n ls) {a b : Nat} (ha : a < n) (hb : b < n) (ne : a ≠ b) (no : (min a b, max a b) ∉ ls) : StW n (ls ++ [(min a b, max a b)]) := by
  refine ⟨⟨fun l hl => ?_, ?_⟩, h.n4, fun x hx => ?_⟩
  · rcases List.mem_append.mp hl with hl | hl
    · exact h.lk l hl
    · rw [List.mem_singleton.mp hl]
      simp only
      omega
  · rw [List.nodup_append]
    exact ⟨h.nd, by simp, fun p hp q hq e => no (by rw [← List.mem_singleton.mp hq, ← e]; exact hp)⟩
  · rw [near_len, rowM_app, List.length_append]
    have := h.deg x hx
    rw [near_len] at this
    omega
theorem StW.corner {n : Nat} {ls : List (Nat × Nat)} (h : StW n ls) {x z : Nat} (hx : x < n) (hz : z < n) (ne : x ≠ z) : StW (n + 1) (ls ++ [(x, n), (z, n)]) := by
  refine ⟨⟨fun l hl => ?_, ?_⟩, by have := h.n4; omega, fun y hy => ?_⟩
  · rcases List.mem_append.mp hl with hl | hl
    · have := h.lk l hl
      omega
    · rcases List.mem_cons.mp hl with hl | hl
      · rw [hl]
        simp only
        omega
      · rw [List.mem_singleton.mp hl]
        simp only
        omega
  · rw [List.nodup_append]
    refine ⟨h.nd, by simp [ne], fun p hp q hq e => ?_⟩
    have := h.lk p hp
    rw [e] at this
    rcases List.mem_cons.mp hq with hq | hq
    · rw [hq] at this
      simp only at this
      omega
    · rw [List.mem_singleton.mp hq] at this
      simp only at this
      omega
  · rw [near_len, rowM_app, List.length_append]
    by_cases e : y = n
    · subst e
      have h1 : rowM [(x, y), (z, y)] y = [x, z] := by
        have e1 : ¬ x = y := by omega
        have e2 : ¬ z = y := by omega
        simp [rowM, e1, e2]
      rw [h1]
      simp
    · have := h.deg y (by omega)
      rw [near_len] at this
      omega
/-- the links by other names -/
def rename (fd : List Nat) (ls : List (Nat × Nat)) : List (Nat × Nat) := ls.map fun p => (min (at0 fd p.1) (at0 fd p.2), max (at0 fd p.1) (at0 fd p.2))
theorem names_inj {n : Nat} {fd : List Nat} (h : fd.Perm (List.range n)) {x y : Nat} (hx : x < n) (hy : y < n) (e : at0 fd x = at0 fd y) : x = y := by
  have hl : fd.length = n := by rw [h.length_eq, List.length_range]
  have nd : fd.Nodup := h.nodup_iff.mpr List.nodup_range
  unfold at0 at e
  rw [List.getD_eq_getElem?_getD, List.getD_eq_getElem?_getD, List.getElem?_eq_getElem (by omega), List.getElem?_eq_getElem (by omega)] at e
  exact (List.getElem_inj nd).mp e
theorem names_lt {n : Nat} {fd : List Nat} (h : fd.Perm (List.range n)) {x : Nat} (hx : x < n) : at0 fd x < n := by
  have hl : fd.length = n := by rw [h.length_eq, List.length_range]
  unfold at0
  rw [List.getD_eq_getElem?_getD, List.getElem?_eq_getElem (by omega)]
  exact List.mem_range.mp (h.mem_iff.mp (List.getElem_mem (by omega)))
theorem WebN.rename {n : Nat} {ls : List (Nat × Nat)} (h : WebN n ls) {fd : List Nat} (p : fd.Perm (List.range n)) : WebN n (rename fd ls) := by
  refine ⟨fun l hl => ?_, ?_⟩
  · obtain ⟨q, hq, rfl⟩ := List.mem_map.mp hl
    have h1 := h.lk q hq
    have h2 := names_lt p (x := q.1) (by omega)
    have h3 := names_lt p (x := q.2) (by omega)
    have h4 : at0 fd q.1 ≠ at0 fd q.2 := fun e => by
      have := names_inj p (by omega) (by omega) e
      omega
    simp only
    omega
  · unfold PFM.rename List.Nodup
    rw [List.pairwise_map]
    refine List.Pairwise.imp_of_mem (fun {a b} ha hb hab e => hab ?_) h.nd
    have h1 := h.lk a ha
    have h2 := h.lk b hb
    injection e with e1 e2
    have e3 : (at0 fd a.1 = at0 fd b.1 ∧ at0 fd a.2 = at0 fd b.2) ∨ (at0 fd a.1 = at0 fd b.2 ∧ at0 fd a.2 = at0 fd b.1) := by omega
    rcases e3 with ⟨e3, e4⟩ | ⟨e3, e4⟩
    · exact Prod.ext (names_inj p (by omega) (by omega) e3) (names_inj p (by omega) (by omega) e4)
    · have := names_inj p (by omega) (by omega) e3
      have := names_inj p (by omega) (by omega) e4
      omega
end PFM
namespace PFM
/-! a table as drawn -/
structure TabN (n : Nat) (ps : List (Nat × Nat)) : Prop where
  lk : ∀ l ∈ ps, l.1 < l.2 ∧ l.2 < n
  nd : ps.Nodup
/-- the pairs among the first r names -/
structure Grow (n : Nat) (fd : List Nat) (r : Nat) (ps : List (Nat × Nat)) : Prop extends TabN n ps where
  among : ∀ l ∈ ps, ∃ i j, i < r ∧ j < r ∧ l.1 = at0 fd i ∧ l.2 = at0 fd j
  con : ∀ S : Nat → Bool, (∀ p ∈ ps, S p.1 = S p.2) → ∀ i, i < r → S (at0 fd i) = S (at0 fd 0)
theorem Grow.first {n : Nat} (fd : List Nat) : Grow n fd 1 [] := ⟨⟨by simp, by simp⟩, by simp, fun S _ i hi => by
  have : i = 0 := by omega
  rw [this]⟩
theorem Grow.snoc {n : Nat} {fd : List Nat} {r : Nat} {ps : List (Nat × Nat)} (h : Grow n fd r ps) (pm : fd.Perm (List.range n)) (hr : r < n) {t : Nat} (ht : t < r) :
    Grow n fd (r + 1) (ps ++ [(min (at0 fd r) (at0 fd t), max (at0 fd r) (at0 fd t))]) := by
  have h1 := names_lt pm hr
  have h2 := names_lt pm (x := t) (by omega)
  have h3 : at0 fd r ≠ at0 fd t := fun e => by
    have := names_inj pm hr (by omega) e
    omega
  refine ⟨⟨fun l hl => ?_, ?_⟩, fun l hl => ?_, fun S hS i hi => ?_⟩
  · rcases List.mem_append.mp hl with hl | hl
    · exact h.lk l hl
    · rw [List.mem_singleton.mp hl]
      simp only
      omega
  · rw [List.nodup_append]
    refine ⟨h.nd, by simp, fun p hp q hq e => ?_⟩
    rw [List.mem_singleton.mp hq] at e
    obtain ⟨i, j, hi, hj, e1, e2⟩ := h.among p hp
    rw [e] at e1 e2
    simp only at e1 e2
    have h4 : at0 fd r = at0 fd i ∨ at0 fd r = at0 fd j := by omega
    rcases h4 with h4 | h4
    · have := names_inj pm hr (by omega) h4
      omega
    · have := names_inj pm hr (by omega) h4
      omega
  · rcases List.mem_append.mp hl with hl | hl
    · obtain ⟨i, j, hi, hj, e⟩ := h.among l hl
      exact ⟨i, j, by omega, by omega, e⟩
    · rw [List.mem_singleton.mp hl]
      simp only
      by_cases c : at0 fd r ≤ at0 fd t
      · exact ⟨r, t, by omega, by omega, by omega, by omega⟩
      · exact ⟨t, r, by omega, by omega, by omega, by omega⟩
  · have hc := h.con S fun p hp => hS p (by simp [hp])
    by_cases c : i = r
    · subst c
      have := hS (min (at0 fd i) (at0 fd t), max (at0 fd i) (at0 fd t)) (by simp)
      simp only at this
      have ht2 := hc t ht
      by_cases c2 : at0 fd i ≤ at0 fd t
      · rw [Nat.min_eq_left c2, Nat.max_eq_right c2] at this
        rw [this, ht2]
      · rw [Nat.min_eq_right (by omega), Nat.max_eq_left (by omega)] at this
        rw [← this, ht2]
    · exact hc i (by omega)
theorem Grow.joined {n : Nat} {fd : List Nat} {ps : List (Nat × Nat)} (h : Grow n fd n ps) (pm : fd.Perm (List.range n)) (hn : 1 ≤ n) : Joined n ps := by
  intro S h0 hS c hc
  have fl : fd.length = n := by rw [pm.length_eq, List.length_range]
  have ex : ∀ c, c < n → ∃ i, i < n ∧ at0 fd i = c := fun c hc => by
    obtain ⟨i, hi, e⟩ := List.mem_iff_getElem.mp (pm.mem_iff.mpr (List.mem_range.mpr hc))
    refine ⟨i, by omega, ?_⟩
    unfold at0
    rw [List.getD_eq_getElem?_getD, List.getElem?_eq_getElem hi, e]
    rfl
  obtain ⟨i, hi, ei⟩ := ex c hc
  obtain ⟨j, hj, ej⟩ := ex 0 (by omega)
  have h1 := h.con S hS i hi
  have h2 := h.con S hS j hj
  rw [ei] at h1
  rw [ej] at h2
  rw [h1, ← h2]
  exact h0
theorem Joined.mono {n : Nat} {ps qs : List (Nat × Nat)} (h : Joined n ps) (s : ∀ p ∈ ps, p ∈ qs) : Joined n qs := fun S h0 hS => h S h0 fun p hp => hS p (s p hp)
theorem TabN.snoc {n : Nat} {ps : List (Nat × Nat)} (h : TabN n ps) {p r : Nat} (hpr : p < r) (hr : r < n) (no : (p, r) ∉ ps) : TabN n (ps ++ [(p, r)]) := by
  refine ⟨fun l hl => ?_, ?_⟩
  · rcases List.mem_append.mp hl with hl | hl
    · exact h.lk l hl
    · rw [List.mem_singleton.mp hl]
      exact ⟨hpr, hr⟩
  · rw [List.nodup_append]
    exact ⟨h.nd, by simp, fun a ha b hb e => no (by rw [← List.mem_singleton.mp hb, ← e]; exact ha)⟩
end PFM
namespace PF
open PySem PySem.Spec PyProof.Rows L2
open C8 (Cal Mak Met pe_c pe_mk pe_gc pe_mt pe_mt0)
open PFM hiding ltP
theorem seq_nat {n r : Nat} (h : r < n) : seqIndex? (r : Int) n = some r := (ixN_seq (ixN_nat h)).1
section
variable {P : Program} {w : World} {K : PySem.W.Frag} {mg : Str → Option Value} {base : Heap}
theorem map_erase {α β : Type} (f : α → β) (l : List α) (r : Nat) : (l.map f).eraseIdx r = (l.eraseIdx r).map f := by
  rw [List.eraseIdx_eq_take_drop_succ, List.eraseIdx_eq_take_drop_succ, List.map_append, List.map_take, List.map_drop]
/-! ### shuffled -/
def spShuf : Sp := fun vs H Q _ => ∃ (s : Addr) (n : Nat), vs = [.ref s, vN n] ∧ Src H s ∧ n ≤ 1000 ∧ ∀ (H' : Hp) (p : Addr) (fd : List Nat), SF s H H' → H p = none → p ≠ s → H' p = some (.lst (fd.map vN)) → fd.Perm (List.range n) → Q (.ref p) H'
theorem perm_pop {fd lf : List Nat} {r : Nat} (h : r < lf.length) : (fd ++ [lf[r]] ++ lf.eraseIdx r).Perm (fd ++ lf) := by
  rw [List.append_assoc]
  refine List.Perm.append (List.Perm.refl _) ?_
  rw [List.eraseIdx_eq_take_drop_succ]
  have e : lf = lf.take r ++ lf[r] :: lf.drop (r + 1) := by rw [List.getElem_cons_drop, List.take_append_drop]
  conv => rhs; rw [e]
  exact (List.perm_middle (a := lf[r]) (l₁ := lf.take r) (l₂ := lf.drop (r + 1))).symm
theorem b_law_shuffled (T : Txt K mg) (c__law_take : Cal P w K mg base 1 "_law_take" spTake []) : BodyOk P w K mg base 1 "_law_shuffled" s__law_shuffled N__law_shuffled spShuf := by
  intro f cdv A outer s0 H vs Q E hr h
  obtain ⟨s, n, rfl, hs, hn, q⟩ := h
  refine ⟨_, (pss_cons (ps_par (i := 2) (j := 3) (by rfl) sc__law_shuffled.nd rfl rfl (by decide) rfl rfl (pa_cons (pe_lc (own := [("_law_x", 5)]) (by rfl) sc__law_shuffled.nd (pi_range1 (by rfl) T.b_range (pa_cons (pv 1) pa_nil)) (blkOk_by (N := N__law_shuffled) (sc := defScope s__law_shuffled) (own := [("_law_x", 5)]) (by decide +kernel)) (fun _ _ _ _ _ => by exact (pg_name (i := 5) sc__law_shuffled.nd rfl (Or.inl rfl))) (fun _ _ _ _ _ => by exact pts_nil) (fun _ _ _ _ _ => by exact (pv 5))) (pa_cons (pe_lst pa_nil) pa_nil)) (by rfl))
 (pss_cons (ps_for PassesOwn.never rfl (pi_range1 (by rfl) T.b_range (pa_cons (pv 1) pa_nil)) (pg_name (i := 4) sc__law_shuffled.nd rfl (Or.inl rfl))
 (pss_one (ps_expr (pe_bm PySem.F.plainAttrs_list PySem.F.slot_list_append PySem.F.type_list_append mt_append (pv 3) (pa_cons (pe_bm PySem.F.plainAttrs_list PySem.F.slot_list_pop PySem.F.type_list_pop mt_popAt (pv 2) (pa_cons (pe_c c__law_take hr (by decide) (by rfl) (pa_cons (pv 0) (pa_cons (pe_callB call_len_seq (by rfl) T.b_len PySem.boot_len (pa_cons (pv 2) pa_nil)) pa_nil))) pa_nil)) pa_nil)))))
 (pss_one (ps_ret (pv 3))))), ?_⟩
  refine ⟨_, rfl, _, rfl, (small62 (by omega)).1, (small62 (by omega)).2, fun D nD => ?_⟩
  refine lc_range0 (n := n) (fun i H' => Same H H' ∧ H' D = some (.lst (((List.range n).take i).map vN))) ⟨same_new nD, by rw [upd_same]; rfl⟩ ?_ ?_
  · rintro i H1 hi ⟨sm, hD⟩
    refine ⟨rfl, yes (itT rfl ⟨_, rfl, _, hD, sz100kl (by rw [List.length_map, List.length_take, List.length_range]; omega), same_mut sm nD, ?_⟩)⟩
    rw [upd_same, take_map_succ (x := i) (by rw [List.getElem?_range hi])]
  · rintro H1 ⟨sm, hD⟩
    rw [List.take_of_length_le (by simp)] at hD
    refine ⟨sz100k (by show 0 ≤ 100000; decide), fun B nB => ?_⟩
    have sm2 := sm.trans (same_new (o := .lst []) nB)
    have nBD : B ≠ D := (ne_of_none hD nB).symm
    have nDs : D ≠ s := hs.ne nD
    have nBs : B ≠ s := (hs.same sm).ne nB
    have nB0 : H B = none := sm.free nB
    refine ⟨_, _, rfl, ?_⟩
    refine ⟨_, rfl, _, rfl, (small62 (by omega)).1, (small62 (by omega)).2, for_range0 (n := n) (fun i σ H' => ∃ fd lf x4, SF s H H' ∧ H' D = some (.lst (lf.map vN)) ∧ H' B = some (.lst (fd.map vN)) ∧ (fd ++ lf).Perm (List.range n) ∧ fd.length = i ∧ σ = [some (.ref s), some (vN n), some (.ref D), some (.ref B), x4, none])
      ⟨[], List.range n, none, SF.same hs sm2, same_new nB _ _ hD, upd_same, List.Perm.refl _, rfl, rfl⟩ ?_ ?_⟩
    · rintro i σ H2 hi ⟨fd, lf, x4, sf, hD2, hB2, pm, hfl, rfl⟩
      have hlen := pm.length_eq
      rw [List.length_append, List.length_range] at hlen
      refine ⟨_, rfl, .inl ⟨rfl, _, SqL.of hB2⟩, _, rfl, .inl ⟨rfl, _, SqL.of hD2⟩, _, rfl, _, rfl, D, _, rfl, .inl (SqL.of hD2), s, (lf.map vN).length, rfl, sf.src, by rw [List.length_map]; omega, by rw [List.length_map]; omega, fun H3 r sf3 hr3 => ?_⟩
      have hD3 := sf3.at hD2 nDs
      have hB3 := sf3.at hB2 nBs
      have hr4 : r < lf.length := by rw [List.length_map] at hr3; exact hr3
      refine ⟨D, _, _, r, vN lf[r], rfl, rfl, hD3, by omega, by omega, seq_nat hr3, by rw [List.getElem?_map, List.getElem?_eq_getElem hr4]; rfl, B, _, _, rfl, rfl, by rw [upd_ne nBD]; exact hB3, sz100kl (by rw [List.length_map]; omega), ?_⟩
      refine ⟨fd ++ [lf[r]], lf.eraseIdx r, _, ((sf.trans sf3).put nD nDs).put nB0 nBs, ?_, ?_, (perm_pop hr4).trans pm, by rw [List.length_append, hfl]; rfl, rfl⟩
      · rw [upd_ne nBD.symm, upd_same, map_erase]
      · rw [upd_same, List.map_append]
        rfl
    · rintro σ H2 ⟨fd, lf, x4, sf, hD2, hB2, pm, hfl, rfl⟩
      have hlen := pm.length_eq
      rw [List.length_append, List.length_range] at hlen
      have : lf = [] := List.length_eq_zero_iff.mp (by omega)
      subst this
      rw [List.append_nil] at pm
      exact ⟨_, rfl, q H2 B fd sf nB0 nBs hB2 pm⟩
/-! ### corner, bridge -/
def spGrow (m : Nat) : Sp := fun vs H Q _ => ∃ (s l : Addr) (n : Nat) (ls : List (Nat × Nat)), vs = [.ref s, vN n, .ref l] ∧ Src H s ∧ l ≠ s ∧ LsAt H l ls ∧ StW n ls ∧ n ≤ 12 ∧ ∀ (H' : Hp) (p l' : Addr) (ls' : List (Nat × Nat)), SF s H H' → H' p = some (.tup [vN (n + m), .ref l']) → l' ≠ s → LsAt H' l' ls' → StW (n + m) ls' → Q (.ref p) H'
theorem stw_len {n : Nat} {ls : List (Nat × Nat)} (h : StW n ls) : ls.length ≤ n * n := by
  have hs : (ls.mergeSort fun a b => decide (a.1 < b.1) || (decide (a.1 = b.1) && decide (a.2 ≤ b.2))).Perm ls := List.mergeSort_perm _ _
  have hp := List.pairwise_mergeSort (le := fun a b : Nat × Nat => decide (a.1 < b.1) || (decide (a.1 = b.1) && decide (a.2 ≤ b.2))) (fun a b c h1 h2 => by simp at *; omega) (fun a b => by simp; omega) ls
  have ha := asc_of (ls := ls.mergeSort fun a b => decide (a.1 < b.1) || (decide (a.1 = b.1) && decide (a.2 ≤ b.2))) (hp.imp fun h => by simp at h; unfold leP; omega) (hs.nodup_iff.mpr h.nd)
  rw [← hs.length_eq]
  exact asc_len _ n ha fun p hp => (let ⟨a, b⟩ := h.lk p (hs.mem_iff.mp hp); ⟨by omega, b⟩)
theorem stw144 {n : Nat} {ls : List (Nat × Nat)} (h : StW n ls) (h12 : n ≤ 12) : ls.length ≤ 144 := Nat.le_trans (stw_len h) (Nat.mul_le_mul h12 h12)
theorem near_get {ls : List (Nat × Nat)} {x : Nat} {v : V} (h : v ∈ (nearL ls x).map vN) : ∃ y, v = vN y ∧ y ∈ nearL ls x := let ⟨y, a, b⟩ := List.mem_map.mp h; ⟨y, b.symm, a⟩
theorem b_law_bridge (T : Txt K mg) (c__law_take : Cal P w K mg base 1 "_law_take" spTake []) (c__law_one : Cal P w K mg base 2 "_law_one" spOne []) (c__law_near : Cal P w K mg base 1 "_law_near" spNearL []) (c__law_link : Cal P w K mg base 1 "_law_link" spLink []) :
    BodyOk P w K mg base 2 "_law_bridge" s__law_bridge N__law_bridge (spGrow 0) := by
  intro f cdv A outer s0 H vs Q E hr h
  obtain ⟨s, l, n, ls, rfl, hs, nls, hL, st, n12, q⟩ := h
  have n4 := st.n4
  have l144 := stw144 st n12
  refine ⟨_, (pss_cons (ps_set (i := 3) sc__law_bridge.nd rfl (Or.inl rfl) (pe_c c__law_take hr (by decide) (by rfl) (pa_cons (pv 0) (pa_cons (pv 1) pa_nil))))
 (pss_cons (ps_set (i := 4) sc__law_bridge.nd rfl (Or.inl rfl) (pe_c c__law_one hr (by decide) (by rfl) (pa_cons (pv 0) (pa_cons (pe_c c__law_near hr (by decide) (by rfl) (pa_cons (pv 2) (pa_cons (pv 3) pa_nil))) pa_nil))))
 (pss_cons (ps_set (i := 5) sc__law_bridge.nd rfl (Or.inl rfl) (pe_c c__law_one hr (by decide) (by rfl) (pa_cons (pv 0) (pa_cons (pe_c c__law_near hr (by decide) (by rfl) (pa_cons (pv 2) (pa_cons (pv 4) pa_nil))) pa_nil))))
 (pss_cons (ps_set (i := 6) sc__law_bridge.nd rfl (Or.inl rfl) (pe_c c__law_one hr (by decide) (by rfl) (pa_cons (pv 0) (pa_cons (pe_c c__law_near hr (by decide) (by rfl) (pa_cons (pv 2) (pa_cons (pv 5) pa_nil))) pa_nil))))
 (pss_cons (ps_if (PW.pt (pw_or (pt_cmpR op_eq (pv 3) (pv 5) (nomark _)) (pw_or (pt_cmpR op_eq (pv 3) (pv 6) (nomark _)) (pw_or (pt_cmpR op_eq (pv 4) (pv 6) (nomark _)) (pw_or1 (pt_cmpR (op_inD (hu65 hr)) (pe_c c__law_link hr (by decide) (by rfl) (pa_cons (pv 3) (pa_cons (pv 6) pa_nil))) (pv 2) (by with_unfolding_all rfl)))))))
 (pss_one (ps_ret (pe_tup (pa_cons (pv 1) (pa_cons (pv 2) pa_nil)))))
 pss_nil)
 (pss_one (ps_ret (pe_tup (pa_cons (pv 1) (pa_cons (pe_callB cr_sortedPO (by rfl) T.b_sorted (by decide +kernel) (pa_cons (pe_op op_cat (pv 2) (pe_lst (pa_cons (pe_c c__law_link hr (by decide) (by rfl) (pa_cons (pv 3) (pa_cons (pv 6) pa_nil))) pa_nil))) pa_nil)) pa_nil)))))))))), ?_⟩
  refine ⟨_, rfl, _, rfl, s, n, rfl, hs, by omega, by omega, fun H1 a sf1 ha => ?_⟩
  -- x
  refine ⟨_, rfl, _, rfl, _, rfl, l, ls, a, rfl, hL.sf sf1 hs nls, by omega, fun H2 p2 s2 np2 hp2 => ?_⟩
  have g2 := SF.same sf1.src s2
  have stn := st.toWebN
  have nl : ∀ x, (nearL ls x).length ≤ 1000 := fun x => by
    rw [near_len]
    have := rowM_len ls x
    omega
  refine ⟨s, p2, _, rfl, g2.src, hp2, sf1.src.ne np2, by rw [List.length_map]; have := st.deg a ha; omega, by rw [List.length_map]; have := nl a; omega, fun H3 v sf3 hv => ?_⟩
  obtain ⟨x, rfl, hx⟩ := near_get hv
  obtain ⟨x1, x2, x3⟩ := near_lt stn hx
  have gA := (sf1.trans g2).trans sf3
  -- y
  refine ⟨_, rfl, _, rfl, _, rfl, l, ls, x, rfl, hL.sf gA hs nls, by omega, fun H4 p4 s4 np4 hp4 => ?_⟩
  have g4 := SF.same gA.src s4
  refine ⟨s, p4, _, rfl, g4.src, hp4, gA.src.ne np4, by rw [List.length_map]; have := st.deg x x1; omega, by rw [List.length_map]; have := nl x; omega, fun H5 v sf5 hv => ?_⟩
  obtain ⟨y, rfl, hy⟩ := near_get hv
  obtain ⟨y1, y2, y3⟩ := near_lt stn hy
  have gB := (gA.trans g4).trans sf5
  -- b
  refine ⟨_, rfl, _, rfl, _, rfl, l, ls, y, rfl, hL.sf gB hs nls, by omega, fun H6 p6 s6 np6 hp6 => ?_⟩
  have g6 := SF.same gB.src s6
  refine ⟨s, p6, _, rfl, g6.src, hp6, gB.src.ne np6, by rw [List.length_map]; have := st.deg y y1; omega, by rw [List.length_map]; have := nl y; omega, fun H7 v sf7 hv => ?_⟩
  obtain ⟨b, rfl, hb⟩ := near_get hv
  obtain ⟨b1, b2, b3⟩ := near_lt stn hb
  have gC := (gB.trans g6).trans sf7
  have hL7 := hL.sf gC hs nls
  have same : ∀ H8, SF s H H8 → LsAt H8 l ls → tRet (tTup (tCons (tVar 1) (tCons (tVar 2) tNil))) { nx := fun _ H' => Q .non H', rt := Q } [some (.ref s), some (vN n), some (.ref l), some (vN a), some (vN x), some (vN y), some (vN b)] H8 := fun H8 sf8 hL8 => by
    refine ⟨_, rfl, _, rfl, sz100k (by show 2 ≤ 100000; decide), fun t nt => ?_⟩
    have s9 := same_new (o := .tup [vN n, .ref l]) nt
    exact q _ t l ls (sf8.trans (SF.same sf8.src s9)) upd_same nls (hL8.same s9) st
  refine ⟨_, rfl, _, rfl, rfl, ?_⟩
  refine ⟨decide (a = y), congrArg V.bl dec_vN, ?_⟩
  by_cases e1 : a = y
  · exact itT (decide_eq_true e1) (iteT (same H7 gC hL7))
  refine itF (decide_eq_false e1) ⟨_, rfl, _, rfl, rfl, decide (a = b), congrArg V.bl dec_vN, ?_⟩
  by_cases e2 : a = b
  · exact itT (decide_eq_true e2) (iteT (same H7 gC hL7))
  refine itF (decide_eq_false e2) ⟨_, rfl, _, rfl, rfl, decide (x = b), congrArg V.bl dec_vN, ?_⟩
  by_cases e3 : x = b
  · exact itT (decide_eq_true e3) (iteT (same H7 gC hL7))
  refine itF (decide_eq_false e3) ⟨_, rfl, _, rfl, a, b, rfl, fun t nt => ?_⟩
  have s8 := same_new (o := .tup [vN (min a b), vN (max a b)]) nt
  have gD := gC.trans (SF.same gC.src s8)
  obtain ⟨xs, hl8, hall8⟩ := hL7.same s8
  refine ⟨_, rfl, dP (min a b, max a b), ls.map dP, (mkP upd_same).dp, .lst (SqL.of hl8) hall8.dp, shaped_dP _, shaped_lPs _, _, congrArg V.bl (any_dP ls (min a b, max a b)), ?_⟩
  by_cases e4 : (min a b, max a b) ∈ ls
  · exact itT (decide_eq_true e4) (same _ gD (hL7.same s8))
  · refine itF (decide_eq_false e4) ?_
    refine ⟨_, rfl, _, rfl, _, rfl, _, rfl, a, b, rfl, fun t2 nt2 => ?_⟩
    have s9 := same_new (o := .tup [vN (min a b), vN (max a b)]) nt2
    refine ⟨sz100k (by show 1 ≤ 100000; decide), fun d nd => ?_⟩
    have s10 := s9.trans (same_new (o := .lst [.ref t2]) nd)
    refine ⟨l, d, _, _, rfl, rfl, s10 _ _ hl8, upd_same, sz100k (by rw [hall8.length, List.length_map]; show ls.length + 1 ≤ 100000; omega), fun c nc => ?_⟩
    have sB := s10.trans (same_new (o := .lst (xs ++ [.ref t2])) nc)
    have gE := gD.trans (SF.same gD.src sB)
    have ht2 : (upd (upd (upd (upd H7 t (.tup [vN (min a b), vN (max a b)])) t2 (.tup [vN (min a b), vN (max a b)])) d (.lst [.ref t2])) c (.lst (xs ++ [.ref t2]))) t2 = some (.tup [vN (min a b), vN (max a b)]) := (same_new nc) _ _ ((same_new nd) _ _ upd_same)
    dsimp only [tNil]
    refine srt_pairs (ls := ls ++ [(min a b, max a b)]) ⟨_, upd_same, ?_⟩ fun p ls' np pm srt ys hys => ?_
    · rw [List.map_append]
      exact (hall8.mono (same_ts sB)).app (.one (mkP ht2))
    · have sC := same_new (o := .lst ys) np
      refine ⟨sz100k (by show 2 ≤ 100000; decide), fun z nz => ?_⟩
      have sD := sC.trans (same_new (o := .tup [vN n, .ref p]) nz)
      have gF := gE.trans (SF.same gE.src sD)
      refine q _ z p ls' gF upd_same (gE.src.ne np) ⟨ys, same_new nz _ _ upd_same, hys.mono (same_ts sD)⟩ ((st.bridge ha b1 e2 e4).perm pm)
/-! ### corner -/
theorem b_law_corner (T : Txt K mg) (c__law_take : Cal P w K mg base 1 "_law_take" spTake []) (c__law_near : Cal P w K mg base 1 "_law_near" spNearL []) : BodyOk P w K mg base 1 "_law_corner" s__law_corner N__law_corner (spGrow 1) := by
  intro f cdv A outer s0 H vs Q E hr h
  obtain ⟨s, l, n, ls, rfl, hs, nls, hL, st, n12, q⟩ := h
  have n4 := st.n4
  have l144 := stw144 st n12
  have stn := st.toWebN
  refine ⟨_, (pss_cons (ps_set (i := 3) sc__law_corner.nd rfl (Or.inl rfl) (pe_c c__law_near hr (by decide) (by rfl) (pa_cons (pv 2) (pa_cons (pe_c c__law_take hr (by decide) (by rfl) (pa_cons (pv 0) (pa_cons (pv 1) pa_nil))) pa_nil))))
 (pss_cons (ps_set (i := 4) sc__law_corner.nd rfl (Or.inl rfl) (pe_bm PySem.F.plainAttrs_list PySem.F.slot_list_pop PySem.F.type_list_pop mt_popAt (pv 3) (pa_cons (pe_c c__law_take hr (by decide) (by rfl) (pa_cons (pv 0) (pa_cons (pe_callB call_len_seq (by rfl) T.b_len PySem.boot_len (pa_cons (pv 3) pa_nil)) pa_nil))) pa_nil)))
 (pss_cons (ps_set (i := 5) sc__law_corner.nd rfl (Or.inl rfl) (pe_bm PySem.F.plainAttrs_list PySem.F.slot_list_pop PySem.F.type_list_pop mt_popAt (pv 3) (pa_cons (pe_c c__law_take hr (by decide) (by rfl) (pa_cons (pv 0) (pa_cons (pe_callB call_len_seq (by rfl) T.b_len PySem.boot_len (pa_cons (pv 3) pa_nil)) pa_nil))) pa_nil)))
 (pss_one (ps_ret (pe_tup (pa_cons (pe_op op_add (pv 1) pe_int) (pa_cons (pe_callB cr_sortedPO (by rfl) T.b_sorted (by decide +kernel) (pa_cons (pe_op op_cat (pv 2) (pe_lst (pa_cons (pe_tup (pa_cons (pv 4) (pa_cons (pv 1) pa_nil))) (pa_cons (pe_tup (pa_cons (pv 5) (pa_cons (pv 1) pa_nil))) pa_nil)))) pa_nil)) pa_nil)))))))), ?_⟩
  refine ⟨_, rfl, _, rfl, _, rfl, s, n, rfl, hs, by omega, by omega, fun H1 a sf1 ha => ?_⟩
  refine ⟨l, ls, a, rfl, hL.sf sf1 hs nls, by omega, fun H2 p s2 np hp => ?_⟩
  have nps := sf1.src.ne np
  have np0 : H p = none := sf1.free np
  have g2 := sf1.trans (SF.same sf1.src s2)
  have dg := st.deg a ha
  have ll : (nearL ls a).length ≤ 1000 := by
    rw [near_len]
    have := rowM_len ls a
    omega
  refine ⟨_, rfl, .inl ⟨rfl, _, SqL.of hp⟩, _, rfl, _, rfl, p, _, rfl, .inl (SqL.of hp), s, ((nearL ls a).map vN).length, rfl, g2.src, by rw [List.length_map]; omega, by rw [List.length_map]; omega, fun H3 r sf3 hr3 => ?_⟩
  have hp3 := sf3.at hp nps
  have hr4 : r < (nearL ls a).length := by rw [List.length_map] at hr3; exact hr3
  refine ⟨p, _, _, r, vN (nearL ls a)[r], rfl, rfl, hp3, by omega, by omega, seq_nat hr3, by rw [List.getElem?_map, List.getElem?_eq_getElem hr4]; rfl, ?_⟩
  rw [map_erase]
  have g4 := (g2.trans sf3).put (o := .lst (((nearL ls a).eraseIdx r).map vN)) np0 nps
  have hp4 : (upd H3 p (.lst (((nearL ls a).eraseIdx r).map vN))) p = some (.lst (((nearL ls a).eraseIdx r).map vN)) := upd_same
  have el : ((nearL ls a).eraseIdx r).length = (nearL ls a).length - 1 := List.length_eraseIdx_of_lt hr4
  refine ⟨_, rfl, .inl ⟨rfl, _, SqL.of hp4⟩, _, rfl, _, rfl, p, _, rfl, .inl (SqL.of hp4), s, (((nearL ls a).eraseIdx r).map vN).length, rfl, g4.src, by rw [List.length_map]; omega, by rw [List.length_map]; omega, fun H5 r2 sf5 hr5 => ?_⟩
  have hp5 := sf5.at hp4 nps
  have hr6 : r2 < ((nearL ls a).eraseIdx r).length := by rw [List.length_map] at hr5; exact hr5
  refine ⟨p, _, _, r2, vN ((nearL ls a).eraseIdx r)[r2], rfl, rfl, hp5, by omega, by omega, seq_nat hr5, by rw [List.getElem?_map, List.getElem?_eq_getElem hr6]; rfl, ?_⟩
  rw [map_erase]
  obtain ⟨x, hx⟩ : ∃ x, x = (nearL ls a)[r] := ⟨_, rfl⟩
  obtain ⟨y, hy⟩ : ∃ y, y = ((nearL ls a).eraseIdx r)[r2] := ⟨_, rfl⟩
  have mx : x ∈ nearL ls a := by rw [hx]; exact List.getElem_mem _
  have my0 : y ∈ (nearL ls a).eraseIdx r := by rw [hy]; exact List.getElem_mem _
  have my : y ∈ nearL ls a := List.mem_of_mem_eraseIdx my0
  have nxy : x ≠ y := fun e => by
    have pm := perm_pop (fd := []) hr4
    have nd := (pm.nodup_iff.mpr (near_nodup stn a))
    rw [List.nil_append] at nd
    have := (List.nodup_append.mp nd).2.2 (nearL ls a)[r] (by simp) y my0
    exact this (by rw [← hx, e])
  rw [← hx, ← hy]
  have g6 := (g4.trans sf5).put (o := .lst ((((nearL ls a).eraseIdx r).eraseIdx r2).map vN)) np0 nps
  obtain ⟨xs, hl6, hall6⟩ := hL.sf g6 hs nls
  refine ⟨_, rfl, _, 1, rfl, rfl, ?_⟩
  have nlp : l ≠ p := fun e => by
    obtain ⟨xs0, z, _⟩ := hL
    rw [e, np0] at z
    cases z
  refine ⟨_, rfl, _, rfl, _, rfl, sz100k (by show 2 ≤ 100000; decide), fun t1 nt1 => ⟨_, rfl, _, rfl, sz100k (by show 2 ≤ 100000; decide), fun t2 nt2 => ?_⟩⟩
  have s7 := (same_new (o := .tup [vN x, vN n]) nt1).trans (same_new (o := .tup [vN y, vN n]) nt2)
  refine ⟨sz100k (by show 2 ≤ 100000; decide), fun d nd => ?_⟩
  have s8 := s7.trans (same_new (o := .lst [.ref t1, .ref t2]) nd)
  refine ⟨l, d, _, _, rfl, rfl, s8 _ _ hl6, upd_same, sz100k (by rw [hall6.length, List.length_map]; show ls.length + 2 ≤ 100000; omega), fun c nc => ?_⟩
  have sc := same_new (o := .lst (xs ++ [.ref t1, .ref t2])) nc
  have s9 := s8.trans sc
  have g9 := g6.trans (SF.same g6.src s9)
  dsimp only [tNil]
  refine srt_pairs (ls := ls ++ [(x, n), (y, n)]) ⟨_, upd_same, ?_⟩ fun z ls' nz pm srt ys hys => ?_
  · rw [List.map_append]
    refine (hall6.mono (same_ts s9)).app (.cons (mkP ?_) (.cons (mkP ?_) .nil))
    · exact sc _ _ (same_new nd _ _ (same_new nt2 _ _ upd_same))
    · exact sc _ _ (same_new nd _ _ upd_same)
  · have sC := same_new (o := .lst ys) nz
    refine ⟨sz100k (by show 2 ≤ 100000; decide), fun u nu => ?_⟩
    have sD := sC.trans (same_new (o := .tup [vN (n + 1), .ref z]) nu)
    refine q _ u z ls' (g9.trans (SF.same g9.src sD)) upd_same (g9.src.ne nz) ⟨ys, same_new nu _ _ upd_same, hys.mono (same_ts sD)⟩ ((st.corner (near_lt stn mx).1 (near_lt stn my).1 nxy).perm pm)
end
end PF
namespace PF
open PySem PySem.Spec PyProof.Rows L2
open C8 (Cal Mak Met pe_c pe_mk pe_gc pe_mt pe_mt0)
open PFM hiding ltP
section
variable {P : Program} {w : World} {K : PySem.W.Frag} {mg : Str → Option Value} {base : Heap}
/-! ### renamed -/
def spRen : Sp := fun vs H Q _ => ∃ (s l : Addr) (n : Nat) (ls : List (Nat × Nat)), vs = [.ref s, vN n, .ref l] ∧ Src H s ∧ l ≠ s ∧ LsAt H l ls ∧ WebN n ls ∧ n ≤ 1000 ∧ ls.length ≤ 1000 ∧
  ∀ (H' : Hp) (p l' : Addr) (ls' : List (Nat × Nat)) (fd : List Nat), SF s H H' → H' p = some (.tup [vN n, .ref l']) → l' ≠ s → LsAt H' l' ls' → WebL n ls' → fd.Perm (List.range n) → ls'.Perm (rename fd ls) → Q (.ref p) H'
theorem web_of {n : Nat} {ls ls' : List (Nat × Nat)} (h : WebN n ls) (p : ls'.Perm ls) (s : ls'.Pairwise leP) : WebL n ls' := ⟨(h.perm p).lk, asc_of s (h.perm p).nd⟩
theorem b_law_renamed (T : Txt K mg) (c__law_shuffled : Cal P w K mg base 2 "_law_shuffled" spShuf []) (c__law_link : Cal P w K mg base 1 "_law_link" spLink []) : BodyOk P w K mg base 2 "_law_renamed" s__law_renamed N__law_renamed spRen := by
  intro f cdv A outer s0 H vs Q E hr h
  obtain ⟨s, l, n, ls, rfl, hs, nls, hL, wn, hn, hl, q⟩ := h
  refine ⟨_, (pss_cons (ps_set (i := 3) sc__law_renamed.nd rfl (Or.inr rfl) (pe_c c__law_shuffled hr (by decide) (by rfl) (pa_cons (pv 0) (pa_cons (pv 1) pa_nil))))
 (pss_one (ps_ret (pe_tup (pa_cons (pv 1) (pa_cons (pe_callB cr_sortedPO (by rfl) T.b_sorted (by decide +kernel) (pa_cons (pe_lc (own := [("_law_a", 4), ("_law_b", 5)]) (g := gTup K 2 (gCons (gName 4) (gCons (gName 5) gNil))) (by rfl) sc__law_renamed.nd (pi_list (pv 2)) (blkOk_by (N := N__law_renamed) (sc := defScope s__law_renamed) (own := [("_law_a", 4), ("_law_b", 5)]) (by decide +kernel)) (fun _ _ _ _ _ => by exact (pg_tup rfl (pgs_cons (pg_name (i := 4) sc__law_renamed.nd rfl (Or.inl rfl)) (pgs_cons (pg_name (i := 5) sc__law_renamed.nd rfl (Or.inl rfl)) pgs_nil)))) (fun _ _ _ _ _ => by exact pts_nil) (fun _ _ _ _ _ => by exact (pe_c c__law_link hr (by decide) (by rfl) (pa_cons (pe_ix (r := rIxL K) ix_list (pv 3) (pv 4) (fun _ _ => rfl)) (pa_cons (pe_ix (r := rIxL K) ix_list (pv 3) (pv 5) (fun _ _ => rfl)) pa_nil))))) pa_nil)) pa_nil)))))), ?_⟩
  refine ⟨_, rfl, _, rfl, s, n, rfl, hs, hn, fun H1 p fd sf1 np nps hp pm => ?_⟩
  have fl : fd.length = n := by rw [pm.length_eq, List.length_range]
  obtain ⟨xs, hl1, hall⟩ := hL.sf sf1 hs nls
  have hlen : xs.length = ls.length := by rw [hall.length, List.length_map]
  refine ⟨_, rfl, _, rfl, l, rfl, ⟨_, SqL.of hl1⟩, fun D nD => lc_list (K := K) (a := l) (xs := xs) (fun i H' => Same H1 H' ∧ ∃ ys, H' D = some (.lst ys) ∧ TpAll H' ys (((rename fd ls).take i).map dP)) ⟨same_new nD, [], upd_same, .nil⟩ (fun i H' _ p => SqL.of (p.1 _ _ hl1)) ?_ ?_⟩
  · rintro i v H2 hv ⟨sm, ys, hys, hall2⟩
    obtain ⟨⟨a, b⟩, hab, tp⟩ := hall.getF hv
    obtain ⟨pa, rfl, hpa⟩ := tpP (tp.mono (same_ts sm))
    have hlk := wn.lk _ (List.mem_of_getElem? hab)
    simp only at hlk
    have ga : (fd.map vN)[a]? = some (vN (at0 fd a)) := vN_get (by omega)
    have gb : (fd.map vN)[b]? = some (vN (at0 fd b)) := vN_get (by omega)
    have hyl : ys.length ≤ 1000 := by
      rw [hall2.length, List.length_map, List.length_take]
      have : (rename fd ls).length = ls.length := by unfold rename; rw [List.length_map]
      omega
    refine ⟨pa, _, rfl, SqT.of hpa, rfl, _, _, rfl, _, _, rfl, rfl, rfl, yes (itT rfl ?_)⟩
    refine ⟨_, rfl, _, rfl, p, _, _, vN (at0 fd a), rfl, rfl, SqL.of (sm _ _ hp), at_of rfl ga, ?_⟩
    refine ⟨_, rfl, _, rfl, p, _, _, vN (at0 fd b), rfl, rfl, SqL.of (sm _ _ hp), at_of rfl gb, ?_⟩
    refine ⟨_, _, rfl, fun t nt => ?_⟩
    have s3 := same_new (o := .tup [vN (min (at0 fd a) (at0 fd b)), vN (max (at0 fd a) (at0 fd b))]) nt
    refine ⟨ys, s3 _ _ hys, sz100kl (by omega), same_mut (sm.trans s3) nD, _, upd_same, ?_⟩
    have tkE := ts_lst (o := .lst (ys ++ [.ref t])) (s3 _ _ hys)
    have e : (rename fd ls).take (i + 1) = (rename fd ls).take i ++ [(min (at0 fd a) (at0 fd b), max (at0 fd a) (at0 fd b))] := by
      rw [List.take_add_one]
      unfold rename
      rw [List.getElem?_map, hab]
      rfl
    rw [e, List.map_append]
    exact ((hall2.mono (same_ts s3)).mono tkE).app (.one (Tp.mono tkE (mkP upd_same)))
  · rintro H2 ⟨sm, ys, hys, hall2⟩
    rw [List.take_of_length_le (by unfold rename; rw [List.length_map, hlen]; exact Nat.le_refl _)] at hall2
    have g2 := sf1.trans (SF.same sf1.src sm)
    dsimp only [tNil]
    refine srt_pairs ⟨ys, hys, hall2⟩ fun z ls' nz pm2 srt ys2 hys2 => ?_
    have s3 := same_new (o := .lst ys2) nz
    refine ⟨sz100k (by show 2 ≤ 100000; decide), fun u nu => ?_⟩
    have s4 := s3.trans (same_new (o := .tup [vN n, .ref z]) nu)
    exact q _ u z ls' fd (g2.trans (SF.same g2.src s4)) upd_same (g2.src.ne nz) ⟨ys2, same_new nu _ _ upd_same, hys2.mono (same_ts s4)⟩ (web_of (wn.rename pm) pm2 srt) pm pm2
/-! ### written pairs -/
def pairsT : List (Nat × Nat) → TA
  | [] => tNil
  | p :: ps => tCons (tTup (tCons (tC (vN p.1)) (tCons (tC (vN p.2)) tNil))) (pairsT ps)
theorem pairsT_ok : ∀ (ps : List (Nat × Nat)) (σ : Stt) (H : Hp) (Q : List V → Hp → Prop), (∀ H' vs, Same H H' → TpAll H' vs (ps.map dP) → Q vs H') → pairsT ps σ H Q
  | [], σ, H, Q, q => q H [] (Same.refl H) .nil
  | p :: ps, σ, H, Q, q => by
    refine ⟨sz100k (by show 2 ≤ 100000; decide), fun t nt => ?_⟩
    have s1 := same_new (o := .tup [vN p.1, vN p.2]) nt
    exact pairsT_ok ps σ _ _ fun H' vs sm h => q H' _ (s1.trans sm) (.cons (Tp.mono (same_ts sm) (mkP upd_same)) h)
theorem lst_pairs {ps : List (Nat × Nat)} {σ : Stt} {H : Hp} {Q : VK} (hl : ps.length ≤ 1000) (q : ∀ H' D, Same H H' → H D = none → LsAt H' D ps → Q (.ref D) H') : tLst (pairsT ps) σ H Q := by
  refine pairsT_ok ps σ H _ fun H1 vs s1 h => ⟨sz100k (by rw [h.length, List.length_map]; omega), fun D nD => ?_⟩
  have s2 := same_new (o := .lst vs) nD
  exact q _ D (s1.trans s2) (s1.free nD) ⟨vs, upd_same, h.mono (same_ts s2)⟩
theorem seq_pairs {ps : List (Nat × Nat)} {ta : TA} {i : Nat} {rest : TS} {D : Ends} {σ : Stt} {H : Hp} (e : ta = pairsT ps) (hl : ps.length ≤ 1000) (q : ∀ H' d, Same H H' → H d = none → LsAt H' d ps → rest D (σ.set i (some (.ref d))) H') : tSeq (tAsg (tLst ta) (gName i)) rest D σ H := by
  subst e
  exact lst_pairs (Q := fun x H1 => gName i x σ H1 (rest D)) hl q
/-! ### stout -/
def spStout : Sp := fun vs H Q _ => ∃ (s : Addr) (m k : Nat), vs = [.ref s, vN m, vN k] ∧ Src H s ∧ 4 ≤ m ∧ m ≤ 12 ∧
  ∀ (H' : Hp) (p l : Addr) (n : Nat) (ls : List (Nat × Nat)), SF s H H' → H' p = some (.tup [vN n, .ref l]) → l ≠ s → LsAt H' l ls → WebL n ls → 4 ≤ n → n ≤ m → Q (.ref p) H'
abbrev sqL : List (Nat × Nat) := [(0, 1), (0, 2), (1, 3), (2, 3)]
abbrev foL : List (Nat × Nat) := [(0, 1), (0, 2), (0, 3), (1, 2), (1, 3), (2, 3)]
abbrev prL : List (Nat × Nat) := [(0, 1), (0, 2), (0, 4), (1, 3), (1, 5), (2, 3), (2, 4), (3, 5), (4, 5)]
theorem st_sq : StW 4 sqL := ⟨⟨by decide, by decide⟩, by omega, fun x hx => by rw [near_len]; revert x; decide⟩
theorem st_fo : StW 4 foL := ⟨⟨by decide, by decide⟩, by omega, fun x hx => by rw [near_len]; revert x; decide⟩
theorem st_pr : StW 6 prL := ⟨⟨by decide, by decide⟩, by omega, fun x hx => by rw [near_len]; revert x; decide⟩
theorem b_law_stout (T : Txt K mg) (c__law_take : Cal P w K mg base 1 "_law_take" spTake []) (c__law_corner : Cal P w K mg base 2 "_law_corner" (spGrow 1) []) (c__law_bridge : Cal P w K mg base 3 "_law_bridge" (spGrow 0) []) (c__law_renamed : Cal P w K mg base 3 "_law_renamed" spRen []) :
    BodyOk P w K mg base 3 "_law_stout" s__law_stout N__law_stout spStout := by
  intro f cdv A outer s0 H vs Q E hr h
  obtain ⟨s, m, k, rfl, hs, m4, m12, q⟩ := h
  refine ⟨_, (pss_cons (ps_set (i := 3) sc__law_stout.nd rfl (Or.inl rfl) (pe_lst (pa_cons (pe_tup (pa_cons pe_int (pa_cons pe_int pa_nil))) (pa_cons (pe_tup (pa_cons pe_int (pa_cons pe_int pa_nil))) (pa_cons (pe_tup (pa_cons pe_int (pa_cons pe_int pa_nil))) (pa_cons (pe_tup (pa_cons pe_int (pa_cons pe_int pa_nil))) pa_nil))))))
 (pss_cons (ps_set (i := 4) sc__law_stout.nd rfl (Or.inl rfl) (pe_lst (pa_cons (pe_tup (pa_cons pe_int (pa_cons pe_int pa_nil))) (pa_cons (pe_tup (pa_cons pe_int (pa_cons pe_int pa_nil))) (pa_cons (pe_tup (pa_cons pe_int (pa_cons pe_int pa_nil))) (pa_cons (pe_tup (pa_cons pe_int (pa_cons pe_int pa_nil))) (pa_cons (pe_tup (pa_cons pe_int (pa_cons pe_int pa_nil))) (pa_cons (pe_tup (pa_cons pe_int (pa_cons pe_int pa_nil))) pa_nil))))))))
 (pss_cons (ps_set (i := 5) sc__law_stout.nd rfl (Or.inl rfl) (pe_lst (pa_cons (pe_tup (pa_cons pe_int (pa_cons pe_int pa_nil))) (pa_cons (pe_tup (pa_cons pe_int (pa_cons pe_int pa_nil))) (pa_cons (pe_tup (pa_cons pe_int (pa_cons pe_int pa_nil))) (pa_cons (pe_tup (pa_cons pe_int (pa_cons pe_int pa_nil))) (pa_cons (pe_tup (pa_cons pe_int (pa_cons pe_int pa_nil))) (pa_cons (pe_tup (pa_cons pe_int (pa_cons pe_int pa_nil))) (pa_cons (pe_tup (pa_cons pe_int (pa_cons pe_int pa_nil))) (pa_cons (pe_tup (pa_cons pe_int (pa_cons pe_int pa_nil))) (pa_cons (pe_tup (pa_cons pe_int (pa_cons pe_int pa_nil))) pa_nil)))))))))))
 (pss_cons (ps_par (i := 6) (j := 7) (by rfl) sc__law_stout.nd rfl rfl (by decide) rfl rfl (pa_cons pe_int (pa_cons (pv 3) pa_nil)) (by rfl))
 (C8.pss_cut (ps_if (PW.pt (pw_or (pt_cmpR op_eq (pv 2) pe_int (nomark _)) (pw_or1 (PW.pt (pw_and (pt_cmpR op_eq (pv 2) pe_int (nomark _)) (pw_and1 (pt_cmpR op_eq (pe_c c__law_take hr (by decide) (by rfl) (pa_cons (pv 0) (pa_cons pe_int pa_nil))) pe_int (nomark _))))))))
 (pss_cons (ps_set (i := 7) sc__law_stout.nd rfl (Or.inl rfl) (pv 4))
 (pss_one (ps_if (PW.pt (pw_and (pt_cmpR op_ge (pv 1) pe_int (nomark _)) (pw_and1 (pt_cmpR op_eq (pe_c c__law_take hr (by decide) (by rfl) (pa_cons (pv 0) (pa_cons pe_int pa_nil))) pe_int (nomark _)))))
 (pss_one (ps_par (i := 6) (j := 7) (by rfl) sc__law_stout.nd rfl rfl (by decide) rfl rfl (pa_cons pe_int (pa_cons (pv 5) pa_nil)) (by rfl)))
 pss_nil)))
 pss_nil)
 (pss_cons (ps_for PassesOwn.never rfl (pi_range1 (by rfl) T.b_range (pa_cons (pe_c c__law_take hr (by decide) (by rfl) (pa_cons (pv 0) (pa_cons (pv 1) pa_nil))) pa_nil)) (pg_name (i := 8) sc__law_stout.nd rfl (Or.inl rfl))
 (pss_one (ps_if (PW.pt (pw_and (pt_cmpR op_lt (pv 6) (pv 1) (nomark _)) (pw_and1 (pt_cmpR op_lt (pe_c c__law_take hr (by decide) (by rfl) (pa_cons (pv 0) (pa_cons pe_int pa_nil))) pe_int (nomark _)))))
 (pss_one (ps_asg (pe_c c__law_corner hr (by decide) (by rfl) (pa_cons (pv 0) (pa_cons (pv 6) (pa_cons (pv 7) pa_nil)))) (pg_tup rfl (pgs_cons (pg_name (i := 6) sc__law_stout.nd rfl (Or.inl rfl)) (pgs_cons (pg_name (i := 7) sc__law_stout.nd rfl (Or.inl rfl)) pgs_nil)))))
 (pss_one (ps_asg (pe_c c__law_bridge hr (by decide) (by rfl) (pa_cons (pv 0) (pa_cons (pv 6) (pa_cons (pv 7) pa_nil)))) (pg_tup rfl (pgs_cons (pg_name (i := 6) sc__law_stout.nd rfl (Or.inl rfl)) (pgs_cons (pg_name (i := 7) sc__law_stout.nd rfl (Or.inl rfl)) pgs_nil))))))))
 (pss_one (ps_ret (pe_c c__law_renamed hr (by decide) (by rfl) (pa_cons (pv 0) (pa_cons (pv 6) (pa_cons (pv 7) pa_nil)))))))))))), ?_⟩
  refine seq_pairs (ps := sqL) (by rfl) (by decide) fun H1 sq s1 nsq hsq => ?_
  refine seq_pairs (ps := foL) (by rfl) (by decide) fun H2 fo s2 nfo hfo => ?_
  refine seq_pairs (ps := prL) (by rfl) (by decide) fun H3 pr s3 npr hpr => ?_
  have sA := (s1.trans s2).trans s3
  have gA := SF.same hs sA
  have hsq3 := hsq.same (s2.trans s3)
  have hfo3 := hfo.same s3
  have nsqs := hs.ne nsq
  have nfos := (hs.same s1).ne nfo
  have nprs := (hs.same (s1.trans s2)).ne npr
  refine ⟨_, rfl, _, _, rfl, ?_⟩
  refine ⟨fun σ H' => SF s H H' ∧ ∃ n l ls, l ≠ s ∧ LsAt H' l ls ∧ StW n ls ∧ n ≤ m ∧ σ = [some (.ref s), some (vN m), some (vN k), some (.ref sq), some (.ref fo), some (.ref pr), some (vN n), some (.ref l), none], ?_, ?_⟩
  · refine ⟨_, rfl, rfl, _, rfl, ?_⟩
    rcases Bool.eq_false_or_eq_true (decide (vN k = V.int 2)) with e | e
    · refine itT e (iteT ⟨_, rfl, _, rfl, _, 6, rfl, rfl, _, rfl, ?_⟩)
      rcases Bool.eq_false_or_eq_true (decide ((m : Int) ≥ 6)) with e6 | e6
      · refine itT e6 ⟨_, rfl, s, 2, rfl, gA.src, by omega, by omega, fun H4 r sf4 hr4 => ⟨rfl, _, rfl, ?_⟩⟩
        have g4 := gA.trans sf4
        rcases Bool.eq_false_or_eq_true (decide (vN r = V.int 0)) with e0 | e0
        · exact itT e0 ⟨_, rfl, _, _, rfl, g4, 6, pr, prL, nprs, hpr.sf sf4 gA.src nprs, st_pr, by have := of_decide_eq_true e6; omega, rfl⟩
        · exact itF e0 ⟨g4, 4, fo, foL, nfos, hfo3.sf sf4 gA.src nfos, st_fo, by omega, rfl⟩
      · exact itF e6 ⟨gA, 4, fo, foL, nfos, hfo3, st_fo, by omega, rfl⟩
    · refine itF e ⟨_, rfl, rfl, _, rfl, ?_⟩
      rcases Bool.eq_false_or_eq_true (decide (vN k = V.int 3)) with e3 | e3
      · refine itT e3 ⟨_, rfl, s, 3, rfl, gA.src, by omega, by omega, fun H4 r sf4 hr4 => ⟨rfl, _, rfl, ?_⟩⟩
        have g4 := gA.trans sf4
        rcases Bool.eq_false_or_eq_true (decide (vN r = V.int 0)) with e0 | e0
        · refine itT e0 ⟨_, rfl, _, rfl, _, 6, rfl, rfl, _, rfl, ?_⟩
          rcases Bool.eq_false_or_eq_true (decide ((m : Int) ≥ 6)) with e6 | e6
          · refine itT e6 ⟨_, rfl, s, 2, rfl, g4.src, by omega, by omega, fun H5 r2 sf5 hr5 => ⟨rfl, _, rfl, ?_⟩⟩
            have g5 := g4.trans sf5
            rcases Bool.eq_false_or_eq_true (decide (vN r2 = V.int 0)) with e1 | e1
            · exact itT e1 ⟨_, rfl, _, _, rfl, g5, 6, pr, prL, nprs, hpr.sf (sf4.trans sf5) gA.src nprs, st_pr, by have := of_decide_eq_true e6; omega, rfl⟩
            · exact itF e1 ⟨g5, 4, fo, foL, nfos, hfo3.sf (sf4.trans sf5) gA.src nfos, st_fo, by omega, rfl⟩
          · exact itF e6 ⟨g4, 4, fo, foL, nfos, hfo3.sf sf4 gA.src nfos, st_fo, by omega, rfl⟩
        · exact itF e0 ⟨g4, 4, sq, sqL, nsqs, hsq3.sf sf4 gA.src nsqs, st_sq, by omega, rfl⟩
      · exact itF e3 ⟨gA, 4, sq, sqL, nsqs, hsq3, st_sq, by omega, rfl⟩
  · rintro σ H4 ⟨sf4, n, l, ls, nls, hL, st, nm, rfl⟩
    refine ⟨_, rfl, _, rfl, s, m, rfl, sf4.src, by omega, by omega, fun H5 r sf5 hr5 => ?_⟩
    refine ⟨_, rfl, (small62 (by omega)).1, (small62 (by omega)).2, for_range0 (n := r) (fun i σ H' => SF s H H' ∧ ∃ n l ls x8, l ≠ s ∧ LsAt H' l ls ∧ StW n ls ∧ n ≤ m ∧ σ = [some (.ref s), some (vN m), some (vN k), some (.ref sq), some (.ref fo), some (.ref pr), some (vN n), some (.ref l), x8])
      ⟨sf4.trans sf5, n, l, ls, none, nls, hL.sf sf5 sf4.src nls, st, nm, rfl⟩ ?_ ?_⟩
    · rintro i σ H6 hi ⟨sf6, n, l, ls, x8, nls, hL, st, nm, rfl⟩
      refine ⟨_, rfl, _, rfl, _, _, rfl, rfl, _, rfl, ?_⟩
      rcases Bool.eq_false_or_eq_true (decide ((n : Int) < (m : Int))) with e | e
      · refine itT e ⟨_, rfl, s, 3, rfl, sf6.src, by omega, by omega, fun H7 r2 sf7 hr7 => ⟨_, 2, rfl, rfl, _, rfl, ?_⟩⟩
        have g7 := sf6.trans sf7
        have hL7 := hL.sf sf7 sf6.src nls
        have nm2 := of_decide_eq_true e
        rcases Bool.eq_false_or_eq_true (decide ((r2 : Int) < 2)) with e2 | e2
        · refine itT e2 ⟨_, rfl, _, rfl, _, rfl, s, l, n, ls, rfl, g7.src, nls, hL7, st, by omega, fun H8 p l' ls' sf8 hp nls' hL' st' => ?_⟩
          exact ⟨p, _, rfl, SqT.of hp, rfl, _, _, rfl, _, _, rfl, rfl, g7.trans sf8, n + 1, l', ls', _, nls', hL', st', by omega, rfl⟩
        · refine itF e2 ⟨_, rfl, _, rfl, _, rfl, s, l, n, ls, rfl, g7.src, nls, hL7, st, by omega, fun H8 p l' ls' sf8 hp nls' hL' st' => ?_⟩
          exact ⟨p, _, rfl, SqT.of hp, rfl, _, _, rfl, _, _, rfl, rfl, g7.trans sf8, n, l', ls', _, nls', hL', st', by omega, rfl⟩
      · refine itF e ⟨_, rfl, _, rfl, _, rfl, s, l, n, ls, rfl, sf6.src, nls, hL, st, by omega, fun H8 p l' ls' sf8 hp nls' hL' st' => ?_⟩
        exact ⟨p, _, rfl, SqT.of hp, rfl, _, _, rfl, _, _, rfl, rfl, sf6.trans sf8, n, l', ls', _, nls', hL', st', by omega, rfl⟩
    · rintro σ H6 ⟨sf6, n, l, ls, x8, nls, hL, st, nm, rfl⟩
      have l144 := stw144 st (by omega)
      refine ⟨_, rfl, _, rfl, _, rfl, s, l, n, ls, rfl, sf6.src, nls, hL, st.toWebN, by omega, by omega, fun H7 p l' ls' fd sf7 hp nls' hL' wl _ _ => ?_⟩
      exact q _ p l' n ls' (sf6.trans sf7) hp nls' hL' wl st.n4 nm
end
end PF
namespace PF
open PySem PySem.Spec PyProof.Rows L2
open C8 (Cal Mak Met pe_c pe_mk pe_gc pe_mt pe_mt0)
open PFM hiding ltP
section
variable {P : Program} {w : World} {K : PySem.W.Frag} {mg : Str → Option Value} {base : Heap}
/-! ### round -/
def spWebR (lo hi : Nat) : Sp := fun vs H Q _ => ∃ (s : Addr) (n : Nat), vs = [.ref s, vN n] ∧ Src H s ∧ lo ≤ n ∧ n ≤ hi ∧
  ∀ (H' : Hp) (p l : Addr) (n' : Nat) (ls : List (Nat × Nat)), SF s H H' → H' p = some (.tup [vN n', .ref l]) → l ≠ s → LsAt H' l ls → WebL n' ls → 1 ≤ n' → n' ≤ n → Q (.ref p) H'
def ringL (n : Nat) : List (Nat × Nat) := (List.range (n - 1)).map (fun x => (x, x + 1)) ++ [(0, n - 1)]
theorem ring_web {n : Nat} (h : 3 ≤ n) : WebN n (ringL n) := by
  unfold ringL
  refine ⟨fun l hl => ?_, ?_⟩
  · rcases List.mem_append.mp hl with hl | hl
    · obtain ⟨x, hx, rfl⟩ := List.mem_map.mp hl
      have := List.mem_range.mp hx
      simp only
      omega
    · rw [List.mem_singleton.mp hl]
      simp only
      omega
  · rw [List.nodup_append]
    refine ⟨?_, by simp, fun a ha b hb e => ?_⟩
    · unfold List.Nodup
      rw [List.pairwise_map]
      refine (List.nodup_range (n := n - 1)).imp fun hab e => hab ?_
      injection e
    · obtain ⟨x, hx, rfl⟩ := List.mem_map.mp ha
      rw [List.mem_singleton.mp hb] at e
      injection e with e1 e2
      omega
theorem b_law_round (T : Txt K mg) (c__law_renamed : Cal P w K mg base 3 "_law_renamed" spRen []) : BodyOk P w K mg base 3 "_law_round" s__law_round N__law_round (spWebR 3 900) := by
  intro f cdv A outer s0 H vs Q E hr h
  obtain ⟨s, n, rfl, hs, h3, h40, q⟩ := h
  refine ⟨_, (pss_one (ps_ret (pe_c c__law_renamed hr (by decide) (by rfl) (pa_cons (pv 0) (pa_cons (pv 1) (pa_cons (pe_op op_cat (pe_lc (own := [("_law_x", 2)]) (by rfl) sc__law_round.nd (pi_range1 (by rfl) T.b_range (pa_cons (pe_op op_sub (pv 1) pe_int) pa_nil)) (blkOk_by (N := N__law_round) (sc := defScope s__law_round) (own := [("_law_x", 2)]) (by decide +kernel)) (fun _ _ _ _ _ => by exact (pg_name (i := 2) sc__law_round.nd rfl (Or.inl rfl))) (fun _ _ _ _ _ => by exact pts_nil) (fun _ _ _ _ _ => by exact (pe_tup (pa_cons (pv 2) (pa_cons (pe_op op_add (pv 2) pe_int) pa_nil))))) (pe_lst (pa_cons (pe_tup (pa_cons pe_int (pa_cons (pe_op op_sub (pv 1) pe_int) pa_nil))) pa_nil))) pa_nil)))))), ?_⟩
  refine ⟨_, rfl, _, rfl, _, rfl, _, 1, rfl, rfl, ((n - 1 : Nat) : Int), by show [V.int ((n : Int) - 1)] = _; rw [show (n : Int) - 1 = ((n - 1 : Nat) : Int) by omega], (small62 (by omega)).1, (small62 (by omega)).2, fun D nD => ?_⟩
  refine lc_range0 (n := n - 1) (fun i H' => Same H H' ∧ ∃ ys, H' D = some (.lst ys) ∧ TpAll H' ys ((((List.range (n - 1)).map (fun x => (x, x + 1))).take i).map dP)) ⟨same_new nD, [], upd_same, .nil⟩ ?_ ?_
  · rintro i H1 hi ⟨sm, ys, hys, hall⟩
    refine ⟨rfl, yes (itT rfl ⟨_, rfl, _, rfl, _, 1, rfl, rfl, sz100k (by show 2 ≤ 100000; decide), fun t nt => ?_⟩)⟩
    have s3 := same_new (o := .tup [vN i, vN (i + 1)]) nt
    have hyl : ys.length ≤ 1000 := by
      rw [hall.length, List.length_map, List.length_take, List.length_map, List.length_range]
      omega
    refine ⟨ys, s3 _ _ hys, sz100kl (by omega), same_mut (sm.trans s3) nD, _, upd_same, ?_⟩
    have tkE := ts_lst (o := .lst (ys ++ [.ref t])) (s3 _ _ hys)
    have e : (((List.range (n - 1)).map (fun x => (x, x + 1))).take (i + 1)) = (((List.range (n - 1)).map (fun x => (x, x + 1))).take i) ++ [(i, i + 1)] := by
      rw [List.take_add_one, List.getElem?_map, List.getElem?_range hi]
      rfl
    rw [e, List.map_append]
    exact ((hall.mono (same_ts s3)).mono tkE).app (.one (Tp.mono tkE (mkP upd_same)))
  · rintro H1 ⟨sm, ys, hys, hall⟩
    rw [List.take_of_length_le (by simp)] at hall
    have hyl : ys.length ≤ 1000 := by
      rw [hall.length, List.length_map, List.length_map, List.length_range]
      omega
    refine ⟨_, rfl, _, 1, rfl, rfl, sz100k (by show 2 ≤ 100000; decide), fun t nt => ?_⟩
    dsimp only
    rw [show (n : Int) - 1 = ((n - 1 : Nat) : Int) by omega]
    have s3 := same_new (o := .tup [.int 0, vN (n - 1)]) nt
    refine ⟨sz100k (by show 1 ≤ 100000; decide), fun d nd => ?_⟩
    have s4 := s3.trans (same_new (o := .lst [.ref t]) nd)
    refine ⟨D, d, _, _, rfl, rfl, s4 _ _ hys, upd_same, sz100k (by show ys.length + 1 ≤ 100000; omega), fun c nc => ?_⟩
    have sc := same_new (o := .lst (ys ++ [.ref t])) nc
    have s5 := sm.trans (s4.trans sc)
    have g5 := SF.same hs s5
    refine ⟨s, c, n, ringL n, rfl, g5.src, (hs.same (sm.trans s4)).ne nc, ⟨_, upd_same, ?_⟩, ring_web h3, by omega, ?_, fun H2 p l' ls' fd sf2 hp nls' hL' wl _ _ => ?_⟩
    · unfold ringL
      rw [List.map_append]
      refine (hall.mono (same_ts (s4.trans sc))).app (.one (mkP ?_))
      exact sc _ _ (same_new nd _ _ upd_same)
    · unfold ringL
      rw [List.length_append, List.length_map, List.length_range]
      show n - 1 + 1 ≤ 1000
      omega
    · exact q _ p l' n ls' (g5.trans sf2) hp nls' hL' wl (by omega) (Nat.le_refl _)
/-! ### any web -/
structure AnyL (b a : Nat) (ls : List (Nat × Nat)) : Prop where
  lk : ∀ l ∈ ls, l.1 < l.2 ∧ (l.2 < b ∨ (l.2 = b ∧ l.1 < a))
  nd : ls.Nodup
theorem AnyL.snoc {b a : Nat} {ls : List (Nat × Nat)} (h : AnyL b a ls) (hab : a < b) : AnyL b (a + 1) (ls ++ [(a, b)]) := by
  refine ⟨fun l hl => ?_, ?_⟩
  · rcases List.mem_append.mp hl with hl | hl
    · have := h.lk l hl
      omega
    · rw [List.mem_singleton.mp hl]
      exact ⟨hab, .inr ⟨rfl, Nat.lt_succ_self a⟩⟩
  · rw [List.nodup_append]
    refine ⟨h.nd, by simp, fun p hp q hq e => ?_⟩
    rw [List.mem_singleton.mp hq] at e
    have := h.lk p hp
    rw [e] at this
    simp only at this
    omega
theorem AnyL.skip {b a : Nat} {ls : List (Nat × Nat)} (h : AnyL b a ls) : AnyL b (a + 1) ls := ⟨fun l hl => (by have := h.lk l hl; omega), h.nd⟩
theorem AnyL.next {b : Nat} {ls : List (Nat × Nat)} (h : AnyL b b ls) : AnyL (b + 1) 0 ls := ⟨fun l hl => (by have := h.lk l hl; omega), h.nd⟩
theorem AnyL.len {b a : Nat} {ls : List (Nat × Nat)} (h : AnyL b a ls) : ls.length ≤ (b + 1) * (b + 1) := by
  have hs : (ls.mergeSort fun a b => decide (a.1 < b.1) || (decide (a.1 = b.1) && decide (a.2 ≤ b.2))).Perm ls := List.mergeSort_perm _ _
  have hp := List.pairwise_mergeSort (le := fun a b : Nat × Nat => decide (a.1 < b.1) || (decide (a.1 = b.1) && decide (a.2 ≤ b.2))) (fun a b c h1 h2 => by simp at *; omega) (fun a b => by simp; omega) ls
  have ha := asc_of (ls := ls.mergeSort fun a b => decide (a.1 < b.1) || (decide (a.1 = b.1) && decide (a.2 ≤ b.2))) (hp.imp fun h => by simp at h; unfold leP; omega) (hs.nodup_iff.mpr h.nd)
  rw [← hs.length_eq]
  exact asc_len _ (b + 1) ha fun p hp => (by have := h.lk p (hs.mem_iff.mp hp); omega)
theorem b_law_any (T : Txt K mg) (c__law_take : Cal P w K mg base 1 "_law_take" spTake []) : BodyOk P w K mg base 1 "_law_any" s__law_any N__law_any (spWebR 1 100) := by
  intro f cdv A outer s0 H vs Q E hr h
  obtain ⟨s, n, rfl, hs, h1, h18, q⟩ := h
  refine ⟨_, (pss_cons (ps_set (i := 2) sc__law_any.nd rfl (Or.inl rfl) (pe_lst pa_nil))
 (pss_cons (ps_for PassesOwn.never rfl (pi_range1 (by rfl) T.b_range (pa_cons (pv 1) pa_nil)) (pg_name (i := 3) sc__law_any.nd rfl (Or.inl rfl))
 (pss_one (ps_for PassesOwn.never rfl (pi_range1 (by rfl) T.b_range (pa_cons (pv 3) pa_nil)) (pg_name (i := 4) sc__law_any.nd rfl (Or.inl rfl))
 (pss_one (ps_if (pt_cmpR op_lt (pe_c c__law_take hr (by decide) (by rfl) (pa_cons (pv 0) (pa_cons pe_int pa_nil))) pe_int (nomark _))
 (pss_one (ps_expr (pe_bm PySem.F.plainAttrs_list PySem.F.slot_list_append PySem.F.type_list_append mt_append (pv 2) (pa_cons (pe_tup (pa_cons (pv 4) (pa_cons (pv 3) pa_nil))) pa_nil))))
 pss_nil)))))
 (pss_one (ps_ret (pe_tup (pa_cons (pv 1) (pa_cons (pe_callB cr_sortedPO (by rfl) T.b_sorted (by decide +kernel) (pa_cons (pv 2) pa_nil)) pa_nil))))))), ?_⟩
  refine ⟨sz100k (by show 0 ≤ 100000; decide), fun D nD => ?_⟩
  have nDs := hs.ne nD
  have gD := SF.same hs (same_new (o := .lst []) nD)
  have bd : ∀ b, b < n → (b + 1) * (b + 1) ≤ 10000 := fun b hb => Nat.mul_le_mul (show b + 1 ≤ 100 by omega) (show b + 1 ≤ 100 by omega)
  refine ⟨_, rfl, _, rfl, (small62 (by omega)).1, (small62 (by omega)).2, for_range0 (n := n) (fun b σ H' => SF s H H' ∧ ∃ ls x3 x4, LsAt H' D ls ∧ AnyL b 0 ls ∧ σ = [some (.ref s), some (vN n), some (.ref D), x3, x4]) ⟨gD, [], none, none, ⟨[], upd_same, .nil⟩, ⟨by simp, by simp⟩, rfl⟩ ?_ ?_⟩
  · rintro b σ H1 hb ⟨sf1, ls, x3, x4, hL, an, rfl⟩
    refine ⟨_, rfl, _, rfl, (small62 (by omega)).1, (small62 (by omega)).2, for_range0 (n := b) (fun a σ H' => SF s H H' ∧ ∃ ls x4, LsAt H' D ls ∧ AnyL b a ls ∧ σ = [some (.ref s), some (vN n), some (.ref D), some (vN b), x4]) ⟨sf1, ls, x4, hL, an, rfl⟩ ?_ ?_⟩
    · rintro a σ H2 ha ⟨sf2, ls, x4, hL, an, rfl⟩
      refine ⟨_, rfl, s, 5, rfl, sf2.src, by omega, by omega, fun H3 r sf3 hr3 => ⟨_, 2, rfl, rfl, _, rfl, ?_⟩⟩
      have g3 := sf2.trans sf3
      obtain ⟨xs, hl3, hall3⟩ := hL.sf sf3 sf2.src nDs
      rcases Bool.eq_false_or_eq_true (decide ((r : Int) < 2)) with e | e
      · refine itT e ⟨_, rfl, .inl ⟨rfl, _, SqL.of hl3⟩, _, rfl, _, rfl, sz100k (by show 2 ≤ 100000; decide), fun t nt => ?_⟩
        have s4 := same_new (o := .tup [vN a, vN b]) nt
        have al := an.len
        have := bd b hb
        refine ⟨D, xs, _, rfl, rfl, s4 _ _ hl3, sz100kl (by rw [hall3.length, List.length_map]; omega), ?_⟩
        have tkE := ts_lst (o := .lst (xs ++ [.ref t])) (s4 _ _ hl3)
        refine ⟨(g3.trans (SF.same g3.src s4)).put nD nDs, ls ++ [(a, b)], _, ⟨_, upd_same, ?_⟩, an.snoc ha, rfl⟩
        rw [List.map_append]
        exact ((hall3.mono (same_ts s4)).mono tkE).app (.one (Tp.mono tkE (mkP upd_same)))
      · exact itF e ⟨g3, ls, _, ⟨xs, hl3, hall3⟩, an.skip, rfl⟩
    · rintro σ H2 ⟨sf2, ls, x4, hL, an, rfl⟩
      exact ⟨sf2, ls, _, _, hL, an.next, rfl⟩
  · rintro σ H1 ⟨sf1, ls, x3, x4, hL, an, rfl⟩
    refine ⟨_, rfl, _, rfl, ?_⟩
    dsimp only [tNil]
    refine srt_pairs hL fun z ls' nz pm srt ys hys => ?_
    have s3 := same_new (o := .lst ys) nz
    refine ⟨sz100k (by show 2 ≤ 100000; decide), fun u nu => ?_⟩
    have s4 := s3.trans (same_new (o := .tup [vN n, .ref z]) nu)
    exact q _ u z n ls' (sf1.trans (SF.same sf1.src s4)) upd_same (sf1.src.ne nz) ⟨ys, same_new nu _ _ upd_same, hys.mono (same_ts s4)⟩ (web_of ⟨fun l hl => (by have := an.lk l hl; omega), an.nd⟩ pm srt) h1 (Nat.le_refl _)
/-! ### a small web -/
theorem b_law_small_web (T : Txt K mg) (c__law_take : Cal P w K mg base 1 "_law_take" spTake []) (c__law_stout : Cal P w K mg base 4 "_law_stout" spStout []) (c__law_round : Cal P w K mg base 4 "_law_round" (spWebR 3 900) []) (c__law_any : Cal P w K mg base 2 "_law_any" (spWebR 1 100) []) :
    BodyOk P w K mg base 4 "_law_small_web" s__law_small_web N__law_small_web (spWebR 1 12) := by
  intro f cdv A outer s0 H vs Q E hr h
  obtain ⟨s, n, rfl, hs, h1, h12, q⟩ := h
  refine ⟨_, (pss_cons (ps_set (i := 2) sc__law_small_web.nd rfl (Or.inl rfl) (pe_c c__law_take hr (by decide) (by rfl) (pa_cons (pv 0) (pa_cons pe_int pa_nil))))
 (pss_cons (ps_if (PW.pt (pw_and (pt_cmpR op_eq (pv 2) pe_int (nomark _)) (pw_and1 (pt_cmpR op_ge (pv 1) pe_int (nomark _)))))
 (pss_one (ps_ret (pe_c c__law_stout hr (by decide) (by rfl) (pa_cons (pv 0) (pa_cons (pv 1) (pa_cons pe_int pa_nil))))))
 pss_nil)
 (pss_cons (ps_if (PW.pt (pw_and (pt_cmpR op_eq (pv 2) pe_int (nomark _)) (pw_and1 (pt_cmpR op_ge (pv 1) pe_int (nomark _)))))
 (pss_one (ps_ret (pe_c c__law_round hr (by decide) (by rfl) (pa_cons (pv 0) (pa_cons (pv 1) pa_nil)))))
 pss_nil)
 (pss_one (ps_ret (pe_c c__law_any hr (by decide) (by rfl) (pa_cons (pv 0) (pa_cons (pv 1) pa_nil)))))))), ?_⟩
  refine ⟨_, rfl, s, 3, rfl, hs, by omega, by omega, fun H1 r sf1 hr1 => ?_⟩
  refine ⟨_, rfl, rfl, _, rfl, ?_⟩
  have any1 : ∀ H2, SF s H H2 → spWebR 1 100 [.ref s, vN n] H2 Q E := fun H2 g => ⟨s, n, rfl, g.src, h1, by omega, fun H' p l n' ls sf hp nl hL wl a b => q H' p l n' ls (g.trans sf) hp nl hL wl a b⟩
  rcases Bool.eq_false_or_eq_true (decide (vN r = V.int 0)) with e | e
  · refine itT e ⟨_, rfl, _, 4, rfl, rfl, _, rfl, ?_⟩
    rcases Bool.eq_false_or_eq_true (decide ((n : Int) ≥ 4)) with e4 | e4
    · refine itT e4 ⟨_, rfl, _, rfl, s, n, 3, rfl, sf1.src, by have := of_decide_eq_true e4; omega, h12, fun H2 p l n' ls sf hp nl hL wl a b => q H2 p l n' ls (sf1.trans sf) hp nl hL wl (by omega) b⟩
    · refine itF e4 ⟨_, rfl, rfl, _, rfl, ?_⟩
      rcases Bool.eq_false_or_eq_true (decide (vN r = V.int 1)) with e5 | e5
      · refine itT e5 ⟨_, rfl, _, 3, rfl, rfl, _, rfl, ?_⟩
        rcases Bool.eq_false_or_eq_true (decide ((n : Int) ≥ 3)) with e3 | e3
        · exact itT e3 ⟨_, rfl, _, rfl, s, n, rfl, sf1.src, by have := of_decide_eq_true e3; omega, by omega, fun H2 p l n' ls sf hp nl hL wl a b => q H2 p l n' ls (sf1.trans sf) hp nl hL wl a b⟩
        · exact itF e3 ⟨_, rfl, _, rfl, any1 _ sf1⟩
      · exact itF e5 ⟨_, rfl, _, rfl, any1 _ sf1⟩
  · refine itF e ⟨_, rfl, rfl, _, rfl, ?_⟩
    rcases Bool.eq_false_or_eq_true (decide (vN r = V.int 1)) with e5 | e5
    · refine itT e5 ⟨_, rfl, _, 3, rfl, rfl, _, rfl, ?_⟩
      rcases Bool.eq_false_or_eq_true (decide ((n : Int) ≥ 3)) with e3 | e3
      · exact itT e3 ⟨_, rfl, _, rfl, s, n, rfl, sf1.src, by have := of_decide_eq_true e3; omega, by omega, fun H2 p l n' ls sf hp nl hL wl a b => q H2 p l n' ls (sf1.trans sf) hp nl hL wl a b⟩
      · exact itF e3 ⟨_, rfl, _, rfl, any1 _ sf1⟩
    · exact itF e5 ⟨_, rfl, _, rfl, any1 _ sf1⟩
end
end PF
namespace PF
open PySem PySem.Spec PyProof.Rows L2
open C8 (Cal Mak Met pe_c pe_mk pe_gc pe_mt pe_mt0)
open PFM hiding ltP
theorem at0_get {fl : List Nat} {x : Nat} (h : x < fl.length) : fl[x]? = some (at0 fl x) := by
  unfold at0
  rw [List.getD_eq_getElem?_getD, List.getElem?_eq_getElem h]
  rfl
theorem for_rangeB {a b : Int} {lo n : Nat} {g : TG} {tb : TS} {D : Ends} {σ : Stt} {H : Hp} (ea : a = (lo : Int)) (eb : (b - a).toNat = n) (Pv : Nat → Stt → Hp → Prop) (h0 : Pv 0 σ H)
    (hs : ∀ i σ H, i < n → Pv i σ H → g (vN (lo + i)) σ H fun σ2 H2 => tb { D with nx := Pv (i + 1), ct := Pv (i + 1), bk := D.nx } σ2 H2) (hd : ∀ σ H, Pv n σ H → D.nx σ H) :
    ∃ W : Nat → Nat → Stt → Hp → Prop, (∃ m, W 0 m σ H) ∧ ∀ i m σ H, W i m σ H →
      ((Itr a (b - a).toNat).stop i H ∧ D.nx σ H) ∨ ((Itr a (b - a).toNat).go i H ∧ ∃ N : Stt → Hp → Prop, (∀ σ' H', N σ' H' → ∃ m', m' < m ∧ W (i + 1) m' σ' H') ∧ ∀ x H', (Itr a (b - a).toNat).yld i H x H' → g x σ H' fun σ2 H2 => tb { D with nx := N, ct := N, bk := D.nx } σ2 H2) := by
  rw [eb]
  subst ea
  exact for_rangeN Pv h0 hs hd
section
variable {P : Program} {w : World} {K : PySem.W.Frag} {mg : Str → Option Value} {base : Heap}
/-! ### table -/
def spTab : Sp := fun vs H Q _ => ∃ (s : Addr) (n : Nat), vs = [.ref s, vN n] ∧ Src H s ∧ 2 ≤ n ∧ n ≤ 6 ∧ ∀ (H' : Hp) (v : V) (tb : List (Nat × Nat)), SF s H H' → Tp H' v (dLs tb) → TabOK n tb → Q v H'
theorem tabn_len {n : Nat} {ls : List (Nat × Nat)} (h : TabN n ls) : ls.length ≤ n * n := by
  have hs : (ls.mergeSort fun a b => decide (a.1 < b.1) || (decide (a.1 = b.1) && decide (a.2 ≤ b.2))).Perm ls := List.mergeSort_perm _ _
  have hp := List.pairwise_mergeSort (le := fun a b : Nat × Nat => decide (a.1 < b.1) || (decide (a.1 = b.1) && decide (a.2 ≤ b.2))) (fun a b c h1 h2 => by simp at *; omega) (fun a b => by simp; omega) ls
  have ha := asc_of (ls := ls.mergeSort fun a b => decide (a.1 < b.1) || (decide (a.1 = b.1) && decide (a.2 ≤ b.2))) (hp.imp fun h => by simp at h; unfold leP; omega) (hs.nodup_iff.mpr h.nd)
  rw [← hs.length_eq]
  exact asc_len _ n ha fun p hp => (let ⟨a, b⟩ := h.lk p (hs.mem_iff.mp hp); ⟨by omega, b⟩)
theorem b_law_table (T : Txt K mg) (c__law_take : Cal P w K mg base 1 "_law_take" spTake []) (c__law_one : Cal P w K mg base 2 "_law_one" spOne []) (c__law_shuffled : Cal P w K mg base 2 "_law_shuffled" spShuf []) (c__law_link : Cal P w K mg base 1 "_law_link" spLink []) :
    BodyOk P w K mg base 2 "_law_table" s__law_table N__law_table spTab := by
  intro f cdv A outer s0 H vs Q E hr h
  obtain ⟨s, n, rfl, hs, h2, h6, q⟩ := h
  refine ⟨_, (pss_cons (ps_par (i := 2) (j := 3) (by rfl) sc__law_table.nd rfl rfl (by decide) rfl rfl (pa_cons (pe_c c__law_shuffled hr (by decide) (by rfl) (pa_cons (pv 0) (pa_cons (pv 1) pa_nil))) (pa_cons (pe_lst pa_nil) pa_nil)) (by rfl))
 (pss_cons (ps_for PassesOwn.never rfl (pi_range2 (by rfl) T.b_range (pa_cons pe_int (pa_cons (pv 1) pa_nil))) (pg_name (i := 4) sc__law_table.nd rfl (Or.inl rfl))
 (pss_one (ps_expr (pe_bm PySem.F.plainAttrs_list PySem.F.slot_list_append PySem.F.type_list_append mt_append (pv 3) (pa_cons (pe_c c__law_link hr (by decide) (by rfl) (pa_cons (pe_ix ix_list (pv 2) (pv 4) (fun _ _ => rfl)) (pa_cons (pe_ix ix_list (pv 2) (pe_c c__law_take hr (by decide) (by rfl) (pa_cons (pv 0) (pa_cons (pv 4) pa_nil))) (fun _ _ => rfl)) pa_nil))) pa_nil)))))
 (pss_cons (ps_for PassesOwn.never rfl (pi_range1 (by rfl) T.b_range (pa_cons (pe_c c__law_one hr (by decide) (by rfl) (pa_cons (pv 0) (pa_cons (pe_lst (pa_cons pe_int (pa_cons pe_int (pa_cons pe_int (pa_cons pe_int (pa_cons pe_int pa_nil)))))) pa_nil))) pa_nil)) (pg_name (i := 5) sc__law_table.nd rfl (Or.inl rfl))
 (pss_cons (ps_par (i := 6) (j := 4) (by rfl) sc__law_table.nd rfl rfl (by decide) rfl rfl (pa_cons (pe_c c__law_take hr (by decide) (by rfl) (pa_cons (pv 0) (pa_cons (pv 1) pa_nil))) (pa_cons (pe_c c__law_take hr (by decide) (by rfl) (pa_cons (pv 0) (pa_cons (pv 1) pa_nil))) pa_nil)) (by rfl))
 (pss_one (ps_if (PW.pt (pw_and (pt_cmpR op_lt (pv 6) (pv 4) (nomark _)) (pw_and1 (pt_cmpR (op_notInD (hu65 hr)) (pe_tup (pa_cons (pv 6) (pa_cons (pv 4) pa_nil))) (pv 3) (by with_unfolding_all rfl)))))
 (pss_one (ps_expr (pe_bm PySem.F.plainAttrs_list PySem.F.slot_list_append PySem.F.type_list_append mt_append (pv 3) (pa_cons (pe_tup (pa_cons (pv 6) (pa_cons (pv 4) pa_nil))) pa_nil))))
 pss_nil))))
 (pss_one (ps_ret (pe_tupleOf (by rfl) T.b_tuple (pe_callB cr_sortedPO (by rfl) T.b_sorted (by decide +kernel) (pa_cons (pv 3) pa_nil)))))))), ?_⟩
  refine ⟨_, rfl, _, rfl, s, n, rfl, hs, by omega, fun H1 p fd sf1 np nps hp pm => ?_⟩
  have fl : fd.length = n := by rw [pm.length_eq, List.length_range]
  have n36 : n * n ≤ 36 := Nat.mul_le_mul h6 h6
  refine ⟨sz100k (by show 0 ≤ 100000; decide), fun D nD => ⟨_, _, rfl, ?_⟩⟩
  have nDs := sf1.nes nD
  have nD0 := sf1.free nD
  have g1 := sf1.new (o := .lst []) nD
  have nDp : D ≠ p := fun e => by
    rw [e, hp] at nD
    cases nD
  refine ⟨_, rfl, (1 : Int), (n : Int), rfl, ⟨by omega, by omega, by omega, by omega⟩, for_rangeB (lo := 1) (n := n - 1) rfl (by omega) (fun i σ H' => SF s H H' ∧ ∃ ps x4, H' p = some (.lst (fd.map vN)) ∧ LsAt H' D ps ∧ Grow n fd (1 + i) ps ∧ σ = [some (.ref s), some (vN n), some (.ref p), some (.ref D), x4, none, none])
    ⟨g1, [], none, same_new nD _ _ hp, ⟨[], upd_same, .nil⟩, Grow.first fd, rfl⟩ ?_ ?_⟩
  · rintro i σ H2 hi ⟨sf2, ps, x4, hp2, ⟨xs, hD2, hall⟩, gr, rfl⟩
    refine ⟨_, rfl, .inl ⟨rfl, _, SqL.of hD2⟩, ?_⟩
    refine ⟨_, rfl, _, rfl, p, _, _, vN (at0 fd (1 + i)), rfl, rfl, SqL.of hp2, at_of rfl (vN_get (by omega)), ?_⟩
    refine ⟨_, rfl, _, rfl, _, rfl, s, 1 + i, rfl, sf2.src, by omega, by omega, fun H3 r sf3 hr3 => ?_⟩
    have hp3 := sf3.at hp2 nps
    have hD3 := sf3.at hD2 nDs
    have hall3 := hall.mono (sf3.tk sf2.src)
    have g3 := sf2.trans sf3
    refine ⟨p, _, _, vN (at0 fd r), rfl, rfl, SqL.of hp3, at_of rfl (vN_get (by omega)), _, _, rfl, fun t nt => ?_⟩
    have s4 := same_new (o := .tup [vN (min (at0 fd (1 + i)) (at0 fd r)), vN (max (at0 fd (1 + i)) (at0 fd r))]) nt
    have hpl := tabn_len gr.toTabN
    refine ⟨D, xs, _, rfl, rfl, s4 _ _ hD3, sz100kl (by rw [hall.length, List.length_map]; omega), ?_⟩
    have tkE := ts_lst (o := .lst (xs ++ [.ref t])) (s4 _ _ hD3)
    refine ⟨(g3.trans (SF.same g3.src s4)).put nD0 nDs, ps ++ [(min (at0 fd (1 + i)) (at0 fd r), max (at0 fd (1 + i)) (at0 fd r))], _, ?_, ⟨_, upd_same, ?_⟩, gr.snoc pm (by omega) hr3, rfl⟩
    · rw [upd_ne nDp.symm]
      exact s4 _ _ hp3
    · rw [List.map_append]
      exact ((hall3.mono (same_ts s4)).mono tkE).app (.one (Tp.mono tkE (mkP upd_same)))
  · rintro σ H2 ⟨sf2, ps, x4, hp2, hL2, gr, rfl⟩
    rw [show 1 + (n - 1) = n by omega] at gr
    have jn := gr.joined pm (by omega)
    refine ⟨_, rfl, sz100k (by show 5 ≤ 100000; decide), fun d nd => ?_⟩
    have g3 := sf2.new (o := .lst [.int 0, .int 1, .int 2, .int 3, .int 11]) nd
    have hL3 := hL2.same (same_new (o := .lst [.int 0, .int 1, .int 2, .int 3, .int 11]) nd)
    refine ⟨s, d, _, rfl, g3.src, upd_same, sf2.nes nd, by show 1 ≤ 5; omega, by show 5 ≤ 1000000; omega, fun H4 v sf4 hv => ?_⟩
    have hL4 := hL3.sf sf4 g3.src nDs
    have g4 := g3.trans sf4
    obtain ⟨t, rfl, ht⟩ : ∃ t : Nat, v = vN t ∧ t ≤ 11 := by
      simp only [List.mem_cons, List.not_mem_nil, or_false] at hv
      rcases hv with rfl | rfl | rfl | rfl | rfl
      · exact ⟨0, rfl, by omega⟩
      · exact ⟨1, rfl, by omega⟩
      · exact ⟨2, rfl, by omega⟩
      · exact ⟨3, rfl, by omega⟩
      · exact ⟨11, rfl, by omega⟩
    refine ⟨_, rfl, (small62 (by omega)).1, (small62 (by omega)).2, for_range0 (n := t) (fun i σ H' => SF s H H' ∧ ∃ ps x4 x5 x6, LsAt H' D ps ∧ TabN n ps ∧ Joined n ps ∧ σ = [some (.ref s), some (vN n), some (.ref p), some (.ref D), x4, x5, x6])
      ⟨g4, ps, x4, none, none, hL4, gr.toTabN, jn, rfl⟩ ?_ ?_⟩
    · rintro i σ H5 hi ⟨sf5, ps, x4, x5, x6, hL5, tn, jn, rfl⟩
      refine ⟨_, rfl, _, rfl, s, n, rfl, sf5.src, by omega, by omega, fun H6 a sf6 ha => ?_⟩
      have g6 := sf5.trans sf6
      refine ⟨_, rfl, _, rfl, s, n, rfl, g6.src, by omega, by omega, fun H7 b sf7 hb => ?_⟩
      have g7 := g6.trans sf7
      have hL7 := (hL5.sf sf6 sf5.src nDs).sf sf7 g6.src nDs
      refine ⟨_, _, rfl, _, rfl, _, rfl, _, _, rfl, rfl, _, rfl, ?_⟩
      rcases Bool.eq_false_or_eq_true (decide ((a : Int) < (b : Int))) with e | e
      · have hab := of_decide_eq_true e
        refine itT e ⟨_, rfl, _, rfl, sz100k (by show 2 ≤ 100000; decide), fun z nz => ?_⟩
        have s8 := same_new (o := .tup [vN a, vN b]) nz
        have g8 := g7.trans (SF.same g7.src s8)
        obtain ⟨xs, hD8, hall8⟩ := hL7.same s8
        refine ⟨_, rfl, dP (a, b), ps.map dP, (mkP upd_same).dp, .lst (SqL.of hD8) hall8.dp, shaped_dP _, shaped_lPs _, _, congrArg (fun z => V.bl (!z)) (any_dP ps (a, b)), ?_⟩
        by_cases e2 : (a, b) ∈ ps
        · exact itF (by rw [decide_eq_true e2]; rfl) ⟨g8, ps, _, _, _, ⟨xs, hD8, hall8⟩, tn, jn, rfl⟩
        · refine itT (by rw [decide_eq_false e2]; rfl) ⟨_, rfl, .inl ⟨rfl, _, SqL.of hD8⟩, _, rfl, _, rfl, sz100k (by show 2 ≤ 100000; decide), fun y ny => ?_⟩
          have s9 := same_new (o := .tup [vN a, vN b]) ny
          have hpl := tabn_len tn
          refine ⟨D, xs, _, rfl, rfl, s9 _ _ hD8, sz100kl (by rw [hall8.length, List.length_map]; omega), ?_⟩
          have tkE := ts_lst (o := .lst (xs ++ [.ref y])) (s9 _ _ hD8)
          refine ⟨(g8.trans (SF.same g8.src s9)).put nD0 nDs, ps ++ [(a, b)], _, _, _, ⟨_, upd_same, ?_⟩, tn.snoc (by omega) hb e2, jn.mono fun p hp => by simp [hp], rfl⟩
          rw [List.map_append]
          exact ((hall8.mono (same_ts s9)).mono tkE).app (.one (Tp.mono tkE (mkP upd_same)))
      · exact itF e ⟨g7, ps, _, _, _, hL7, tn, jn, rfl⟩
    · rintro σ H5 ⟨sf5, ps, x4, x5, x6, hL5, tn, jn, rfl⟩
      refine ⟨_, rfl, ?_⟩
      dsimp only [tNil]
      refine srt_pairs hL5 fun z ls' nz pm2 srt ys hys => ?_
      have s6 := same_new (o := .lst ys) nz
      refine .inl ⟨z, ys, rfl, SqL.of upd_same, fun u nu => ?_⟩
      have s7 := same_new (o := .tup ys) nu
      have nd' := pm2.nodup_iff.mpr tn.nd
      refine q _ _ ls' (sf5.trans (SF.same sf5.src (s6.trans s7))) (.tup upd_same (hys.mono (same_ts (s6.trans s7)))) ⟨h2, h6, fun p hp => tn.lk p (pm2.mem_iff.mp hp), asc_of srt nd', jn.mono fun p hp => pm2.mem_iff.mpr hp⟩
/-! ### floor -/
def spFlo : Sp := fun vs H Q _ => ∃ (s : Addr) (n q : Nat), vs = [.ref s, vN n, vN q] ∧ Src H s ∧ n ≤ 1000 ∧ 1 ≤ q ∧ q ≤ 1000 ∧ ∀ (H' : Hp) (v : V) (fl : List Nat), SF s H H' → Tp H' v (dF fl) → fl.length = n → (∀ c ∈ fl, c < q) → Q v H'
theorem b_law_floor (T : Txt K mg) (c__law_take : Cal P w K mg base 1 "_law_take" spTake []) (c__law_one : Cal P w K mg base 2 "_law_one" spOne []) : BodyOk P w K mg base 2 "_law_floor" s__law_floor N__law_floor spFlo := by
  intro f cdv A outer s0 H vs Q E hr h
  obtain ⟨s, n, k, rfl, hs, hn, h1, hk, q⟩ := h
  refine ⟨_, (pss_cons (ps_set (i := 3) sc__law_floor.nd rfl (Or.inr rfl) (pe_c c__law_take hr (by decide) (by rfl) (pa_cons (pv 0) (pa_cons (pv 2) pa_nil))))
 (pss_cons (ps_if (pt_cmpR op_eq (pe_c c__law_take hr (by decide) (by rfl) (pa_cons (pv 0) (pa_cons pe_int pa_nil))) pe_int (nomark _))
 (pss_one (ps_ret (pe_tupleOf (by rfl) T.b_tuple (pe_lc (own := [("_law_x", 4)]) (by rfl) sc__law_floor.nd (pi_range1 (by rfl) T.b_range (pa_cons (pv 1) pa_nil)) (blkOk_by (N := N__law_floor) (sc := defScope s__law_floor) (own := [("_law_x", 4)]) (by decide +kernel)) (fun _ _ _ _ _ => by exact (pg_name (i := 4) sc__law_floor.nd rfl (Or.inl rfl))) (fun _ _ _ _ _ => by exact pts_nil) (fun _ _ _ _ _ => by exact (pe_c c__law_take hr (by decide) (by rfl) (pa_cons (pv 0) (pa_cons (pv 2) pa_nil))))))))
 pss_nil)
 (pss_one (ps_ret (pe_tupleOf (by rfl) T.b_tuple (pe_lc (own := [("_law_x", 4)]) (by rfl) sc__law_floor.nd (pi_range1 (by rfl) T.b_range (pa_cons (pv 1) pa_nil)) (blkOk_by (N := N__law_floor) (sc := defScope s__law_floor) (own := [("_law_x", 4)]) (by decide +kernel)) (fun _ _ _ _ _ => by exact (pg_name (i := 4) sc__law_floor.nd rfl (Or.inl rfl))) (fun _ _ _ _ _ => by exact pts_nil) (fun _ _ _ _ _ => by exact (pe_c c__law_one hr (by decide) (by rfl) (pa_cons (pv 0) (pa_cons (pe_lst (pa_cons (pv 3) (pa_cons (pv 3) (pa_cons (pe_c c__law_take hr (by decide) (by rfl) (pa_cons (pv 0) (pa_cons (pv 2) pa_nil))) pa_nil)))) pa_nil)))))))))), ?_⟩
  refine ⟨_, rfl, _, rfl, s, k, rfl, hs, by omega, by omega, fun H1 m sf1 hm => ?_⟩
  refine ⟨_, rfl, s, 2, rfl, sf1.src, by omega, by omega, fun H2 r sf2 hr2 => ⟨rfl, _, rfl, ?_⟩⟩
  have g2 := sf1.trans sf2
  have fin : ∀ D H3, SF s H H3 → H2 D = none → (∃ fl : List Nat, H3 D = some (.lst (fl.map vN)) ∧ fl.length = n ∧ ∀ c ∈ fl, c < k) → kTup K (.ref D) H3 Q := fun D H3 g3 nD ⟨fl, hD, hl, hc⟩ => by
    refine .inl ⟨D, _, rfl, SqL.of hD, fun u nu => ?_⟩
    exact q _ _ fl (g3.trans (SF.same g3.src (same_new nu))) (mkF upd_same) hl hc
  rcases Bool.eq_false_or_eq_true (decide (vN r = V.int 0)) with e | e
  · refine itT e ⟨_, rfl, _, rfl, (small62 (by omega)).1, (small62 (by omega)).2, fun D nD => ?_⟩
    have nDs := g2.nes nD
    have nD0 := g2.free nD
    refine lc_range0 (n := n) (fun i H' => SF s H H' ∧ ∃ fl : List Nat, H' D = some (.lst (fl.map vN)) ∧ fl.length = i ∧ ∀ c ∈ fl, c < k) ⟨g2.put nD0 nDs, [], upd_same, rfl, by simp⟩ ?_ ?_
    · rintro i H3 hi ⟨sf3, fl, hD, hl, hc⟩
      refine ⟨rfl, yes (itT rfl ⟨_, rfl, _, rfl, s, k, rfl, sf3.src, by omega, by omega, fun H4 c sf4 hc4 => ?_⟩)⟩
      refine ⟨_, sf4.at hD nDs, sz100kl (by rw [List.length_map]; omega), (sf3.trans sf4).put nD0 nDs, fl ++ [c], by rw [upd_same, List.map_append]; rfl, by rw [List.length_append, hl]; rfl, fun z hz => ?_⟩
      rcases List.mem_append.mp hz with hz | hz
      · exact hc z hz
      · rw [List.mem_singleton.mp hz]
        exact hc4
    · rintro H3 ⟨sf3, x⟩
      exact fin D H3 sf3 nD x
  · refine itF e ⟨_, rfl, _, rfl, (small62 (by omega)).1, (small62 (by omega)).2, fun D nD => ?_⟩
    have nDs := g2.nes nD
    have nD0 := g2.free nD
    refine lc_range0 (n := n) (fun i H' => SF s H H' ∧ ∃ fl : List Nat, H' D = some (.lst (fl.map vN)) ∧ fl.length = i ∧ ∀ c ∈ fl, c < k) ⟨g2.put nD0 nDs, [], upd_same, rfl, by simp⟩ ?_ ?_
    · rintro i H3 hi ⟨sf3, fl, hD, hl, hc⟩
      refine ⟨rfl, yes (itT rfl ⟨_, rfl, _, rfl, _, rfl, _, rfl, _, rfl, s, k, rfl, sf3.src, by omega, by omega, fun H4 c sf4 hc4 => ?_⟩)⟩
      have g4 := sf3.trans sf4
      refine ⟨sz100k (by show 3 ≤ 100000; decide), fun d nd => ?_⟩
      have g5 := g4.new (o := .lst [vN m, vN m, vN c]) nd
      have hD5 := same_new (o := .lst [vN m, vN m, vN c]) nd _ _ (sf4.at hD nDs)
      refine ⟨s, d, _, rfl, g5.src, upd_same, g4.nes nd, by show 1 ≤ 3; omega, by show 3 ≤ 1000000; omega, fun H6 v sf6 hv => ?_⟩
      obtain ⟨z, rfl, hz⟩ : ∃ z : Nat, v = vN z ∧ z < k := by
        simp only [List.mem_cons, List.not_mem_nil, or_false] at hv
        rcases hv with rfl | rfl | rfl
        · exact ⟨m, rfl, hm⟩
        · exact ⟨m, rfl, hm⟩
        · exact ⟨c, rfl, hc4⟩
      refine ⟨_, sf6.at hD5 nDs, sz100kl (by rw [List.length_map]; omega), (g5.trans sf6).put nD0 nDs, fl ++ [z], by rw [upd_same, List.map_append]; rfl, by rw [List.length_append, hl]; rfl, fun y hy => ?_⟩
      rcases List.mem_append.mp hy with hy | hy
      · exact hc y hy
      · rw [List.mem_singleton.mp hy]
        exact hz
    · rintro H3 ⟨sf3, x⟩
      exact fin D H3 sf3 nD x
end
end PF
namespace PF
open PySem PySem.Spec PyProof.Rows L2
open C8 (Cal Mak Met pe_c pe_mk pe_gc pe_mt pe_mt0)
open PFM hiding ltP
structure LetOK (W : WD) : Prop where
  lk : ∀ l ∈ W.links, l.1 < W.size ∧ l.2 < W.size
  ll : W.links.length ≤ 1000
  c : W.coats ≤ 6
  t : W.table.length ≤ 1000
/-- deeds at a link by the first j coats -/
def deedsTo (W : WD) (fl : List Nat) (l : Nat × Nat) (j : Nat) : List (Nat × Nat × Nat) := ((List.range j).filter fun c => chg W.table (at0 fl l.1) c).map fun c => (l.1, l.2, c)
theorem deedsTo_snoc (W : WD) (fl : List Nat) (l : Nat × Nat) (j : Nat) : deedsTo W fl l (j + 1) = deedsTo W fl l j ++ if chg W.table (at0 fl l.1) j = true then [(l.1, l.2, j)] else [] := by
  unfold deedsTo
  rw [List.range_succ, List.filter_append, List.map_append]
  by_cases e : chg W.table (at0 fl l.1) j = true <;> simp [e]
theorem deedsTo_len (W : WD) (fl : List Nat) (l : Nat × Nat) (j : Nat) : (deedsTo W fl l j).length ≤ j := by
  unfold deedsTo
  rw [List.length_map]
  refine Nat.le_trans (List.length_filter_le _ _) ?_
  rw [List.length_range]
  exact Nat.le_refl _
theorem deedsAt_len (W : WD) (fl : List Nat) (l : Nat × Nat) : (deedsAt W fl l).length ≤ W.coats := by
  unfold deedsAt
  split
  · exact deedsTo_len W fl l W.coats
  · simp
theorem flat_len (W : WD) (fl : List Nat) : ∀ ls : List (Nat × Nat), (ls.flatMap (deedsAt W fl)).length ≤ ls.length * W.coats
  | [] => by simp
  | l :: ls => by
    rw [List.flatMap_cons, List.length_append, List.length_cons, Nat.succ_mul]
    have := flat_len W fl ls
    have := deedsAt_len W fl l
    omega
section
variable {P : Program} {w : World} {K : PySem.W.Frag} {mg : Str → Option Value} {base : Heap}
/-! ### let -/
def spLet : Sp := fun vs H Q _ => ∃ (l : Addr) (tv fv : V) (W : WD) (fl : List Nat), vs = [.ref l, vN W.coats, tv, fv] ∧ LsAt H l W.links ∧ Tp H tv (dLs W.table) ∧ Tp H fv (dF fl) ∧ LetOK W ∧ fl.length = W.size ∧
  ∀ H' D ys, Same H H' → H D = none → H' D = some (.lst ys) → TpAll H' ys ((deedsM W fl).map dD) → Q (.ref D) H'
theorem b_law_let (T : Txt K mg) (c__law_link : Cal P w K mg base 1 "_law_link" spLink []) : BodyOk P w K mg base 1 "_law_let" s__law_let N__law_let spLet := by
  intro f cdv A outer s0 H vs Q E hr h
  obtain ⟨l, tv, fv, W, fl, rfl, ⟨xs, hl, hall⟩, hP, hF, ok, hfl, q⟩ := h
  obtain ⟨fa, rfl, hf⟩ := tpF hF
  have hlen : xs.length = W.links.length := by rw [hall.length, List.length_map]
  have ll := ok.ll
  have c6 := ok.c
  refine ⟨_, (pss_cons (ps_set (i := 4) sc__law_let.nd rfl (Or.inl rfl) (pe_lst pa_nil))
 (pss_cons (ps_for PassesOwn.never rfl (pi_list (pv 0)) (pg_tup rfl (pgs_cons (pg_name (i := 5) sc__law_let.nd rfl (Or.inl rfl)) (pgs_cons (pg_name (i := 6) sc__law_let.nd rfl (Or.inl rfl)) pgs_nil)))
 (pss_one (ps_if (pt_cmpR op_eq (pe_ix ix_tup (pv 3) (pv 5) (fun _ _ => rfl)) (pe_ix ix_tup (pv 3) (pv 6) (fun _ _ => rfl)) (nomark _))
 (pss_one (ps_for PassesOwn.never rfl (pi_range1 (by rfl) T.b_range (pa_cons (pv 1) pa_nil)) (pg_name (i := 7) sc__law_let.nd rfl (Or.inl rfl))
 (pss_one (ps_if (pt_cmpR (PF.op_inTD (hu65 hr)) (pe_c c__law_link hr (by decide) (by rfl) (pa_cons (pe_ix ix_tup (pv 3) (pv 5) (fun _ _ => rfl)) (pa_cons (pv 7) pa_nil))) (pv 2) (by with_unfolding_all rfl))
 (pss_one (ps_expr (pe_bm PySem.F.plainAttrs_list PySem.F.slot_list_append PySem.F.type_list_append mt_append (pv 4) (pa_cons (pe_tup (pa_cons (pv 5) (pa_cons (pv 6) (pa_cons (pv 7) pa_nil)))) pa_nil))))
 pss_nil))))
 pss_nil)))
 (pss_one (ps_ret (pv 4))))), ?_⟩
  refine ⟨sz100k (by show 0 ≤ 100000; decide), fun D nD => ?_⟩
  have s1 := same_new (o := .lst []) nD
  refine ⟨_, rfl, l, rfl, ⟨_, SqL.of (s1 _ _ hl)⟩, for_list (K := K) (a := l) (xs := xs) (fun i σ H' => Same H H' ∧ ∃ ys x5 x6 x7, H' D = some (.lst ys) ∧ TpAll H' ys (((W.links.take i).flatMap (deedsAt W fl)).map dD) ∧ σ = [some (.ref l), some (vN W.coats), some tv, some (.ref fa), some (.ref D), x5, x6, x7])
    ⟨s1, [], none, none, none, upd_same, .nil, rfl⟩ (fun i σ H' _ p => SqL.of (p.1 _ _ hl)) ?_ ?_⟩
  · rintro i v σ H1 hv ⟨sm, ys, x5, x6, x7, hD, hys, rfl⟩
    obtain ⟨⟨a, b⟩, hab, tp⟩ := hall.getF hv
    obtain ⟨pa, rfl, hpa⟩ := tpP (tp.mono (same_ts sm))
    obtain ⟨la, lb⟩ := ok.lk _ (List.mem_of_getElem? hab)
    simp only at la lb
    have ga : (fl.map vN)[a]? = some (vN (at0 fl a)) := vN_get (by omega)
    have gb : (fl.map vN)[b]? = some (vN (at0 fl b)) := vN_get (by omega)
    have hf1 := sm _ _ hf
    have et : W.links.take (i + 1) = W.links.take i ++ [(a, b)] := by rw [List.take_add_one, hab]; rfl
    have eF : ((W.links.take (i + 1)).flatMap (deedsAt W fl)) = (W.links.take i).flatMap (deedsAt W fl) ++ deedsAt W fl (a, b) := by rw [et, List.flatMap_append]; simp
    refine ⟨pa, _, rfl, SqT.of hpa, rfl, _, _, rfl, _, _, rfl, rfl, ?_⟩
    refine ⟨_, rfl, _, rfl, fa, _, _, vN (at0 fl a), rfl, rfl, SqT.of hf1, at_of rfl ga, _, rfl, _, rfl, fa, _, _, vN (at0 fl b), rfl, rfl, SqT.of hf1, at_of rfl gb, rfl, _, rfl, ?_⟩
    by_cases e : at0 fl a = at0 fl b
    · have eD : deedsAt W fl (a, b) = deedsTo W fl (a, b) W.coats := by
        unfold deedsAt
        rw [if_pos e]
        rfl
      refine itT (by rw [dec_vN]; exact decide_eq_true e) ⟨_, rfl, _, rfl, (small62 (by omega)).1, (small62 (by omega)).2, for_range0 (n := W.coats) (fun j σ H' => Same H H' ∧ ∃ ys x7, H' D = some (.lst ys) ∧ TpAll H' ys (((W.links.take i).flatMap (deedsAt W fl) ++ deedsTo W fl (a, b) j).map dD) ∧ σ = [some (.ref l), some (vN W.coats), some tv, some (.ref fa), some (.ref D), some (vN a), some (vN b), x7])
        ⟨sm, ys, _, hD, by show TpAll _ _ (List.map dD (_ ++ [])); rw [List.append_nil]; exact hys, rfl⟩ ?_ ?_⟩
      · rintro j σ H2 hj ⟨sm2, ys, y7, hD2, hys2, rfl⟩
        refine ⟨_, rfl, _, rfl, fa, _, _, vN (at0 fl a), rfl, rfl, SqT.of (sm2 _ _ hf), at_of rfl ga, _, rfl, _, _, rfl, fun t nt => ?_⟩
        have s3 := same_new (o := .tup [vN (min (at0 fl a) j), vN (max (at0 fl a) j)]) nt
        have sm3 := sm2.trans s3
        refine ⟨_, rfl, dP (min (at0 fl a) j, max (at0 fl a) j), W.table.map dP, (mkP upd_same).dp, (hP.mono (same_ts sm3)).dp, shaped_dP _, shaped_dPs _, _, congrArg V.bl (any_dP W.table (min (at0 fl a) j, max (at0 fl a) j)), ?_⟩
        have eC : decide ((min (at0 fl a) j, max (at0 fl a) j) ∈ W.table) = chg W.table (at0 fl a) j := rfl
        rw [eC]
        have hyl : ys.length ≤ 100000 - 1 := by
          rw [hys2.length, List.length_map, List.length_append]
          have h1 := flat_len W fl (W.links.take i)
          have h2 := deedsTo_len W fl (a, b) j
          rw [List.length_take] at h1
          have h3 : min i W.links.length * W.coats ≤ 1000 * 6 := Nat.mul_le_mul (by omega) c6
          omega
        rcases Bool.eq_false_or_eq_true (chg W.table (at0 fl a) j) with e2 | e2
        · refine itT e2 ⟨_, rfl, .inl ⟨rfl, _, SqL.of (s3 _ _ hD2)⟩, _, rfl, _, rfl, _, rfl, sz100k (by show 3 ≤ 100000; decide), fun z nz => ?_⟩
          have s4 := s3.trans (same_new (o := .tup [vN a, vN b, vN j]) nz)
          refine ⟨D, ys, _, rfl, rfl, s4 _ _ hD2, sz100kl (by omega), same_mut (sm2.trans s4) nD, ys ++ [.ref z], _, upd_same, ?_, rfl⟩
          have tkE := ts_lst (o := .lst (ys ++ [.ref z])) (s4 _ _ hD2)
          rw [deedsTo_snoc, if_pos e2, ← List.append_assoc, List.map_append]
          exact ((hys2.mono (same_ts s4)).mono tkE).app (.one (Tp.mono tkE (mkD upd_same)))
        · refine itF e2 ⟨sm3, ys, _, s3 _ _ hD2, ?_, rfl⟩
          rw [deedsTo_snoc, if_neg (by rw [e2]; exact Bool.false_ne_true), List.append_nil]
          exact hys2.mono (same_ts s3)
      · rintro σ H2 ⟨sm2, ys, y7, hD2, hys2, rfl⟩
        exact ⟨sm2, ys, _, _, _, hD2, by rw [eF, eD]; exact hys2, rfl⟩
    · refine itF (by rw [dec_vN]; exact decide_eq_false e) ⟨sm, ys, _, _, _, hD, ?_, rfl⟩
      rw [eF]
      unfold deedsAt
      rw [if_neg (show ¬ at0 fl (a, b).1 = at0 fl (a, b).2 from e), List.append_nil]
      exact hys
  · rintro σ H1 ⟨sm, ys, x5, x6, x7, hD, hys, rfl⟩
    rw [hlen, List.take_length] at hys
    exact ⟨_, rfl, q H1 D ys sm nD hD hys⟩
/-! ### done, by the law -/
theorem b_law_done (T : Txt K mg) : BodyOk P w K mg base 0 "_law_done" s__law_done N__law_done spDone := by
  intro f cdv A outer s H vs Q E hr h
  obtain ⟨fv, dv, fl, ⟨x, y, c⟩, rfl, hF, hD, hl, q⟩ := h
  obtain ⟨fa, rfl, hf⟩ := tpF hF
  obtain ⟨da, rfl, hd⟩ := tpD hD
  have hlen := doneM_len fl x y c
  refine ⟨_, (pss_one (ps_ret (pe_tupleOf (by rfl) T.b_tuple (pe_lc (own := [("_law_x", 2)]) (by rfl) sc__law_done.nd (pi_range1 (by rfl) T.b_range (pa_cons (pe_callB call_len_seq (by rfl) T.b_len PySem.boot_len (pa_cons (pv 0) pa_nil)) pa_nil)) (blkOk_by (N := N__law_done) (sc := defScope s__law_done) (own := [("_law_x", 2)]) (by decide +kernel)) (fun _ _ _ _ _ => by exact (pg_name (i := 2) sc__law_done.nd rfl (Or.inl rfl))) (fun _ _ _ _ _ => by exact pts_nil) (fun _ _ _ _ _ => by exact (pe_ifExp (pt_cmpR (r := rIn K false) op_in_seq (pv 2) (pe_tup (pa_cons (pe_ix (r := rIxT K) ix_tup (pv 1) pe_int (fun _ _ => rfl)) (pa_cons (pe_ix (r := rIxT K) ix_tup (pv 1) pe_int (fun _ _ => rfl)) pa_nil))) (by with_unfolding_all rfl)) (pe_ix (r := rIxT K) ix_tup (pv 1) pe_int (fun _ _ => rfl)) (pe_ix (r := rIxT K) ix_tup (pv 0) (pv 2) (fun _ _ => rfl)))))))), ?_⟩
  refine ⟨_, rfl, fa, _, rfl, .inr (SqT.of hf), fl.length, by rw [List.length_map], (small62 (by omega)).1, (small62 (by omega)).2, fun D nD => ?_⟩
  refine lc_range0 (n := fl.length) (fun i H' => Same H H' ∧ H' D = some (.lst (((doneM fl x y c).take i).map vN))) ⟨same_new nD, upd_same⟩ ?_ ?_
  · rintro i H1 hi ⟨sm, hL⟩
    have g : (doneM fl x y c)[i]? = some (if i = x ∨ i = y then c else fl[i]) := by rw [doneM_get, List.getElem?_eq_getElem hi]; rfl
    have hd1 := sm _ _ hd
    refine ⟨rfl, yes (itT rfl ?_)⟩
    refine ⟨_, rfl, _, rfl, da, _, _, vN x, rfl, rfl, SqT.of hd1, at_of (j := 0) rfl rfl, ?_⟩
    refine ⟨_, rfl, da, _, _, vN y, rfl, rfl, SqT.of hd1, at_of (j := 1) rfl rfl, sz100k (by show 2 ≤ 100000; decide), fun t nt => ?_⟩
    have s2 := same_new (o := .tup [vN x, vN y]) nt
    have fin : ∀ v, v = vN (if i = x ∨ i = y then c else fl[i]) → ∃ acc, (upd H1 t (.tup [vN x, vN y])) D = some (.lst acc) ∧ acc.length < sizeLine ∧ Same H (upd (upd H1 t (.tup [vN x, vN y])) D (.lst (acc ++ [v]))) ∧
        (upd (upd H1 t (.tup [vN x, vN y])) D (.lst (acc ++ [v]))) D = some (.lst (((doneM fl x y c).take (i + 1)).map vN)) := by
      rintro v rfl
      refine ⟨_, s2 _ _ hL, sz100kl (by rw [List.length_map, List.length_take]; omega), same_mut (sm.trans s2) nD, ?_⟩
      rw [upd_same, take_map_succ g]
    refine ⟨t, _, rfl, .inr (SqT.of upd_same), rfl, rfl, _, rfl, ?_⟩
    have en : inV (vN i) [vN x, vN y] = decide (i = x ∨ i = y) := by
      show (((x : Int) == (i : Int)) || (((y : Int) == (i : Int)) || false)) = _
      by_cases h1 : i = x
      · subst h1
        simp
      · by_cases h2 : i = y
        · subst h2
          simp
        · have e1 : ((x : Int) == (i : Int)) = false := beq_eq_false_iff_ne.mpr (by omega)
          have e2 : ((y : Int) == (i : Int)) = false := beq_eq_false_iff_ne.mpr (by omega)
          rw [e1, e2]
          simp [h1, h2]
    have ei : (if false = true then !inV (vN i) [vN x, vN y] else inV (vN i) [vN x, vN y]) = decide (i = x ∨ i = y) := by rw [if_neg Bool.false_ne_true, en]
    rw [ei]
    by_cases h1 : i = x ∨ i = y
    · refine itT (decide_eq_true h1) ⟨_, rfl, da, _, _, vN c, rfl, rfl, SqT.of (s2 _ _ hd1), at_of (j := 2) rfl rfl, fin _ ?_⟩
      rw [if_pos h1]
    · refine itF (decide_eq_false h1) ⟨_, rfl, _, rfl, fa, _, _, vN fl[i], rfl, rfl, SqT.of (s2 _ _ (sm _ _ hf)), at_of rfl (by rw [List.getElem?_map, List.getElem?_eq_getElem hi]; rfl), fin _ ?_⟩
      rw [if_neg h1]
  · rintro H1 ⟨sm, hL⟩
    refine .inl ⟨D, _, rfl, SqL.of hL, fun p np => q _ _ (sm.trans (same_new np)) (mkF (upd_same.trans ?_))⟩
    rw [← hlen, List.take_length]
    rfl
/-! ### run -/
def spRunL : Sp := fun vs H Q _ => ∃ (s l : Addr) (tv fv : V) (W : WD) (fl : List Nat) (m : Nat), vs = [.ref s, .ref l, vN W.coats, tv, fv, vN m] ∧ Src H s ∧ l ≠ s ∧ LsAt H l W.links ∧ Tp H tv (dLs W.table) ∧ Tp H fv (dF fl) ∧ LetOK W ∧ FlOK W fl ∧ W.size ≤ 1000 ∧ m ≤ 1000 ∧
  ∀ H' p rv ev run g, SF s H H' → H' p = some (.tup [rv, ev]) → Tp H' rv (dDs run) → Tp H' ev (dF g) → Run W fl run g → FlOK W g → run.length ≤ m → Q (.ref p) H'
theorem b_law_run (T : Txt K mg) (c__law_take : Cal P w K mg base 1 "_law_take" spTake []) (c__law_one : Cal P w K mg base 2 "_law_one" spOne []) (c__law_let : Cal P w K mg base 2 "_law_let" spLet []) (c__law_done : Cal P w K mg base 1 "_law_done" spDone []) :
    BodyOk P w K mg base 2 "_law_run" s__law_run N__law_run spRunL := by
  intro f cdv A outer s0 H vs Q E hr h
  obtain ⟨s, l, tv, fv, W, fl, m, rfl, hs, nls, hL, hP, hF, ok, flo, hsz, hm, q⟩ := h
  refine ⟨_, (pss_cons (ps_par (i := 6) (j := 7) (by rfl) sc__law_run.nd rfl rfl (by decide) rfl rfl (pa_cons (pe_lst pa_nil) (pa_cons (pv 4) pa_nil)) (by rfl))
 (pss_cons (ps_for PassesOwn.never rfl (pi_range1 (by rfl) T.b_range (pa_cons (pe_c c__law_take hr (by decide) (by rfl) (pa_cons (pv 0) (pa_cons (pe_op op_add (pv 5) pe_int) pa_nil))) pa_nil)) (pg_name (i := 8) sc__law_run.nd rfl (Or.inl rfl))
 (pss_cons (ps_set (i := 9) sc__law_run.nd rfl (Or.inl rfl) (pe_c c__law_let hr (by decide) (by rfl) (pa_cons (pv 1) (pa_cons (pv 2) (pa_cons (pv 3) (pa_cons (pv 7) pa_nil))))))
 (pss_one (ps_if (pt_truth (pv 9) (by intro _; rfl))
 (pss_cons (ps_set (i := 10) sc__law_run.nd rfl (Or.inl rfl) (pe_c c__law_one hr (by decide) (by rfl) (pa_cons (pv 0) (pa_cons (pv 9) pa_nil))))
 (pss_cons (ps_expr (pe_bm PySem.F.plainAttrs_list PySem.F.slot_list_append PySem.F.type_list_append mt_append (pv 6) (pa_cons (pv 10) pa_nil)))
 (pss_one (ps_set (i := 7) sc__law_run.nd rfl (Or.inl rfl) (pe_c c__law_done hr (by decide) (by rfl) (pa_cons (pv 7) (pa_cons (pv 10) pa_nil)))))))
 pss_nil))))
 (pss_one (ps_ret (pe_tup (pa_cons (pe_tupleOf (by rfl) T.b_tuple (pv 6)) (pa_cons (pv 7) pa_nil))))))), ?_⟩
  refine ⟨sz100k (by show 0 ≤ 100000; decide), fun D nD => ⟨_, rfl, _, _, rfl, ?_⟩⟩
  have nDs := hs.ne nD
  have nDl : D ≠ l := fun e => by
    obtain ⟨xs, z, _⟩ := hL
    rw [← e, nD] at z
    cases z
  have s1 := same_new (o := .lst []) nD
  have g1 := SF.same hs s1
  refine ⟨_, rfl, _, rfl, _, 1, rfl, rfl, s, m + 1, rfl, g1.src, by omega, by omega, fun H2 r sf2 hr2 => ?_⟩
  have g2 := g1.trans sf2
  refine ⟨_, rfl, (small62 (by omega)).1, (small62 (by omega)).2, for_range0 (n := r) (fun i σ H' => SF s H H' ∧ ∃ ys run hv g x8 x9 x10, H' D = some (.lst ys) ∧ TpAll H' ys (run.map dD) ∧ Tp H' hv (dF g) ∧ Run W fl run g ∧ FlOK W g ∧ run.length ≤ i ∧ σ = [some (.ref s), some (.ref l), some (vN W.coats), some tv, some fv, some (vN m), some (.ref D), some hv, x8, x9, x10])
    ⟨g2, [], [], fv, fl, none, none, none, sf2.at upd_same nDs, .nil, (hF.mono (same_ts s1)).mono (sf2.tk g1.src), rfl, flo, Nat.le_refl _, rfl⟩ ?_ ?_⟩
  · rintro i σ H3 hi ⟨sf3, ys, run, hv, g, x8, x9, x10, hD, hys, hG, rn, go, rl, rfl⟩
    have tk3 := sf3.tk hs
    refine ⟨_, rfl, _, rfl, _, rfl, _, rfl, l, tv, hv, W, g, rfl, hL.sf sf3 hs nls, hP.mono tk3, hG, ok, go.1, fun H4 d zs s4 nd hd hzs => ?_⟩
    have g4 := sf3.trans (SF.same sf3.src s4)
    have nds := sf3.src.ne nd
    refine ⟨_, rfl, !zs.isEmpty, .inl ⟨zs, SqL.of hd, rfl⟩, ?_⟩
    cases hz : zs with
    | nil => exact itF rfl ⟨g4, ys, run, hv, g, _, _, _, s4 _ _ hD, hys.mono (same_ts s4), hG.mono (same_ts s4), rn, go, by omega, rfl⟩
    | cons z0 zs0 =>
      have zl : zs.length ≤ 1000000 := by
        rw [hzs.length, List.length_map]
        have h1 := flat_len W g W.links
        have h2 : W.links.length * W.coats ≤ 1000 * 6 := Nat.mul_le_mul ok.ll ok.c
        unfold deedsM
        omega
      refine itT rfl ⟨_, rfl, _, rfl, s, d, zs, rfl, g4.src, hd, nds, by rw [hz]; simp, zl, fun H5 z sf5 hzm => ?_⟩
      obtain ⟨k, hk⟩ := List.mem_iff_getElem?.mp hzm
      obtain ⟨dd, hdd, tdd⟩ := hzs.getF hk
      have tk5 := sf5.tk g4.src
      have tdd5 := tdd.mono tk5
      have hD5 := sf5.at (s4 _ _ hD) nDs
      have hys5 := (hys.mono (same_ts s4)).mono tk5
      have hG5 := (hG.mono (same_ts s4)).mono tk5
      have g5 := g4.trans sf5
      have hyl : ys.length ≤ 2000 := by
        rw [hys.length, List.length_map]
        omega
      refine ⟨_, rfl, .inl ⟨rfl, _, SqL.of hD5⟩, _, rfl, D, ys, z, rfl, rfl, hD5, sz100kl (by omega), ?_⟩
      have tkE := ts_lst (o := .lst (ys ++ [z])) hD5
      have g6 := g5.put (o := .lst (ys ++ [z])) nD nDs
      refine ⟨_, rfl, _, rfl, hv, z, g, dd, rfl, hG5.mono tkE, tdd5.mono tkE, by rw [go.1]; exact hsz, fun H7 bv s7 tb => ?_⟩
      have hdm : dd ∈ deedsM W g := List.mem_of_getElem? hdd
      refine ⟨g6.trans (SF.same g6.src s7), ys ++ [z], run ++ [dd], bv, doD g dd, _, _, _, s7 _ _ upd_same, ?_, tb, rn.snoc hdm, go.doD hdm, by rw [List.length_append]; show run.length + 1 ≤ i + 1; omega, rfl⟩
      rw [List.map_append]
      exact ((hys5.mono tkE).app (.one (tdd5.mono tkE))).mono (same_ts s7)
  · rintro σ H3 ⟨sf3, ys, run, hv, g, x8, x9, x10, hD, hys, hG, rn, go, rl, rfl⟩
    refine ⟨_, rfl, .inl ⟨D, ys, rfl, SqL.of hD, fun u nu => ⟨_, rfl, sz100k (by show 2 ≤ 100000; decide), fun z nz => ?_⟩⟩⟩
    have s4 := same_new (o := .tup ys) nu
    have s5 := same_new (o := .tup [.ref u, hv]) nz
    have s6 := s4.trans s5
    exact q _ z (.ref u) hv run g (sf3.trans (SF.same sf3.src s6)) upd_same (.tup (s5 _ _ upd_same) (hys.mono (same_ts s6))) (hG.mono (same_ts s6)) rn go (by omega)
end
end PF
namespace PF
open PySem PySem.Spec PyProof.Rows L2
open C8 (Cal Mak Met pe_c pe_mk pe_gc pe_mt pe_mt0)
open PFM hiding ltP
section
variable {P : Program} {w : World} {K : PySem.W.Frag} {mg : Str → Option Value} {base : Heap}
/-! ### number -/
def spNumL : Sp := fun vs H Q _ => ∃ (fv : V) (q : Nat) (fl : List Nat), vs = [fv, vN q] ∧ Tp H fv (dF fl) ∧ q ≤ 1000 ∧ Q (vN (numM q fl)) H
theorem b_law_number (T : Txt K mg) : BodyOk P w K mg base 0 "_law_number" s__law_number N__law_number spNumL := by
  intro f cdv A outer s0 H vs Q E hr h
  obtain ⟨fv, k, fl, rfl, hF, hk, q⟩ := h
  obtain ⟨fa, rfl, hf⟩ := tpF hF
  refine ⟨_, (pss_cons (ps_set (i := 2) sc__law_number.nd rfl (Or.inl rfl) pe_int)
 (pss_cons (ps_for PassesOwn.never rfl (pi_tup (pv 0)) (pg_name (i := 3) sc__law_number.nd rfl (Or.inl rfl))
 (pss_one (ps_set (i := 2) sc__law_number.nd rfl (Or.inl rfl) (pe_op op_add (pe_op op_mul (pv 2) (pv 1)) (pv 3)))))
 (pss_one (ps_ret (pv 2))))), ?_⟩
  refine ⟨_, rfl, fa, rfl, ⟨_, SqT.of hf⟩, for_tup (K := K) (a := fa) (xs := fl.map vN) (fun i σ H' => H' = H ∧ ∃ x3, σ = [some (.ref fa), some (vN k), some (vN (numM k (fl.take i))), x3]) ⟨rfl, none, rfl⟩ (fun i σ H' _ p => SqT.of (by rw [p.1]; exact hf)) ?_ ?_⟩
  · rintro i v σ H' hv ⟨rfl, x3, rfl⟩
    obtain ⟨hi, hv2⟩ := List.getElem?_eq_some_iff.mp hv
    rw [List.getElem_map] at hv2
    rw [List.length_map] at hi
    subst hv2
    refine ⟨_, rfl, _, rfl, _, _, rfl, rfl, .inr ⟨by omega, by omega⟩, _, rfl, _, _, rfl, rfl, rfl, some (vN fl[i]), ?_⟩
    have e : ((numM k (fl.take i) : Nat) : Int) * (k : Int) + (fl[i] : Int) = ((numM k (fl.take (i + 1)) : Nat) : Int) := by
      rw [List.take_add_one, List.getElem?_eq_getElem hi]
      show _ = ((numM k (fl.take i ++ [fl[i]]) : Nat) : Int)
      rw [numM_snoc, Int.natCast_add, Int.natCast_mul]
    show _ = [some (V.ref fa), some (vN k), some (V.int ((numM k (fl.take (i + 1)) : Nat) : Int)), _]
    rw [← e]
    rfl
  · rintro σ H' ⟨rfl, x3, rfl⟩
    rw [List.length_map, List.take_length]
    exact ⟨_, rfl, q⟩
/-! ### floors -/
def spFls : Sp := fun vs H Q _ => ∃ (n k : Nat), vs = [vN n, vN k] ∧ n ≤ 1000 ∧ 1 ≤ k ∧ k ≤ 1000 ∧ k ^ n ≤ 20000 ∧ ∀ H' D ys, Same H H' → H D = none → H' D = some (.lst ys) → TpAll H' ys ((allM k n).map dF) → Q (.ref D) H'
theorem allM_len (k : Nat) : ∀ n, (allM k n).length = k ^ n
  | 0 => rfl
  | n + 1 => by
    show ((allM k n).flatMap fun r => (List.range k).map fun c => r ++ [c]).length = _
    rw [List.length_flatMap]
    simp only [List.length_map, List.length_range]
    rw [List.map_const', List.sum_replicate_nat, allM_len k n, Nat.pow_succ]
theorem b_law_floors (T : Txt K mg) : BodyOk P w K mg base 0 "_law_floors" s__law_floors N__law_floors spFls := by
  intro f cdv A outer s0 H vs Q E hr h
  obtain ⟨n, k, rfl, hn, hk1, hk, hpow, q⟩ := h
  refine ⟨_, (pss_cons (ps_set (i := 2) sc__law_floors.nd rfl (Or.inl rfl) (pe_lst (pa_cons (pe_tup pa_nil) pa_nil)))
 (pss_cons (ps_for PassesOwn.never rfl (pi_range1 (by rfl) T.b_range (pa_cons (pv 0) pa_nil)) (pg_name (i := 3) sc__law_floors.nd rfl (Or.inl rfl))
 (pss_cons (ps_set (i := 4) sc__law_floors.nd rfl (Or.inl rfl) (pe_lst pa_nil))
 (pss_cons (ps_for PassesOwn.never rfl (pi_list (pv 2)) (pg_name (i := 5) sc__law_floors.nd rfl (Or.inl rfl))
 (pss_one (ps_for PassesOwn.never rfl (pi_range1 (by rfl) T.b_range (pa_cons (pv 1) pa_nil)) (pg_name (i := 6) sc__law_floors.nd rfl (Or.inl rfl))
 (pss_one (ps_expr (pe_bm PySem.F.plainAttrs_list PySem.F.slot_list_append PySem.F.type_list_append mt_append (pv 4) (pa_cons (pe_op op_catA (pv 5) (pe_tup (pa_cons (pv 6) pa_nil))) pa_nil)))))))
 (pss_one (ps_set (i := 2) sc__law_floors.nd rfl (Or.inl rfl) (pv 4))))))
 (pss_one (ps_ret (pv 2))))), ?_⟩
  refine ⟨sz100k (by show 0 ≤ 100000; decide), fun t nt => ⟨sz100k (by show 1 ≤ 100000; decide), fun D nD => ?_⟩⟩
  have s1 := same_new (o := .tup []) nt
  have s2 := s1.trans (same_new (o := .lst [.ref t]) nD)
  have nD0 := s1.free nD
  have pw : ∀ i, i ≤ n → k ^ i ≤ 20000 := fun i hi => Nat.le_trans (Nat.pow_le_pow_right hk1 hi) hpow
  refine ⟨_, rfl, _, rfl, (small62 (by omega)).1, (small62 (by omega)).2, for_range0 (n := n) (fun i σ H' => Same H H' ∧ ∃ D ys x3 x4 x5 x6, H D = none ∧ H' D = some (.lst ys) ∧ TpAll H' ys ((allM k i).map dF) ∧ σ = [some (vN n), some (vN k), some (.ref D), x3, x4, x5, x6])
    ⟨s2, D, _, none, none, none, none, nD0, upd_same, .one (mkF (fl := []) (same_new nD _ _ upd_same)), rfl⟩ ?_ ?_⟩
  · rintro i σ H1 hi ⟨sm, D1, ys, x3, x4, x5, x6, nD1, hD1, hys, rfl⟩
    have hyl : ys.length = k ^ i := by rw [hys.length, List.length_map, allM_len]
    refine ⟨sz100k (by show 0 ≤ 100000; decide), fun B nB => ?_⟩
    have s3 := same_new (o := .lst []) nB
    have nB0 := sm.free nB
    have hD2 := s3 _ _ hD1
    have nBD : B ≠ D1 := fun e => by
      rw [e, hD1] at nB
      cases nB
    refine ⟨_, rfl, D1, rfl, ⟨_, SqL.of hD2⟩, for_list (K := K) (a := D1) (xs := ys) (fun j σ H' => Same H1 H' ∧ ∃ zs x5 x6, H' B = some (.lst zs) ∧ TpAll H' zs ((((allM k i).take j).flatMap fun r => (List.range k).map fun c => r ++ [c]).map dF) ∧ σ = [some (vN n), some (vN k), some (.ref D1), some (vN i), some (.ref B), x5, x6])
      ⟨s3, [], x5, x6, upd_same, .nil, rfl⟩ (fun j σ H' _ p => SqL.of (p.1 _ _ hD1)) ?_ ?_⟩
    · rintro j v σ H2 hv ⟨sm2, zs, y5, y6, hB, hzs, rfl⟩
      obtain ⟨r, hr', tr⟩ := hys.getF hv
      have hjl : j < k ^ i := by rw [← hyl]; exact (List.getElem?_eq_some_iff.mp hv).1
      have et : (allM k i).take (j + 1) = (allM k i).take j ++ [r] := by rw [List.take_add_one, hr']; rfl
      have zl : zs.length ≤ j * k := by
        rw [hzs.length, List.length_map, List.length_flatMap]
        simp only [List.length_map, List.length_range]
        rw [List.map_const', List.sum_replicate_nat, List.length_take, allM_len]
        exact Nat.mul_le_mul_right _ (Nat.min_le_left _ _)
      have bound : (j + 1) * k ≤ 20000 := Nat.le_trans (Nat.mul_le_mul_right k hjl) (by rw [← Nat.pow_succ]; exact pw (i + 1) hi)
      rw [Nat.succ_mul] at bound
      refine ⟨_, rfl, _, rfl, (small62 (by omega)).1, (small62 (by omega)).2, for_range0 (n := k) (fun c σ H' => Same H1 H' ∧ ∃ zs2 x6, H' B = some (.lst zs2) ∧ TpAll H' zs2 (((((allM k i).take j).flatMap fun r => (List.range k).map fun c => r ++ [c]) ++ (List.range c).map fun c => r ++ [c]).map dF) ∧ zs2.length = zs.length + c ∧ σ = [some (vN n), some (vN k), some (.ref D1), some (vN i), some (.ref B), some v, x6])
        ⟨sm2, zs, y6, hB, by rw [List.range_zero, List.map_nil, List.append_nil]; exact hzs, rfl, rfl⟩ ?_ ?_⟩
      · rintro c σ H3 hc ⟨sm3, zs2, z6, hB3, hzs3, hl3, rfl⟩
        obtain ⟨ra, rfl, hra⟩ := tpF (tr.mono (same_ts sm3))
        refine ⟨_, rfl, .inl ⟨rfl, _, SqL.of hB3⟩, _, rfl, _, rfl, sz100k (by show 1 ≤ 100000; decide), fun t nt => ?_⟩
        have s4 := same_new (o := .tup [vN c]) nt
        have fin : ∀ H4 y, Same H3 H4 → Tp H4 y (dF (r ++ [c])) → rAppend (.ref B) [y] H4 fun _ H5 => Same H1 H5 ∧ ∃ zs2 x6, H5 B = some (.lst zs2) ∧ TpAll H5 zs2 (((((allM k i).take j).flatMap fun r => (List.range k).map fun c => r ++ [c]) ++ (List.range (c + 1)).map fun c => r ++ [c]).map dF) ∧ zs2.length = zs.length + (c + 1) ∧ [some (vN n), some (vN k), some (.ref D1), some (vN i), some (.ref B), some (.ref ra), some (vN c)] = [some (vN n), some (vN k), some (.ref D1), some (vN i), some (.ref B), some (.ref ra), x6] := fun H4 y s5 ty => by
          refine ⟨B, zs2, y, rfl, rfl, s5 _ _ hB3, sz100kl (by omega), same_mut (sm3.trans s5) nB, zs2 ++ [y], _, upd_same, ?_, by rw [List.length_append, hl3]; rfl, rfl⟩
          have tkE := ts_lst (o := .lst (zs2 ++ [y])) (s5 _ _ hB3)
          rw [show ((List.range (c + 1)).map fun c => r ++ [c]) = ((List.range c).map fun c => r ++ [c]) ++ [r ++ [c]] by rw [List.range_succ, List.map_append]; rfl, ← List.append_assoc, List.map_append]
          exact ((hzs3.mono (same_ts s5)).mono tkE).app (.one (ty.mono tkE))
        have hr4 := s4 _ _ hra
        have rlen : r.length = i := (mem_allM.mp (List.mem_of_getElem? hr')).1
        refine ⟨ra, t, r.map vN, [vN c], rfl, rfl, SqT.of hr4, SqT.of upd_same, sz100k (by rw [List.length_map]; show r.length + 1 ≤ 100000; omega), fun e => ?_, fun _ e => (by cases e), fun _ _ p np => ?_⟩
        · have er : r = [] := List.map_eq_nil_iff.mp e
          subst er
          exact fin _ _ s4 (mkF (fl := [c]) upd_same)
        · exact fin _ _ (s4.trans (same_new np)) (mkF (by rw [upd_same, List.map_append]; rfl))
      · rintro σ H3 ⟨sm3, zs2, z6, hB3, hzs3, hl3, rfl⟩
        refine ⟨sm3, zs2, _, _, hB3, ?_, rfl⟩
        rw [et, List.flatMap_append]
        simpa using hzs3
    · rintro σ H2 ⟨sm2, zs, y5, y6, hB, hzs, rfl⟩
      rw [hyl, ← allM_len k i, List.take_length] at hzs
      exact ⟨_, rfl, sm.trans sm2, B, zs, _, _, _, _, nB0, hB, hzs, rfl⟩
  · rintro σ H1 ⟨sm, D1, ys, x3, x4, x5, x6, nD1, hD1, hys, rfl⟩
    exact ⟨_, rfl, q H1 D1 ys sm nD1 hD1 hys⟩
/-! ### the ways -/
def spWays (K : PySem.W.Frag) : Sp := fun vs H Q _ => ∃ (wv ov tv : V) (W : WD) (one two : List Nat), vs = [wv, ov, tv] ∧ IsWorld K H wv W ∧ Tp H ov (dF one) ∧ Tp H tv (dF two) ∧ WOK W ∧ FlOK W one ∧ FlOK W two ∧ ∀ H', Same H H' → Q (.bl true) H'
theorem reach_of {W : WD} {f g : List Nat} {n : Nat} (d : Dist W f g n) : Reach W f g := ⟨n, d.1⟩
theorem b_law_ways_right (T : Txt K mg) (c_shortest : Cal P w K mg base 4 "shortest" (spShort K) []) (c_far : Cal P w K mg base 3 "far" (spFar K) []) (c__law_number : Cal P w K mg base 1 "_law_number" spNumL []) :
    BodyOk P w K mg base 4 "_law_ways_right" s__law_ways_right N__law_ways_right (spWays K) := by
  intro f cdv A outer s0 H vs Q E hr h
  obtain ⟨wv, ov, tv, W, one, two, rfl, hW, hO, hT, ok, ook, tok, q⟩ := h
  have hc := ok.c6
  refine ⟨_, (pss_cons (ps_par (i := 3) (j := 4) (by rfl) sc__law_ways_right.nd rfl rfl (by decide) rfl rfl (pa_cons (pe_c c_shortest hr (by decide) (by rfl) (pa_cons (pv 0) (pa_cons (pv 1) (pa_cons (pv 2) pa_nil)))) (pa_cons (pe_c c_shortest hr (by decide) (by rfl) (pa_cons (pv 0) (pa_cons (pv 2) (pa_cons (pv 1) pa_nil)))) pa_nil)) (by rfl))
 (pss_cons (ps_set (i := 5) sc__law_ways_right.nd rfl (Or.inl rfl) (pe_ix ix_tup (pe_c c_far hr (by decide) (by rfl) (pa_cons (pv 0) (pa_cons (pv 1) pa_nil))) (pe_c c__law_number hr (by decide) (by rfl) (pa_cons (pv 2) (pa_cons (pe_fld (pv 0) rfl) pa_nil))) (fun _ _ => rfl)))
 (pss_cons (ps_if (PW.pt (pw_or (pt_cmpR op_isN (pv 3) pe_non (nomark _)) (pw_or1 (pt_cmpR op_isN (pv 4) pe_non (nomark _)))))
 (pss_one (ps_ret (pe_and (pe_cmpR op_isN (pv 3) pe_non (nomark _)) (pe_and (pe_cmpR op_isN (pv 4) pe_non (nomark _)) (pe_one (pe_cmpR op_eq (pv 5) (pe_un un_neg pe_int) (nomark _)))))))
 pss_nil)
 (pss_one (ps_ret (pe_and (pe_cmpR op_eq (pe_callB call_len_seq (by rfl) T.b_len PySem.boot_len (pa_cons (pv 3) pa_nil)) (pv 5) (nomark _)) (pe_one (pe_cmpR op_eq (pe_callB call_len_seq (by rfl) T.b_len PySem.boot_len (pa_cons (pv 4) pa_nil)) (pv 5) (nomark _))))))))), ?_⟩
  refine ⟨_, rfl, _, rfl, _, rfl, wv, ov, tv, W, one, two, rfl, hW, hO, hT, ok, ook, tok, fun H1 v1 s1 sh1 => ?_⟩
  have ts1 := same_ts s1
  refine ⟨_, rfl, _, rfl, _, rfl, wv, tv, ov, W, two, one, rfl, hW.same s1, hT.mono ts1, hO.mono ts1, ok, tok, ook, fun H2 v2 s2 sh2 => ?_⟩
  have sA := s1.trans s2
  refine ⟨_, _, rfl, ?_⟩
  refine ⟨_, rfl, _, rfl, wv, ov, W, one, rfl, hW.same sA, hO.mono (same_ts sA), ok, ook, fun H3 fv told s3 fs tf => ?_⟩
  have sB := sA.trans s3
  obtain ⟨a, dx, b, db, lk, rr, tb, rfl, h1, h2, h3, h4, hrow⟩ := id (hW.same sB)
  obtain ⟨fa, rfl, hfa⟩ := tpIs tf
  refine ⟨_, rfl, _, rfl, a, _, dx, _, _, rfl, h1, T.cl_World, T.n_World_coats, rfl, tv, W.coats, two, rfl, hT.mono (same_ts sB), by omega, ?_⟩
  refine ⟨fa, _, _, .int (dv W told two), rfl, rfl, SqT.of hfa, at_of rfl (by rw [List.getElem?_map, dv_get tok fs.1]; rfl), ?_⟩
  obtain ⟨⟨e1, nr⟩, hf⟩ | ⟨run, t1, _, d1⟩ : (v1 = .non ∧ ¬ Reach W one two) ∧ True ∨ ∃ run, Tp H1 v1 (dDs run) ∧ Run W one run two ∧ Dist W one two run.length := by
    rcases sh1 with h | h
    · exact .inl ⟨h, trivial⟩
    · exact .inr h
  · subst e1
    have e2 : v2 = .non := by
      rcases sh2 with ⟨h, _⟩ | ⟨run, _, _, d⟩
      · exact h
      · exact absurd ((reach_of d).symm ok tok) nr
    subst e2
    have e3 : dv W told two = -1 := by
      rcases fs.2 two tok with ⟨h, _⟩ | ⟨n, _, d, _⟩
      · exact h
      · exact absurd (reach_of d) nr
    rw [e3]
    refine ⟨_, rfl, rfl, true, rfl, itT rfl (iteT ?_)⟩
    exact ⟨_, rfl, rfl, true, rfl, iteT ⟨_, rfl, rfl, true, rfl, iteT ⟨_, rfl, _, rfl, rfl, q H3 sB⟩⟩⟩
  · obtain ⟨run2, t2, _, d2⟩ : ∃ run, Tp H2 v2 (dDs run) ∧ Run W two run one ∧ Dist W two one run.length := by
      rcases sh2 with ⟨_, h⟩ | h
      · exact absurd ((reach_of d1).symm ok ook) h
      · exact h
    obtain ⟨n3, e3, d3⟩ : ∃ n : Nat, dv W told two = n ∧ Dist W one two n := by
      rcases fs.2 two tok with ⟨_, h⟩ | ⟨n, e, d, _⟩
      · exact absurd (reach_of d1) h
      · exact ⟨n, e, d⟩
    have l1 : run.length = n3 := d1.uniq d3
    have l2 : run2.length = n3 := d2.uniq (d3.symm ok ook)
    obtain ⟨a1, xs1, rfl, ha1, hx1⟩ := tpT (t1.mono (same_ts (s2.trans s3)))
    obtain ⟨a2, xs2, rfl, ha2, hx2⟩ := tpT (t2.mono (same_ts s3))
    have k1 : xs1.length = n3 := by rw [hx1.length, List.length_map, l1]
    have k2 : xs2.length = n3 := by rw [hx2.length, List.length_map, l2]
    rw [e3]
    refine ⟨_, rfl, rfl, false, rfl, itF rfl ⟨_, rfl, rfl, false, rfl, iteF ?_⟩⟩
    refine ⟨_, rfl, a1, _, rfl, .inr (SqT.of ha1), _, rfl, rfl, true, ?_, ?_⟩
    · rw [k1]
      exact bt rfl
    · refine iteT ⟨_, rfl, a2, _, rfl, .inr (SqT.of ha2), _, rfl, rfl, ?_⟩
      rw [k2]
      rw [show V.bl (decide (V.int (n3 : Int) = V.int (n3 : Int))) = .bl true from bt rfl]
      exact q H3 sB
end
end PF
namespace PF
open PySem PySem.Spec PyProof.Rows L2
open C8 (Cal Mak Met pe_c pe_mk pe_gc pe_mt pe_mt0)
open PFM hiding ltP
section
variable {P : Program} {w : World} {K : PySem.W.Frag} {mg : Str → Option Value} {base : Heap}
theorem lst_pairsE {ps : List (Nat × Nat)} {ta : TA} {σ : Stt} {H : Hp} {Q : VK} (e : ta = pairsT ps) (hl : ps.length ≤ 1000) (q : ∀ H' D, Same H H' → H D = none → LsAt H' D ps → Q (.ref D) H') : tLst ta σ H Q := by
  subst e
  exact lst_pairs hl q
def spLaw (K : PySem.W.Frag) : Sp := fun vs H Q _ => ∃ (a : Addr) (ns : List Int), vs = [.ref a] ∧ SqL K H a (ns.map V.int) ∧ ∀ H', Q (.bl true) H'
abbrev ps76 : List (Nat × Nat) := [(1, 3), (2, 2), (2, 5), (3, 2), (3, 2), (3, 3), (3, 3), (4, 2), (4, 2)]
theorem ps76_ok : ∀ p ∈ ps76, (1 ≤ p.1 ∧ p.1 ≤ 4) ∧ (2 ≤ p.2 ∧ p.2 ≤ 6) ∧ p.2 ^ p.1 ≤ 27 := by decide
theorem b_law (T : Txt K mg) (c__law_pool : Cal P w K mg base 1 "_law_pool" (spPool K) []) (c__law_one : Cal P w K mg base 2 "_law_one" spOne []) (c__law_take : Cal P w K mg base 1 "_law_take" spTake [])
    (c__law_small_web : Cal P w K mg base 5 "_law_small_web" (spWebR 1 12) []) (c__law_table : Cal P w K mg base 3 "_law_table" spTab []) (c__law_floor : Cal P w K mg base 3 "_law_floor" spFlo []) (c__law_run : Cal P w K mg base 3 "_law_run" spRunL [])
    (c__law_ways_right : Cal P w K mg base 5 "_law_ways_right" (spWays K) []) (c__law_floors : Cal P w K mg base 1 "_law_floors" spFls []) (c_runs_of : Cal P w K mg base 4 "runs_of" (spRuns K) [])
    (c_Web : Mak P w K mg base 1 "Web" (He.ga K "Web") (spWebI K) []) (cK_World : MakK P w K mg base 3 "World" (He.ga K "World") (spWorldI K) 2 ["table"] (fun vs zs => vs ++ zs)) :
    BodyOk P w K mg base 5 "law" s_law N_law (spLaw K) := by
  intro f cdv A outer s0 H0 vs Q E hr h
  have hu := hu_of hr
  obtain ⟨a, ns, rfl, hS, q⟩ := h
  refine ⟨_, (pss_cons (ps_set (i := 1) sc_law.nd rfl (Or.inl rfl) (pe_c c__law_pool hr (by decide) (by rfl) (pa_cons (pv 0) (pa_cons pe_int pa_nil))))
 (pss_cons (ps_asg (pe_c c__law_one hr (by decide) (by rfl) (pa_cons (pv 1) (pa_cons (pe_lst (pa_cons (pe_tup (pa_cons pe_int (pa_cons pe_int pa_nil))) (pa_cons (pe_tup (pa_cons pe_int (pa_cons pe_int pa_nil))) (pa_cons (pe_tup (pa_cons pe_int (pa_cons pe_int pa_nil))) (pa_cons (pe_tup (pa_cons pe_int (pa_cons pe_int pa_nil))) (pa_cons (pe_tup (pa_cons pe_int (pa_cons pe_int pa_nil))) (pa_cons (pe_tup (pa_cons pe_int (pa_cons pe_int pa_nil))) (pa_cons (pe_tup (pa_cons pe_int (pa_cons pe_int pa_nil))) (pa_cons (pe_tup (pa_cons pe_int (pa_cons pe_int pa_nil))) (pa_cons (pe_tup (pa_cons pe_int (pa_cons pe_int pa_nil))) pa_nil)))))))))) pa_nil))) (pg_tup rfl (pgs_cons (pg_name (i := 2) sc_law.nd rfl (Or.inl rfl)) (pgs_cons (pg_name (i := 3) sc_law.nd rfl (Or.inl rfl)) pgs_nil))))
 (pss_cons (ps_asg (pe_c c__law_small_web hr (by decide) (by rfl) (pa_cons (pv 1) (pa_cons (pv 2) pa_nil))) (pg_tup rfl (pgs_cons (pg_name (i := 2) sc_law.nd rfl (Or.inl rfl)) (pgs_cons (pg_name (i := 4) sc_law.nd rfl (Or.inl rfl)) pgs_nil))))
 (pss_cons (ps_set (i := 5) sc_law.nd rfl (Or.inl rfl) (pe_c c__law_table hr (by decide) (by rfl) (pa_cons (pv 1) (pa_cons (pv 3) pa_nil))))
 (pss_cons (ps_set (i := 6) sc_law.nd rfl (Or.inl rfl) (PF.pe_mkK cK_World hr (by decide) (by rfl) (pa_cons (pe_mk c_Web hr (by decide) (by rfl) (pa_cons (pv 2) (pa_cons (pe_tupleOf (by rfl) T.b_tuple (pv 4)) pa_nil))) (pa_cons (pv 3) pa_nil)) (pk_cons (pv 5) pk_nil)))
 (pss_cons (ps_set (i := 7) sc_law.nd rfl (Or.inl rfl) (pe_c c__law_floor hr (by decide) (by rfl) (pa_cons (pv 1) (pa_cons (pv 2) (pa_cons (pv 3) pa_nil)))))
 (pss_cons (ps_asg (pe_c c__law_run hr (by decide) (by rfl) (pa_cons (pv 1) (pa_cons (pv 4) (pa_cons (pv 3) (pa_cons (pv 5) (pa_cons (pv 7) (pa_cons pe_int pa_nil))))))) (pg_tup rfl (pgs_cons (pg_name (i := 8) sc_law.nd rfl (Or.inl rfl)) (pgs_cons (pg_name (i := 9) sc_law.nd rfl (Or.inl rfl)) pgs_nil))))
 (C8.pss_cut (ps_if (pt_cmpR op_eq (pe_c c__law_take hr (by decide) (by rfl) (pa_cons (pv 1) (pa_cons pe_int pa_nil))) pe_int (nomark _))
 (pss_one (ps_set (i := 9) sc_law.nd rfl (Or.inl rfl) (pe_c c__law_floor hr (by decide) (by rfl) (pa_cons (pv 1) (pa_cons (pv 2) (pa_cons (pv 3) pa_nil))))))
 pss_nil)
 (pss_cons (ps_if (pt_not (pt_val (pe_c c__law_ways_right hr (by decide) (by rfl) (pa_cons (pv 6) (pa_cons (pv 7) (pa_cons (pv 9) pa_nil))))))
 (pss_one (ps_ret pe_bl))
 pss_nil)
 (pss_cons (ps_set (i := 10) sc_law.nd rfl (Or.inl rfl) (pe_c c__law_one hr (by decide) (by rfl) (pa_cons (pv 1) (pa_cons (pe_lst (pa_cons pe_int (pa_cons pe_int (pa_cons pe_int (pa_cons pe_int (pa_cons pe_int (pa_cons (pe_callB call_len_seq (by rfl) T.b_len PySem.boot_len (pa_cons (pv 8) pa_nil)) pa_nil))))))) pa_nil))))
 (pss_cons (ps_set (i := 11) sc_law.nd rfl (Or.inl rfl) (pe_c c__law_take hr (by decide) (by rfl) (pa_cons (pv 1) (pa_cons (pe_op op_add (pv 10) pe_int) pa_nil))))
 (pss_cons (ps_set (i := 12) sc_law.nd rfl (Or.inl rfl) pe_int)
 (pss_cons (ps_for PassesOwn.never rfl (pi_list (pe_c c__law_floors hr (by decide) (by rfl) (pa_cons (pv 2) (pa_cons (pv 3) pa_nil)))) (pg_name (i := 13) sc_law.nd rfl (Or.inl rfl))
 (pss_one (ps_set (i := 12) sc_law.nd rfl (Or.inl rfl) (pe_op op_add (pv 12) (pe_op op_mul (pe_c c_runs_of hr (by decide) (by rfl) (pa_cons (pv 6) (pa_cons (pv 7) (pa_cons (pv 13) (pa_cons (pv 11) pa_nil))))) (pe_c c_runs_of hr (by decide) (by rfl) (pa_cons (pv 6) (pa_cons (pv 13) (pa_cons (pv 9) (pa_cons (pe_op op_sub (pv 10) (pv 11)) pa_nil))))))))))
 (pss_one (ps_ret (pe_and (pe_cmpR op_eq (pe_c c_runs_of hr (by decide) (by rfl) (pa_cons (pv 6) (pa_cons (pv 7) (pa_cons (pv 9) (pa_cons (pv 10) pa_nil))))) (pv 12) (nomark _)) (pe_one (pe_cmpR op_eq (pe_c c_runs_of hr (by decide) (by rfl) (pa_cons (pv 6) (pa_cons (pv 9) (pa_cons (pv 7) (pa_cons (pv 10) pa_nil))))) (pv 12) (nomark _))))))))))))))))))), ?_⟩
  refine ⟨_, rfl, a, ns, 0, rfl, hS, by omega, fun H s s1 ns0 hs => ?_⟩
  refine ⟨_, rfl, ?_⟩
  dsimp only [tCons]
  refine lst_pairsE (ps := ps76) (by rfl) (by decide) fun H1 d s2 nd ⟨xs, hd, hxs⟩ => ?_
  have g1 := SF.same hs s2
  have xl : xs.length = 9 := by rw [hxs.length]; rfl
  refine ⟨s, d, xs, rfl, g1.src, hd, hs.ne nd, by omega, by omega, fun H2 v sf2 hv => ?_⟩
  obtain ⟨j, hj⟩ := List.mem_iff_getElem?.mp hv
  obtain ⟨⟨n0, k⟩, hp, tp⟩ := hxs.getF hj
  obtain ⟨⟨n1, n4⟩, ⟨k2, k6⟩, pw⟩ := ps76_ok _ (List.mem_of_getElem? hp)
  simp only at n1 n4 k2 k6 pw
  have g2 := g1.trans sf2
  obtain ⟨pa, rfl, hpa⟩ := tpP (tp.mono (sf2.tk g1.src))
  refine ⟨pa, _, rfl, SqT.of hpa, rfl, _, _, rfl, _, _, rfl, rfl, ?_⟩
  -- the web's links
  refine ⟨_, rfl, _, rfl, s, n0, rfl, g2.src, n1, by omega, fun H3 p l n ls sf3 hp3 nls hL wl h1 hn => ?_⟩
  have g3 := g2.trans sf3
  refine ⟨p, _, rfl, SqT.of hp3, rfl, _, _, rfl, _, _, rfl, rfl, ?_⟩
  -- the table
  refine ⟨_, rfl, _, rfl, s, k, rfl, g3.src, k2, k6, fun H4 tv tb sf4 htb tok => ?_⟩
  have g4 := g3.trans sf4
  obtain ⟨ys, hl4, hys⟩ := hL.sf sf4 g3.src nls
  have nn : n * n ≤ 16 := Nat.mul_le_mul (show n ≤ 4 by omega) (show n ≤ 4 by omega)
  have ll : ls.length ≤ 16 := Nat.le_trans (asc_len ls n wl.asc fun p hp => (let ⟨a, b⟩ := wl.lk p hp; ⟨by omega, b⟩)) nn
  refine ⟨_, rfl, _, rfl, .inl ⟨l, ys, rfl, SqL.of hl4, fun lt nlt => ?_⟩⟩
  have s5 := same_new (o := .tup ys) nlt
  obtain ⟨H5, e5⟩ : ∃ H5, H5 = upd H4 lt (.tup ys) := ⟨_, rfl⟩
  rw [← e5] at s5 ⊢
  have hlt5 : Tp H5 (.ref lt) (dLs ls) := .tup (by rw [e5, upd_same]) (hys.mono (same_ts s5))
  refine fun x dx nx ndx ne => ?_
  obtain ⟨H6, e6⟩ : ∃ H6, H6 = upd (upd H5 dx (.own x)) x (.ins (He.ga K "Web") dx []) := ⟨_, rfl⟩
  rw [← e6]
  have s6 : Same H5 H6 := by
    rw [e6]
    exact (same_new ndx).trans (same_new (by rw [upd_ne ne.symm]; exact nx))
  have hx6 : H6 x = some (.ins (He.ga K "Web") dx []) := by rw [e6, upd_same]
  refine ⟨x, dx, n, .ref lt, ls, rfl, hx6, hlt5.mono (same_ts s6), ⟨h1, by omega, by omega, wl.lk, wl.asc⟩, fun H7 rr fb7 hx7 hrows => ⟨rfl, ?_⟩⟩
  have s7 : Same H5 H7 := same_fb s6 fb7 nx
  refine ⟨_, rfl, _, rfl, rfl, rfl, fun y dy ny ndy ne2 => ?_⟩
  obtain ⟨H8, e8⟩ : ∃ H8, H8 = upd (upd H7 dy (.own y)) y (.ins (He.ga K "World") dy []) := ⟨_, rfl⟩
  rw [← e8]
  have s8 : Same H7 H8 := by
    rw [e8]
    exact (same_new ndy).trans (same_new (by rw [upd_ne ne2.symm]; exact ny))
  have hy8 : H8 y = some (.ins (He.ga K "World") dy []) := by rw [e8, upd_same]
  have s58 := s7.trans s8
  have tk48 := same_ts (s5.trans s58)
  refine ⟨y, dy, x, dx, k, n, .ref lt, rr, tv, ls, tb, rfl, hy8, s8 _ _ hx7, hlt5.mono (same_ts s58), hrows.same s8, htb.mono tk48, tok, fun H9 fb9 hW => ⟨rfl, ?_⟩⟩
  have s9 : Same H7 H9 := same_fb s8 fb9 ny
  have s49 : Same H4 H9 := s5.trans (s7.trans s9)
  have g9 := g4.trans (SF.same g4.src s49)
  obtain ⟨W, eW⟩ : ∃ W : WD, W = ⟨n, ls, k, tb⟩ := ⟨_, rfl⟩
  rw [← eW] at hW
  have ok : WOK W := by
    rw [eW]
    refine ⟨h1, by show n ≤ 40; omega, by show ls.length ≤ 160; omega, wl.lk, wl.asc, k2, k6, tok.ord, tok.tasc, ?_⟩
    show k ^ n ≤ 20000
    have := Nat.pow_le_pow_right (show 0 < k by omega) hn
    omega
  have eWs : W.size = n := by rw [eW]
  have eWl : W.links = ls := by rw [eW]
  have eWc : W.coats = k := by rw [eW]
  have eWt : W.table = tb := by rw [eW]
  have lok : LetOK W := ⟨fun p hp => (let ⟨a, b⟩ := ok.lk p hp; ⟨by omega, b⟩), by rw [eWl]; omega, by rw [eWc]; exact k6, by rw [eWt]; have := tab_len tok; omega⟩
  have hL9 : LsAt H9 l W.links := by
    rw [eWl]
    exact LsAt.same ⟨ys, hl4, hys⟩ s49
  have hT9 : Tp H9 tv (dLs W.table) := by
    rw [eWt]
    exact htb.mono (same_ts s49)
  -- the floors
  refine ⟨_, rfl, _, rfl, _, rfl, s, n, k, rfl, g9.src, by omega, by omega, by omega, fun H10 ov one sf10 hO l1 c1 => ?_⟩
  have hs9 := g9.src
  have ook : FlOK W one := ⟨by rw [eWs]; exact l1, by rw [eWc]; exact c1⟩
  have hO10 := hO
  have tk10 := sf10.tk hs9
  refine ⟨_, rfl, _, rfl, _, rfl, _, rfl, _, rfl, s, l, tv, ov, W, one, 4, by rw [eWc]; rfl, sf10.src, nls, hL9.sf sf10 hs9 nls, hT9.mono tk10, hO, lok, ook, by rw [eWs]; omega, by omega, fun H11 rp rv ev run two sf11 hrp hrv hev _ tok2 rl => ?_⟩
  have g11 := sf10.trans sf11
  refine ⟨rp, _, rfl, SqT.of hrp, rfl, _, _, rfl, _, _, rfl, rfl, ?_⟩
  obtain ⟨ra, rxs, rfl, hra, hrx⟩ := tpT hrv
  have rxl : rxs.length ≤ 4 := by
    rw [hrx.length, List.length_map]
    exact rl
  refine ⟨fun σ H' => SF s H9 H' ∧ ∃ tw two, Tp H' tw (dF two) ∧ Tp H' ov (dF one) ∧ FlOK W two ∧ H' ra = some (.tup rxs) ∧ σ = [some (.ref a), some (.ref s), some (vN n), some (vN k), some (.ref l), some tv, some (.ref y), some ov, some (.ref ra), some tw, none, none, none, none], ?_, ?_⟩
  · have tk11 := sf11.tk sf10.src
    refine ⟨_, rfl, s, 4, rfl, g11.src, by omega, by omega, fun H12 r sf12 hr12 => ⟨rfl, _, rfl, ?_⟩⟩
    have g12 := g11.trans sf12
    have tk12 := sf12.tk g11.src
    have hO12 := (hO.mono tk11).mono tk12
    rcases Bool.eq_false_or_eq_true (decide (vN r = V.int 0)) with e | e
    · refine itT e ⟨_, rfl, _, rfl, _, rfl, s, n, k, rfl, g12.src, by omega, by omega, by omega, fun H13 tw two2 sf13 hT13 l2 c2 => ?_⟩
      have tk13 := sf13.tk g12.src
      exact ⟨g12.trans sf13, tw, two2, hT13, hO12.mono tk13, ⟨by rw [eWs]; exact l2, by rw [eWc]; exact c2⟩, tk13 _ _ (tk12 _ _ hra), rfl⟩
    · exact itF e ⟨g12, ev, two, hev.mono tk12, hO12, tok2, tk12 _ _ hra, rfl⟩
  rintro σ H12 ⟨g12, tw, two, hT12, hO12, tok2, hra12, rfl⟩
  have sz1 : 1 ≤ W.size := ok.s1
  have hW12 := hW.sf g12 hs9 sz1
  refine ⟨_, rfl, _, rfl, _, rfl, .ref y, ov, tw, W, one, two, rfl, hW12, hO12, hT12, ok, ook, tok2, fun H13 s13 => ⟨true, rfl, iteF ?_⟩⟩
  have g13 := g12.trans (SF.same g12.src s13)
  have hra13 := s13 _ _ hra12
  -- the whole
  refine ⟨_, rfl, _, rfl, ra, _, rfl, .inr (SqT.of hra13), sz100k (by show 6 ≤ 100000; decide), fun dd ndd => ?_⟩
  have g14 := g13.new (o := .lst [.int 0, .int 1, .int 2, .int 3, .int 4, vN rxs.length]) ndd
  have s14 := s13.trans (same_new (o := .lst [.int 0, .int 1, .int 2, .int 3, .int 4, vN rxs.length]) ndd)
  refine ⟨s, dd, _, rfl, g14.src, upd_same, g13.nes ndd, by show 1 ≤ 6; omega, by show 6 ≤ 1000000; omega, fun H15 v sf15 hv => ?_⟩
  obtain ⟨t, rfl, ht⟩ : ∃ t : Nat, v = vN t ∧ t ≤ 4 := by
    simp only [List.mem_cons, List.not_mem_nil, or_false] at hv
    rcases hv with rfl | rfl | rfl | rfl | rfl | rfl
    · exact ⟨0, rfl, by omega⟩
    · exact ⟨1, rfl, by omega⟩
    · exact ⟨2, rfl, by omega⟩
    · exact ⟨3, rfl, by omega⟩
    · exact ⟨4, rfl, by omega⟩
    · exact ⟨_, rfl, rxl⟩
  have g15 := g14.trans sf15
  refine ⟨_, rfl, _, rfl, _, 1, rfl, rfl, s, t + 1, rfl, g15.src, by omega, by omega, fun H16 m sf16 hm => ?_⟩
  have g16 := g15.trans sf16
  have tk14 := sf15.tk g14.src
  have tk16 := sf16.tk g15.src
  have hO16 := ((hO12.mono (same_ts s14)).mono tk14).mono tk16
  have hT16 := ((hT12.mono (same_ts s14)).mono tk14).mono tk16
  have hW16 := hW.sf g16 hs9 sz1
  -- the sum
  refine ⟨_, rfl, _, rfl, n, k, rfl, by omega, by omega, by omega, ?_, fun H17 D zs s17 nD hD hzs => ?_⟩
  · have := ok.small
    unfold cntM at this
    rw [eWs, eWc] at this
    exact this
  have hzl : zs.length = (allF W).length := by
    rw [hzs.length, List.length_map]
    unfold allF
    rw [eWs, eWc]
  have hzs2 : TpAll H17 zs ((allF W).map dF) := by
    unfold allF
    rw [eWs, eWc]
    exact hzs
  have small : ∀ i f g, i ≤ 4 → FlOK W f → FlOK W g → cw W i f g ≤ 84934656 := fun i f g hi hf hg => by
    have h1 := cw_le (W := W) 96 (fun f hf => by
      have e1 := deeds_len ok f W.links
      have e2 : W.links.length ≤ 16 := by rw [eWl]; exact ll
      have e3 : (deedsM W f).length ≤ W.links.length * 6 := e1
      omega) hf hg i
    have h2 : 96 ^ i ≤ 96 ^ 4 := Nat.pow_le_pow_right (by omega) hi
    omega
  refine ⟨D, rfl, ⟨_, SqL.of hD⟩, for_list (K := K) (a := D) (xs := zs) (fun i σ H' => Same H17 H' ∧ ∃ x13, σ = [some (.ref a), some (.ref s), some (vN n), some (vN k), some (.ref l), some tv, some (.ref y), some ov, some (.ref ra), some tw, some (vN t), some (vN m), some (vN (sumL ((allF W).take i) fun h => cw W m one h * cw W (t - m) h two)), x13])
    ⟨Same.refl _, none, rfl⟩ (fun i σ H' _ p => SqL.of (p.1 _ _ hD)) ?_ ?_⟩
  · rintro i v σ H18 hv ⟨sm, x13, rfl⟩
    obtain ⟨fl, hfl, tf⟩ := hzs2.getF hv
    have flo : FlOK W fl := mem_allF.mp (List.mem_of_getElem? hfl)
    have sA := s17.trans sm
    refine ⟨_, rfl, ?_⟩
    refine ⟨_, rfl, _, rfl, _, rfl, _, rfl, .ref y, ov, v, W, one, fl, m, rfl, hW16.same sA, hO16.mono (same_ts sA), tf.mono (same_ts sm), ok, ook, flo, by omega, fun H19 s19 => ?_⟩
    have sB := sA.trans s19
    refine ⟨_, rfl, _, rfl, _, rfl, _, rfl, _, rfl, _, _, rfl, rfl, .ref y, v, tw, W, fl, two, t - m, ?_, hW16.same sB, (tf.mono (same_ts sm)).mono (same_ts s19), hT16.mono (same_ts sB), ok, flo, tok2, by omega, fun H20 s20 => ?_⟩
    · show [V.ref y, v, tw, V.int ((t : Int) - (m : Int))] = _
      rw [show (t : Int) - (m : Int) = ((t - m : Nat) : Int) by omega]
    · have c1 := small m one fl (by omega) ook flo
      refine ⟨_, _, rfl, rfl, .inl ⟨by omega, by omega⟩, _, _, rfl, rfl, sm.trans (s19.trans s20), some v, ?_⟩
      have e : (allF W).take (i + 1) = (allF W).take i ++ [fl] := by rw [List.take_add_one, hfl]; rfl
      rw [e, sumL_app, sumL_cons, sumL_nil, Nat.add_zero]
      show _ = [_, _, _, _, _, _, _, _, _, _, _, _, some (V.int _), _]
      rw [Int.natCast_add, Int.natCast_mul]
      rfl
  · rintro σ H18 ⟨sm, x13, rfl⟩
    have sA := s17.trans sm
    have esum : (sumL ((allF W).take zs.length) fun h => cw W m one h * cw W (t - m) h two) = cw W t one two := by
      rw [hzl, List.take_length, ← cw_add m (t - m) tok2, show m + (t - m) = t by omega]
    rw [esum]
    refine ⟨_, rfl, _, rfl, _, rfl, _, rfl, .ref y, ov, tw, W, one, two, t, rfl, hW16.same sA, hO16.mono (same_ts sA), hT16.mono (same_ts sA), ok, ook, tok2, by omega, fun H19 s19 => ?_⟩
    have sB := sA.trans s19
    refine ⟨_, rfl, rfl, true, bt rfl, iteT ?_⟩
    refine ⟨_, rfl, _, rfl, _, rfl, _, rfl, .ref y, tw, ov, W, two, one, t, rfl, hW16.same sB, hT16.mono (same_ts sB), hO16.mono (same_ts sB), ok, tok2, ook, by omega, fun H20 s20 => ?_⟩
    refine ⟨_, rfl, rfl, ?_⟩
    rw [cw_symm ok t tok2 ook]
    rw [show V.bl (decide (V.int ((cw W t one two : Nat) : Int) = V.int ((cw W t one two : Nat) : Int))) = .bl true from bt rfl]
    exact q H20
end
end PF
namespace PF
namespace Hd
open PySem PySem.Spec PyProof.Rows L2
open C8 (Cal Mak Met pe_c pe_mk pe_gc pe_mt pe_mt0)
open PFM hiding ltP
def d_checked_floor : He.DefD := ⟨("checked_floor", none), "checked_floor", "checked_floor", defArgs s_checked_floor, defBody s_checked_floor, defScope s_checked_floor, [], []⟩
def d_checked_table : He.DefD := ⟨("checked_table", none), "checked_table", "checked_table", defArgs s_checked_table, defBody s_checked_table, defScope s_checked_table, [], []⟩
def d_want_joined_coats : He.DefD := ⟨("want_joined_coats", none), "want_joined_coats", "want_joined_coats", defArgs s_want_joined_coats, defBody s_want_joined_coats, defScope s_want_joined_coats, [], []⟩
def d_is_change : He.DefD := ⟨("is_change", none), "is_change", "is_change", defArgs s_is_change, defBody s_is_change, defScope s_is_change, [], []⟩
def d_done : He.DefD := ⟨("done", none), "done", "done", defArgs s_done, defBody s_done, defScope s_done, [], []⟩
def d_deeds : He.DefD := ⟨("deeds", none), "deeds", "deeds", defArgs s_deeds, defBody s_deeds, defScope s_deeds, [], []⟩
def d_floor_count : He.DefD := ⟨("floor_count", none), "floor_count", "floor_count", defArgs s_floor_count, defBody s_floor_count, defScope s_floor_count, [], []⟩
def d_want_small : He.DefD := ⟨("want_small", none), "want_small", "want_small", defArgs s_want_small, defBody s_want_small, defScope s_want_small, [], []⟩
def d_number_of : He.DefD := ⟨("number_of", none), "number_of", "number_of", defArgs s_number_of, defBody s_number_of, defScope s_number_of, [], []⟩
def d_far : He.DefD := ⟨("far", none), "far", "far", defArgs s_far, defBody s_far, defScope s_far, [], []⟩
def d_nearer : He.DefD := ⟨("nearer", none), "nearer", "nearer", defArgs s_nearer, defBody s_nearer, defScope s_nearer, [], []⟩
def d_shortest : He.DefD := ⟨("shortest", none), "shortest", "shortest", defArgs s_shortest, defBody s_shortest, defScope s_shortest, [], []⟩
def d_runs_of : He.DefD := ⟨("runs_of", none), "runs_of", "runs_of", defArgs s_runs_of, defBody s_runs_of, defScope s_runs_of, [], []⟩
def d_stepped_counts : He.DefD := ⟨("stepped_counts", none), "stepped_counts", "stepped_counts", defArgs s_stepped_counts, defBody s_stepped_counts, defScope s_stepped_counts, [], []⟩
def d__law_pool : He.DefD := ⟨("_law_pool", none), "_law_pool", "_law_pool", defArgs s__law_pool, defBody s__law_pool, defScope s__law_pool, [], []⟩
def d__law_take : He.DefD := ⟨("_law_take", none), "_law_take", "_law_take", defArgs s__law_take, defBody s__law_take, defScope s__law_take, [], []⟩
def d__law_one : He.DefD := ⟨("_law_one", none), "_law_one", "_law_one", defArgs s__law_one, defBody s__law_one, defScope s__law_one, [], []⟩
def d__law_shuffled : He.DefD := ⟨("_law_shuffled", none), "_law_shuffled", "_law_shuffled", defArgs s__law_shuffled, defBody s__law_shuffled, defScope s__law_shuffled, [], []⟩
def d__law_near : He.DefD := ⟨("_law_near", none), "_law_near", "_law_near", defArgs s__law_near, defBody s__law_near, defScope s__law_near, [], []⟩
def d__law_link : He.DefD := ⟨("_law_link", none), "_law_link", "_law_link", defArgs s__law_link, defBody s__law_link, defScope s__law_link, [], []⟩
def d__law_corner : He.DefD := ⟨("_law_corner", none), "_law_corner", "_law_corner", defArgs s__law_corner, defBody s__law_corner, defScope s__law_corner, [], []⟩
def d__law_bridge : He.DefD := ⟨("_law_bridge", none), "_law_bridge", "_law_bridge", defArgs s__law_bridge, defBody s__law_bridge, defScope s__law_bridge, [], []⟩
def d__law_renamed : He.DefD := ⟨("_law_renamed", none), "_law_renamed", "_law_renamed", defArgs s__law_renamed, defBody s__law_renamed, defScope s__law_renamed, [], []⟩
def d__law_stout : He.DefD := ⟨("_law_stout", none), "_law_stout", "_law_stout", defArgs s__law_stout, defBody s__law_stout, defScope s__law_stout, [], []⟩
def d__law_round : He.DefD := ⟨("_law_round", none), "_law_round", "_law_round", defArgs s__law_round, defBody s__law_round, defScope s__law_round, [], []⟩
def d__law_any : He.DefD := ⟨("_law_any", none), "_law_any", "_law_any", defArgs s__law_any, defBody s__law_any, defScope s__law_any, [], []⟩
def d__law_table : He.DefD := ⟨("_law_table", none), "_law_table", "_law_table", defArgs s__law_table, defBody s__law_table, defScope s__law_table, [], []⟩
def d__law_floor : He.DefD := ⟨("_law_floor", none), "_law_floor", "_law_floor", defArgs s__law_floor, defBody s__law_floor, defScope s__law_floor, [], []⟩
def d__law_let : He.DefD := ⟨("_law_let", none), "_law_let", "_law_let", defArgs s__law_let, defBody s__law_let, defScope s__law_let, [], []⟩
def d__law_done : He.DefD := ⟨("_law_done", none), "_law_done", "_law_done", defArgs s__law_done, defBody s__law_done, defScope s__law_done, [], []⟩
def d__law_run : He.DefD := ⟨("_law_run", none), "_law_run", "_law_run", defArgs s__law_run, defBody s__law_run, defScope s__law_run, [], []⟩
def d__law_small_web : He.DefD := ⟨("_law_small_web", none), "_law_small_web", "_law_small_web", defArgs s__law_small_web, defBody s__law_small_web, defScope s__law_small_web, [], []⟩
def d__law_number : He.DefD := ⟨("_law_number", none), "_law_number", "_law_number", defArgs s__law_number, defBody s__law_number, defScope s__law_number, [], []⟩
def d__law_floors : He.DefD := ⟨("_law_floors", none), "_law_floors", "_law_floors", defArgs s__law_floors, defBody s__law_floors, defScope s__law_floors, [], []⟩
def d__law_ways_right : He.DefD := ⟨("_law_ways_right", none), "_law_ways_right", "_law_ways_right", defArgs s__law_ways_right, defBody s__law_ways_right, defScope s__law_ways_right, [], []⟩
def d_law : He.DefD := ⟨("law", none), "law", "law", defArgs s_law, defBody s_law, defScope s_law, [], []⟩
def d_Web___init__ : He.DefD := ⟨("Web", some "__init__"), "__init__", "Web.__init__", defArgs s_Web___init__, defBody s_Web___init__, defScope s_Web___init__, [], []⟩
def d_World___init__ : He.DefD := ⟨("World", some "__init__"), "__init__", "World.__init__", defArgs s_World___init__, defBody s_World___init__, defScope s_World___init__, [], [("table", .non)]⟩
def fn : List He.DefD := [d_checked_floor, d_checked_table, d_want_joined_coats, d_is_change, d_done, d_deeds, d_floor_count, d_want_small, d_number_of, d_far, d_nearer, d_shortest, d_runs_of, d_stepped_counts, d__law_pool, d__law_take, d__law_one, d__law_shuffled, d__law_near, d__law_link, d__law_corner, d__law_bridge, d__law_renamed, d__law_stout, d__law_round, d__law_any, d__law_table, d__law_floor, d__law_let, d__law_done, d__law_run, d__law_small_web, d__law_number, d__law_floors, d__law_ways_right, d_law, d_Web___init__, d_World___init__]
def fa : List He.Fa := [.glo "checked_floor", .glo "checked_table", .glo "want_joined_coats", .glo "is_change", .glo "done", .glo "deeds", .glo "floor_count", .glo "want_small", .glo "number_of", .glo "far", .glo "nearer", .glo "shortest", .glo "runs_of", .glo "stepped_counts", .glo "_law_pool", .glo "_law_take", .glo "_law_one", .glo "_law_shuffled", .glo "_law_near", .glo "_law_link", .glo "_law_corner", .glo "_law_bridge", .glo "_law_renamed", .glo "_law_stout", .glo "_law_round", .glo "_law_any", .glo "_law_table", .glo "_law_floor", .glo "_law_let", .glo "_law_done", .glo "_law_run", .glo "_law_small_web", .glo "_law_number", .glo "_law_floors", .glo "_law_ways_right", .glo "law", .free "enumerate", .free "int", .free "len", .free "max", .free "min", .free "range", .free "sorted", .free "tuple", .int "MOST_CELLS" 40, .int "MOST_LINKS" 160, .int "SMALL" 20000, .int "MOST_STEPS" 12, .int "MOST_COATS" 6, .glo "Web", .cls "Web", .mkr "Web", .noat "Web" "size", .noat "Web" "links", .noat "Web" "_rows", .meth "Web" "near", .meth "Web" "linked", .glo "World", .cls "World", .mkr "World", .noat "World" "web", .noat "World" "coats", .noat "World" "table"]
def loose0 : List PySem.Str := ["_wall", "Refused", "BadSize", "BadCount", "BadLink", "TooMany", "BadTable", "Loose", "BadCoat", "TooLarge", "MOST_CELLS", "MOST_LINKS", "Web", "checked_floor", "checked_table", "want_joined_coats", "is_change", "done", "deeds", "SMALL", "floor_count", "want_small", "number_of", "far", "nearer", "shortest", "MOST_STEPS", "runs_of", "stepped_counts", "MOST_COATS"]
def loose1 : List PySem.Str := ["World", "_law_pool", "_law_take", "_law_one", "_law_shuffled", "_law_near", "_law_link", "_law_corner", "_law_bridge", "_law_renamed", "_law_stout", "_law_round", "_law_any", "_law_table", "_law_floor", "_law_let", "_law_done", "_law_run", "_law_small_web", "_law_number", "_law_floors", "_law_ways_right"]
def loose : List PySem.Str := loose0 ++ loose1
abbrev R : PySem.W.OpenRow := PySem.W.OpenLaw.row PySem.Challenge.rw_pairfloors_k76_runs_both_ways_and_over_t
abbrev hk : PySem.W.Hook := He.hookD 5 fa fn
def ob (s : PySem.W.SharedT) : He.AlD := He.obsDG 5 fa fn (HandSHeadRun.getT s)
theorem ob_eq (s : PySem.W.SharedT) : ob s = hk.obs s.abs := He.obsDG_eq (HandSHeadRun.getT_eq s)
theorem run (w : World) : HandSHeadRun.RunEq R (PySem.W.view R.prog [62]) hk ob 6000 loose w := by
  intro os
  kernel_rfl
theorem txt {K : PySem.W.Frag} {h : Heap} {mg : Str → Option Value} (X : K.In h) (G : h.Ns mainGlobals mg) (c : He.SaysD fa fn K) : Txt K mg := {
  b_enumerate := He.free_ok X G (c.fact 36 (f := .free "enumerate") rfl)
  b_int := He.free_ok X G (c.fact 37 (f := .free "int") rfl)
  b_len := He.free_ok X G (c.fact 38 (f := .free "len") rfl)
  b_max := He.free_ok X G (c.fact 39 (f := .free "max") rfl)
  b_min := He.free_ok X G (c.fact 40 (f := .free "min") rfl)
  b_range := He.free_ok X G (c.fact 41 (f := .free "range") rfl)
  b_sorted := He.free_ok X G (c.fact 42 (f := .free "sorted") rfl)
  b_tuple := He.free_ok X G (c.fact 43 (f := .free "tuple") rfl)
  c_MOST_CELLS := (let ⟨t, e⟩ := He.int_ok X G (c.fact 44 (f := .int "MOST_CELLS" 40) rfl); ⟨_, e, t, rfl⟩)
  c_MOST_LINKS := (let ⟨t, e⟩ := He.int_ok X G (c.fact 45 (f := .int "MOST_LINKS" 160) rfl); ⟨_, e, t, rfl⟩)
  c_SMALL := (let ⟨t, e⟩ := He.int_ok X G (c.fact 46 (f := .int "SMALL" 20000) rfl); ⟨_, e, t, rfl⟩)
  c_MOST_STEPS := (let ⟨t, e⟩ := He.int_ok X G (c.fact 47 (f := .int "MOST_STEPS" 12) rfl); ⟨_, e, t, rfl⟩)
  c_MOST_COATS := (let ⟨t, e⟩ := He.int_ok X G (c.fact 48 (f := .int "MOST_COATS" 6) rfl); ⟨_, e, t, rfl⟩)
  cl_Web := He.cls_ok (c.fact 50 (f := .cls "Web") rfl)
  n_Web_size := He.noat_ok (c.fact 52 (f := .noat "Web" "size") rfl)
  n_Web_links := He.noat_ok (c.fact 53 (f := .noat "Web" "links") rfl)
  n_Web__rows := He.noat_ok (c.fact 54 (f := .noat "Web" "_rows") rfl)
  cl_World := He.cls_ok (c.fact 58 (f := .cls "World") rfl)
  n_World_web := He.noat_ok (c.fact 60 (f := .noat "World" "web") rfl)
  n_World_coats := He.noat_ok (c.fact 61 (f := .noat "World" "coats") rfl)
  n_World_table := He.noat_ok (c.fact 62 (f := .noat "World" "table") rfl)
}
theorem vals_app {vs zs : List V} {us ws : List Value} (h1 : Vals vs us) (h2 : Vals zs ws) : Vals (vs ++ zs) (us ++ ws) := by
  induction h1 with
  | nil => exact h2
  | cons a _ ih => exact .cons a ih
theorem facts {P : Program} {w : World} {K : PySem.W.Frag} {h : Heap} {mg : Str → Option Value} {f : Addr} (X : K.In h) (G : h.Ns mainGlobals mg) (hfa : mg ("law" : Str) = some (.ref f)) (c : He.SaysD fa fn K) :
    ∃ fd : FuncData, (∀ (s : Shared) (v : Value), BindsTo s fd ⟨[v], []⟩ [("_law_script", v)]) ∧ ∀ base : Heap, K.In base → base.Ns mainGlobals mg → FnOk P w K mg base CX0 6 f fd ["_law_script"] (spLaw K) := by
  have T := txt X G c
  obtain ⟨fd__law_pool, F__law_pool⟩ := c.def_ 14 (d := d__law_pool) rfl
  have g__law_pool := He.glo_ok X G (c.fact 14 (f := .glo "_law_pool") rfl)
  have B__law_pool := FunD.bindsN (ps := ["_law_script", "_law_k"]) F__law_pool fun _ _ _ _ _ _ us hl => match us, hl with | [_, _], _ => rfl
  obtain ⟨fd__law_take, F__law_take⟩ := c.def_ 15 (d := d__law_take) rfl
  have g__law_take := He.glo_ok X G (c.fact 15 (f := .glo "_law_take") rfl)
  have B__law_take := FunD.bindsN (ps := ["_law_source", "_law_top"]) F__law_take fun _ _ _ _ _ _ us hl => match us, hl with | [_, _], _ => rfl
  obtain ⟨fd__law_one, F__law_one⟩ := c.def_ 16 (d := d__law_one) rfl
  have g__law_one := He.glo_ok X G (c.fact 16 (f := .glo "_law_one") rfl)
  have B__law_one := FunD.bindsN (ps := ["_law_source", "_law_things"]) F__law_one fun _ _ _ _ _ _ us hl => match us, hl with | [_, _], _ => rfl
  obtain ⟨fd__law_near, F__law_near⟩ := c.def_ 18 (d := d__law_near) rfl
  have g__law_near := He.glo_ok X G (c.fact 18 (f := .glo "_law_near") rfl)
  have B__law_near := FunD.bindsN (ps := ["_law_links", "_law_x"]) F__law_near fun _ _ _ _ _ _ us hl => match us, hl with | [_, _], _ => rfl
  obtain ⟨fd__law_corner, F__law_corner⟩ := c.def_ 20 (d := d__law_corner) rfl
  have g__law_corner := He.glo_ok X G (c.fact 20 (f := .glo "_law_corner") rfl)
  have B__law_corner := FunD.bindsN (ps := ["_law_source", "_law_size", "_law_links"]) F__law_corner fun _ _ _ _ _ _ us hl => match us, hl with | [_, _, _], _ => rfl
  obtain ⟨fd__law_link, F__law_link⟩ := c.def_ 19 (d := d__law_link) rfl
  have g__law_link := He.glo_ok X G (c.fact 19 (f := .glo "_law_link") rfl)
  have B__law_link := FunD.bindsN (ps := ["_law_a", "_law_b"]) F__law_link fun _ _ _ _ _ _ us hl => match us, hl with | [_, _], _ => rfl
  obtain ⟨fd__law_bridge, F__law_bridge⟩ := c.def_ 21 (d := d__law_bridge) rfl
  have g__law_bridge := He.glo_ok X G (c.fact 21 (f := .glo "_law_bridge") rfl)
  have B__law_bridge := FunD.bindsN (ps := ["_law_source", "_law_size", "_law_links"]) F__law_bridge fun _ _ _ _ _ _ us hl => match us, hl with | [_, _, _], _ => rfl
  obtain ⟨fd__law_shuffled, F__law_shuffled⟩ := c.def_ 17 (d := d__law_shuffled) rfl
  have g__law_shuffled := He.glo_ok X G (c.fact 17 (f := .glo "_law_shuffled") rfl)
  have B__law_shuffled := FunD.bindsN (ps := ["_law_source", "_law_count"]) F__law_shuffled fun _ _ _ _ _ _ us hl => match us, hl with | [_, _], _ => rfl
  obtain ⟨fd__law_renamed, F__law_renamed⟩ := c.def_ 22 (d := d__law_renamed) rfl
  have g__law_renamed := He.glo_ok X G (c.fact 22 (f := .glo "_law_renamed") rfl)
  have B__law_renamed := FunD.bindsN (ps := ["_law_source", "_law_size", "_law_links"]) F__law_renamed fun _ _ _ _ _ _ us hl => match us, hl with | [_, _, _], _ => rfl
  obtain ⟨fd__law_stout, F__law_stout⟩ := c.def_ 23 (d := d__law_stout) rfl
  have g__law_stout := He.glo_ok X G (c.fact 23 (f := .glo "_law_stout") rfl)
  have B__law_stout := FunD.bindsN (ps := ["_law_source", "_law_most", "_law_kinds"]) F__law_stout fun _ _ _ _ _ _ us hl => match us, hl with | [_, _, _], _ => rfl
  obtain ⟨fd__law_round, F__law_round⟩ := c.def_ 24 (d := d__law_round) rfl
  have g__law_round := He.glo_ok X G (c.fact 24 (f := .glo "_law_round") rfl)
  have B__law_round := FunD.bindsN (ps := ["_law_source", "_law_count"]) F__law_round fun _ _ _ _ _ _ us hl => match us, hl with | [_, _], _ => rfl
  obtain ⟨fd__law_any, F__law_any⟩ := c.def_ 25 (d := d__law_any) rfl
  have g__law_any := He.glo_ok X G (c.fact 25 (f := .glo "_law_any") rfl)
  have B__law_any := FunD.bindsN (ps := ["_law_source", "_law_count"]) F__law_any fun _ _ _ _ _ _ us hl => match us, hl with | [_, _], _ => rfl
  obtain ⟨fd__law_small_web, F__law_small_web⟩ := c.def_ 31 (d := d__law_small_web) rfl
  have g__law_small_web := He.glo_ok X G (c.fact 31 (f := .glo "_law_small_web") rfl)
  have B__law_small_web := FunD.bindsN (ps := ["_law_source", "_law_size"]) F__law_small_web fun _ _ _ _ _ _ us hl => match us, hl with | [_, _], _ => rfl
  obtain ⟨fd__law_table, F__law_table⟩ := c.def_ 26 (d := d__law_table) rfl
  have g__law_table := He.glo_ok X G (c.fact 26 (f := .glo "_law_table") rfl)
  have B__law_table := FunD.bindsN (ps := ["_law_source", "_law_coats"]) F__law_table fun _ _ _ _ _ _ us hl => match us, hl with | [_, _], _ => rfl
  obtain ⟨fd__law_floor, F__law_floor⟩ := c.def_ 27 (d := d__law_floor) rfl
  have g__law_floor := He.glo_ok X G (c.fact 27 (f := .glo "_law_floor") rfl)
  have B__law_floor := FunD.bindsN (ps := ["_law_source", "_law_size", "_law_coats"]) F__law_floor fun _ _ _ _ _ _ us hl => match us, hl with | [_, _, _], _ => rfl
  obtain ⟨fd__law_let, F__law_let⟩ := c.def_ 28 (d := d__law_let) rfl
  have g__law_let := He.glo_ok X G (c.fact 28 (f := .glo "_law_let") rfl)
  have B__law_let := FunD.bindsN (ps := ["_law_links", "_law_coats", "_law_pairs", "_law_floor_here"]) F__law_let fun _ _ _ _ _ _ us hl => match us, hl with | [_, _, _, _], _ => rfl
  obtain ⟨fd__law_done, F__law_done⟩ := c.def_ 29 (d := d__law_done) rfl
  have g__law_done := He.glo_ok X G (c.fact 29 (f := .glo "_law_done") rfl)
  have B__law_done := FunD.bindsN (ps := ["_law_floor_here", "_law_deed"]) F__law_done fun _ _ _ _ _ _ us hl => match us, hl with | [_, _], _ => rfl
  obtain ⟨fd__law_run, F__law_run⟩ := c.def_ 30 (d := d__law_run) rfl
  have g__law_run := He.glo_ok X G (c.fact 30 (f := .glo "_law_run") rfl)
  have B__law_run := FunD.bindsN (ps := ["_law_source", "_law_links", "_law_coats", "_law_pairs", "_law_floor_here", "_law_most"]) F__law_run fun _ _ _ _ _ _ us hl => match us, hl with | [_, _, _, _, _, _], _ => rfl
  obtain ⟨fd_floor_count, F_floor_count⟩ := c.def_ 6 (d := d_floor_count) rfl
  have g_floor_count := He.glo_ok X G (c.fact 6 (f := .glo "floor_count") rfl)
  have B_floor_count := FunD.bindsN (ps := ["world"]) F_floor_count fun _ _ _ _ _ _ us hl => match us, hl with | [_], _ => rfl
  obtain ⟨fd_want_small, F_want_small⟩ := c.def_ 7 (d := d_want_small) rfl
  have g_want_small := He.glo_ok X G (c.fact 7 (f := .glo "want_small") rfl)
  have B_want_small := FunD.bindsN (ps := ["world"]) F_want_small fun _ _ _ _ _ _ us hl => match us, hl with | [_], _ => rfl
  obtain ⟨fd_checked_floor, F_checked_floor⟩ := c.def_ 0 (d := d_checked_floor) rfl
  have g_checked_floor := He.glo_ok X G (c.fact 0 (f := .glo "checked_floor") rfl)
  have B_checked_floor := FunD.bindsN (ps := ["world", "floor"]) F_checked_floor fun _ _ _ _ _ _ us hl => match us, hl with | [_, _], _ => rfl
  obtain ⟨fd_number_of, F_number_of⟩ := c.def_ 8 (d := d_number_of) rfl
  have g_number_of := He.glo_ok X G (c.fact 8 (f := .glo "number_of") rfl)
  have B_number_of := FunD.bindsN (ps := ["world", "floor"]) F_number_of fun _ _ _ _ _ _ us hl => match us, hl with | [_, _], _ => rfl
  obtain ⟨fd_is_change, F_is_change⟩ := c.def_ 3 (d := d_is_change) rfl
  have g_is_change := He.glo_ok X G (c.fact 3 (f := .glo "is_change") rfl)
  have B_is_change := FunD.bindsN (ps := ["table", "p", "r"]) F_is_change fun _ _ _ _ _ _ us hl => match us, hl with | [_, _, _], _ => rfl
  obtain ⟨fd_deeds, F_deeds⟩ := c.def_ 5 (d := d_deeds) rfl
  have g_deeds := He.glo_ok X G (c.fact 5 (f := .glo "deeds") rfl)
  have B_deeds := FunD.bindsN (ps := ["world", "floor"]) F_deeds fun _ _ _ _ _ _ us hl => match us, hl with | [_, _], _ => rfl
  obtain ⟨fd_done, F_done⟩ := c.def_ 4 (d := d_done) rfl
  have g_done := He.glo_ok X G (c.fact 4 (f := .glo "done") rfl)
  have B_done := FunD.bindsN (ps := ["floor", "deed"]) F_done fun _ _ _ _ _ _ us hl => match us, hl with | [_, _], _ => rfl
  obtain ⟨fd_far, F_far⟩ := c.def_ 9 (d := d_far) rfl
  have g_far := He.glo_ok X G (c.fact 9 (f := .glo "far") rfl)
  have B_far := FunD.bindsN (ps := ["world", "floor"]) F_far fun _ _ _ _ _ _ us hl => match us, hl with | [_, _], _ => rfl
  obtain ⟨fd_nearer, F_nearer⟩ := c.def_ 10 (d := d_nearer) rfl
  have g_nearer := He.glo_ok X G (c.fact 10 (f := .glo "nearer") rfl)
  have B_nearer := FunD.bindsN (ps := ["world", "apart", "here"]) F_nearer fun _ _ _ _ _ _ us hl => match us, hl with | [_, _, _], _ => rfl
  obtain ⟨fd_shortest, F_shortest⟩ := c.def_ 11 (d := d_shortest) rfl
  have g_shortest := He.glo_ok X G (c.fact 11 (f := .glo "shortest") rfl)
  have B_shortest := FunD.bindsN (ps := ["world", "one", "two"]) F_shortest fun _ _ _ _ _ _ us hl => match us, hl with | [_, _, _], _ => rfl
  obtain ⟨fd__law_number, F__law_number⟩ := c.def_ 32 (d := d__law_number) rfl
  have g__law_number := He.glo_ok X G (c.fact 32 (f := .glo "_law_number") rfl)
  have B__law_number := FunD.bindsN (ps := ["_law_floor_here", "_law_coats"]) F__law_number fun _ _ _ _ _ _ us hl => match us, hl with | [_, _], _ => rfl
  obtain ⟨fd__law_ways_right, F__law_ways_right⟩ := c.def_ 34 (d := d__law_ways_right) rfl
  have g__law_ways_right := He.glo_ok X G (c.fact 34 (f := .glo "_law_ways_right") rfl)
  have B__law_ways_right := FunD.bindsN (ps := ["_law_world", "_law_one_here", "_law_two"]) F__law_ways_right fun _ _ _ _ _ _ us hl => match us, hl with | [_, _, _], _ => rfl
  obtain ⟨fd__law_floors, F__law_floors⟩ := c.def_ 33 (d := d__law_floors) rfl
  have g__law_floors := He.glo_ok X G (c.fact 33 (f := .glo "_law_floors") rfl)
  have B__law_floors := FunD.bindsN (ps := ["_law_size", "_law_coats"]) F__law_floors fun _ _ _ _ _ _ us hl => match us, hl with | [_, _], _ => rfl
  obtain ⟨fd_stepped_counts, F_stepped_counts⟩ := c.def_ 13 (d := d_stepped_counts) rfl
  have g_stepped_counts := He.glo_ok X G (c.fact 13 (f := .glo "stepped_counts") rfl)
  have B_stepped_counts := FunD.bindsN (ps := ["world", "counts", "known"]) F_stepped_counts fun _ _ _ _ _ _ us hl => match us, hl with | [_, _, _], _ => rfl
  obtain ⟨fd_runs_of, F_runs_of⟩ := c.def_ 12 (d := d_runs_of) rfl
  have g_runs_of := He.glo_ok X G (c.fact 12 (f := .glo "runs_of") rfl)
  have B_runs_of := FunD.bindsN (ps := ["world", "one", "two", "n"]) F_runs_of fun _ _ _ _ _ _ us hl => match us, hl with | [_, _, _, _], _ => rfl
  obtain ⟨fd_Web___init__, F_Web___init__⟩ := c.def_ 36 (d := d_Web___init__) rfl
  have g_Web___init__ := He.glo_ok X G (c.fact 49 (f := .glo "Web") rfl)
  have m_Web___init__ := He.mkr_ok (c.fact 51 (f := .mkr "Web") rfl)
  have B_Web___init__ := FunD.bindsN (ps := ["self", "size", "links"]) F_Web___init__ fun _ _ _ _ _ _ us hl => match us, hl with | [_, _, _], _ => rfl
  obtain ⟨fd_want_joined_coats, F_want_joined_coats⟩ := c.def_ 2 (d := d_want_joined_coats) rfl
  have g_want_joined_coats := He.glo_ok X G (c.fact 2 (f := .glo "want_joined_coats") rfl)
  have B_want_joined_coats := FunD.bindsN (ps := ["coats", "table"]) F_want_joined_coats fun _ _ _ _ _ _ us hl => match us, hl with | [_, _], _ => rfl
  obtain ⟨fd_checked_table, F_checked_table⟩ := c.def_ 1 (d := d_checked_table) rfl
  have g_checked_table := He.glo_ok X G (c.fact 1 (f := .glo "checked_table") rfl)
  have B_checked_table := FunD.bindsN (ps := ["coats", "table"]) F_checked_table fun _ _ _ _ _ _ us hl => match us, hl with | [_, _], _ => rfl
  obtain ⟨fd_World___init__, F_World___init__⟩ := c.def_ 37 (d := d_World___init__) rfl
  have g_World___init__ := He.glo_ok X G (c.fact 57 (f := .glo "World") rfl)
  have m_World___init__ := He.mkr_ok (c.fact 59 (f := .mkr "World") rfl)
  obtain ⟨mv_World___init__, B_World___init__⟩ := FunD.kbinds0 (ps := ["self", "web", "coats", "table"]) F_World___init__ 3 ["table"] [] (fun us _ ws => us ++ ws) (by exact List.cons_ne_nil _ _) (fun q hq => by cases hq) (fun h1 _ h2 => vals_app h1 h2) (fun D doc pm an cdv ct us mv ws l1 l2 l3 => match us, l1, mv, l2, ws, l3 with | [_, _, _], _, [], _, [_], _ => rfl)
  obtain ⟨fd_law, F_law⟩ := c.def_ 35 (d := d_law) rfl
  have e := hfa.symm.trans (He.glo_ok X G (c.fact 35 (f := .glo "law") rfl))
  cases e
  have b := FunD.bindsA (ps := ["_law_script"]) F_law fun _ _ _ _ _ _ us hl => match us, hl with | [_], _ => rfl
  refine ⟨fd_law, fun s v => b s [v] rfl, fun base _ _ => ?_⟩
  have c__law_pool : Cal P w K mg base 1 "_law_pool" (spPool K) [] := BodyOk.cal (b_law_pool T) F__law_pool g__law_pool sc__law_pool B__law_pool (by
    intro vs H Q E h
    repeat (first | (obtain ⟨rfl, _⟩ := h; rfl) | (obtain ⟨_, h⟩ := h)))
  have c__law_take : Cal P w K mg base 1 "_law_take" spTake [] := BodyOk.cal (b_law_take T) F__law_take g__law_take sc__law_take B__law_take (by
    intro vs H Q E h
    repeat (first | (obtain ⟨rfl, _⟩ := h; rfl) | (obtain ⟨_, h⟩ := h)))
  have c__law_one : Cal P w K mg base 2 "_law_one" spOne [] := BodyOk.cal (b_law_one T c__law_take) F__law_one g__law_one sc__law_one B__law_one (by
    intro vs H Q E h
    repeat (first | (obtain ⟨rfl, _⟩ := h; rfl) | (obtain ⟨_, h⟩ := h)))
  have c__law_near : Cal P w K mg base 1 "_law_near" spNearL [] := BodyOk.cal (b_law_near T) F__law_near g__law_near sc__law_near B__law_near (by
    intro vs H Q E h
    repeat (first | (obtain ⟨rfl, _⟩ := h; rfl) | (obtain ⟨_, h⟩ := h)))
  have c__law_corner : Cal P w K mg base 2 "_law_corner" (spGrow 1) [] := BodyOk.cal (b_law_corner T c__law_take c__law_near) F__law_corner g__law_corner sc__law_corner B__law_corner (by
    intro vs H Q E h
    repeat (first | (obtain ⟨rfl, _⟩ := h; rfl) | (obtain ⟨_, h⟩ := h)))
  have c__law_link : Cal P w K mg base 1 "_law_link" spLink [] := BodyOk.cal (b_law_link T) F__law_link g__law_link sc__law_link B__law_link (by
    intro vs H Q E h
    repeat (first | (obtain ⟨rfl, _⟩ := h; rfl) | (obtain ⟨_, h⟩ := h)))
  have c__law_bridge : Cal P w K mg base 3 "_law_bridge" (spGrow 0) [] := BodyOk.cal (b_law_bridge T c__law_take c__law_one c__law_near c__law_link) F__law_bridge g__law_bridge sc__law_bridge B__law_bridge (by
    intro vs H Q E h
    repeat (first | (obtain ⟨rfl, _⟩ := h; rfl) | (obtain ⟨_, h⟩ := h)))
  have c__law_shuffled : Cal P w K mg base 2 "_law_shuffled" spShuf [] := BodyOk.cal (b_law_shuffled T c__law_take) F__law_shuffled g__law_shuffled sc__law_shuffled B__law_shuffled (by
    intro vs H Q E h
    repeat (first | (obtain ⟨rfl, _⟩ := h; rfl) | (obtain ⟨_, h⟩ := h)))
  have c__law_renamed : Cal P w K mg base 3 "_law_renamed" spRen [] := BodyOk.cal (b_law_renamed T c__law_shuffled c__law_link) F__law_renamed g__law_renamed sc__law_renamed B__law_renamed (by
    intro vs H Q E h
    repeat (first | (obtain ⟨rfl, _⟩ := h; rfl) | (obtain ⟨_, h⟩ := h)))
  have c__law_stout : Cal P w K mg base 4 "_law_stout" spStout [] := BodyOk.cal (b_law_stout T c__law_take c__law_corner c__law_bridge c__law_renamed) F__law_stout g__law_stout sc__law_stout B__law_stout (by
    intro vs H Q E h
    repeat (first | (obtain ⟨rfl, _⟩ := h; rfl) | (obtain ⟨_, h⟩ := h)))
  have c__law_round : Cal P w K mg base 4 "_law_round" (spWebR 3 900) [] := BodyOk.cal (b_law_round T c__law_renamed) F__law_round g__law_round sc__law_round B__law_round (by
    intro vs H Q E h
    repeat (first | (obtain ⟨rfl, _⟩ := h; rfl) | (obtain ⟨_, h⟩ := h)))
  have c__law_any : Cal P w K mg base 2 "_law_any" (spWebR 1 100) [] := BodyOk.cal (b_law_any T c__law_take) F__law_any g__law_any sc__law_any B__law_any (by
    intro vs H Q E h
    repeat (first | (obtain ⟨rfl, _⟩ := h; rfl) | (obtain ⟨_, h⟩ := h)))
  have c__law_small_web : Cal P w K mg base 5 "_law_small_web" (spWebR 1 12) [] := BodyOk.cal (b_law_small_web T c__law_take c__law_stout c__law_round c__law_any) F__law_small_web g__law_small_web sc__law_small_web B__law_small_web (by
    intro vs H Q E h
    repeat (first | (obtain ⟨rfl, _⟩ := h; rfl) | (obtain ⟨_, h⟩ := h)))
  have c__law_table : Cal P w K mg base 3 "_law_table" spTab [] := BodyOk.cal (b_law_table T c__law_take c__law_one c__law_shuffled c__law_link) F__law_table g__law_table sc__law_table B__law_table (by
    intro vs H Q E h
    repeat (first | (obtain ⟨rfl, _⟩ := h; rfl) | (obtain ⟨_, h⟩ := h)))
  have c__law_floor : Cal P w K mg base 3 "_law_floor" spFlo [] := BodyOk.cal (b_law_floor T c__law_take c__law_one) F__law_floor g__law_floor sc__law_floor B__law_floor (by
    intro vs H Q E h
    repeat (first | (obtain ⟨rfl, _⟩ := h; rfl) | (obtain ⟨_, h⟩ := h)))
  have c__law_let : Cal P w K mg base 2 "_law_let" spLet [] := BodyOk.cal (b_law_let T c__law_link) F__law_let g__law_let sc__law_let B__law_let (by
    intro vs H Q E h
    repeat (first | (obtain ⟨rfl, _⟩ := h; rfl) | (obtain ⟨_, h⟩ := h)))
  have c__law_done : Cal P w K mg base 1 "_law_done" spDone [] := BodyOk.cal (b_law_done T) F__law_done g__law_done sc__law_done B__law_done (by
    intro vs H Q E h
    repeat (first | (obtain ⟨rfl, _⟩ := h; rfl) | (obtain ⟨_, h⟩ := h)))
  have c__law_run : Cal P w K mg base 3 "_law_run" spRunL [] := BodyOk.cal (b_law_run T c__law_take c__law_one c__law_let c__law_done) F__law_run g__law_run sc__law_run B__law_run (by
    intro vs H Q E h
    repeat (first | (obtain ⟨rfl, _⟩ := h; rfl) | (obtain ⟨_, h⟩ := h)))
  have c_floor_count : Cal P w K mg base 1 "floor_count" (spFC K) [] := BodyOk.cal (b_floor_count T) F_floor_count g_floor_count sc_floor_count B_floor_count (by
    intro vs H Q E h
    repeat (first | (obtain ⟨rfl, _⟩ := h; rfl) | (obtain ⟨_, h⟩ := h)))
  have c_want_small : Cal P w K mg base 2 "want_small" (spWS K) [] := BodyOk.cal (b_want_small T c_floor_count) F_want_small g_want_small sc_want_small B_want_small (by
    intro vs H Q E h
    repeat (first | (obtain ⟨rfl, _⟩ := h; rfl) | (obtain ⟨_, h⟩ := h)))
  have c_checked_floor : Cal P w K mg base 1 "checked_floor" (spCF K) [] := BodyOk.cal (b_checked_floor T) F_checked_floor g_checked_floor sc_checked_floor B_checked_floor (by
    intro vs H Q E h
    repeat (first | (obtain ⟨rfl, _⟩ := h; rfl) | (obtain ⟨_, h⟩ := h)))
  have c_number_of : Cal P w K mg base 1 "number_of" (spNum K) [] := BodyOk.cal (b_number_of T) F_number_of g_number_of sc_number_of B_number_of (by
    intro vs H Q E h
    repeat (first | (obtain ⟨rfl, _⟩ := h; rfl) | (obtain ⟨_, h⟩ := h)))
  have c_is_change : Cal P w K mg base 1 "is_change" spIC [] := BodyOk.cal (b_is_change T) F_is_change g_is_change sc_is_change B_is_change (by
    intro vs H Q E h
    repeat (first | (obtain ⟨rfl, _⟩ := h; rfl) | (obtain ⟨_, h⟩ := h)))
  have c_deeds : Cal P w K mg base 2 "deeds" (spDeeds K) [] := BodyOk.cal (b_deeds T c_checked_floor c_is_change) F_deeds g_deeds sc_deeds B_deeds (by
    intro vs H Q E h
    repeat (first | (obtain ⟨rfl, _⟩ := h; rfl) | (obtain ⟨_, h⟩ := h)))
  have c_done : Cal P w K mg base 1 "done" spDone [] := BodyOk.cal (b_done T) F_done g_done sc_done B_done (by
    intro vs H Q E h
    repeat (first | (obtain ⟨rfl, _⟩ := h; rfl) | (obtain ⟨_, h⟩ := h)))
  have c_far : Cal P w K mg base 3 "far" (spFar K) [] := BodyOk.cal (b_far T c_want_small c_checked_floor c_floor_count c_number_of c_deeds c_done) F_far g_far sc_far B_far (by
    intro vs H Q E h
    repeat (first | (obtain ⟨rfl, _⟩ := h; rfl) | (obtain ⟨_, h⟩ := h)))
  have c_nearer : Cal P w K mg base 3 "nearer" (spNear K) [] := BodyOk.cal (b_nearer T c_number_of c_deeds c_done) F_nearer g_nearer sc_nearer B_nearer (by
    intro vs H Q E h
    repeat (first | (obtain ⟨rfl, _⟩ := h; rfl) | (obtain ⟨_, h⟩ := h)))
  have c_shortest : Cal P w K mg base 4 "shortest" (spShort K) [] := BodyOk.cal (b_shortest T c_want_small c_checked_floor c_far c_nearer c_number_of c_done) F_shortest g_shortest sc_shortest B_shortest (by
    intro vs H Q E h
    repeat (first | (obtain ⟨rfl, _⟩ := h; rfl) | (obtain ⟨_, h⟩ := h)))
  have c__law_number : Cal P w K mg base 1 "_law_number" spNumL [] := BodyOk.cal (b_law_number T) F__law_number g__law_number sc__law_number B__law_number (by
    intro vs H Q E h
    repeat (first | (obtain ⟨rfl, _⟩ := h; rfl) | (obtain ⟨_, h⟩ := h)))
  have c__law_ways_right : Cal P w K mg base 5 "_law_ways_right" (spWays K) [] := BodyOk.cal (b_law_ways_right T c_shortest c_far c__law_number) F__law_ways_right g__law_ways_right sc__law_ways_right B__law_ways_right (by
    intro vs H Q E h
    repeat (first | (obtain ⟨rfl, _⟩ := h; rfl) | (obtain ⟨_, h⟩ := h)))
  have c__law_floors : Cal P w K mg base 1 "_law_floors" spFls [] := BodyOk.cal (b_law_floors T) F__law_floors g__law_floors sc__law_floors B__law_floors (by
    intro vs H Q E h
    repeat (first | (obtain ⟨rfl, _⟩ := h; rfl) | (obtain ⟨_, h⟩ := h)))
  have c_stepped_counts : Cal P w K mg base 3 "stepped_counts" (spStep K) [] := BodyOk.cal (b_stepped_counts T c_deeds c_done) F_stepped_counts g_stepped_counts sc_stepped_counts B_stepped_counts (by
    intro vs H Q E h
    repeat (first | (obtain ⟨rfl, _⟩ := h; rfl) | (obtain ⟨_, h⟩ := h)))
  have c_runs_of : Cal P w K mg base 4 "runs_of" (spRuns K) [] := BodyOk.cal (b_runs_of T c_want_small c_checked_floor c_stepped_counts) F_runs_of g_runs_of sc_runs_of B_runs_of (by
    intro vs H Q E h
    repeat (first | (obtain ⟨rfl, _⟩ := h; rfl) | (obtain ⟨_, h⟩ := h)))
  have c_Web : Mak P w K mg base 1 "Web" (He.ga K "Web") (spWebI K) [] := ⟨_, _, _, _, m_Web___init__, (FunD.ok F_Web___init__ sc_Web___init__ (by
    intro vs H Q E h
    repeat (first | (obtain ⟨rfl, _⟩ := h; rfl) | (obtain ⟨_, h⟩ := h))) fun cdv A outer s H vs Q E hr h => (let ⟨t, ht, q⟩ := (b_Web_init T) _ cdv A outer s H vs Q E hr h; ⟨t, ht.nox, q⟩)), g_Web___init__, B_Web___init__, .nil⟩
  have c_want_joined_coats : Cal P w K mg base 1 "want_joined_coats" spWJ [] := BodyOk.cal (b_want_joined_coats T) F_want_joined_coats g_want_joined_coats sc_want_joined_coats B_want_joined_coats (by
    intro vs H Q E h
    repeat (first | (obtain ⟨rfl, _⟩ := h; rfl) | (obtain ⟨_, h⟩ := h)))
  have c_checked_table : Cal P w K mg base 2 "checked_table" spCT [] := BodyOk.cal (b_checked_table T c_want_joined_coats) F_checked_table g_checked_table sc_checked_table B_checked_table (by
    intro vs H Q E h
    repeat (first | (obtain ⟨rfl, _⟩ := h; rfl) | (obtain ⟨_, h⟩ := h)))
  have cK_World : MakK P w K mg base 3 "World" (He.ga K "World") (spWorldI K) 2 ["table"] (fun vs zs => vs ++ zs) := ⟨_, _, _, _, m_World___init__, (FunD.ok F_World___init__ sc_World___init__ (by
    intro vs H Q E h
    repeat (first | (obtain ⟨rfl, _⟩ := h; rfl) | (obtain ⟨_, h⟩ := h))) fun cdv A outer s H vs Q E hr h => (let ⟨t, ht, q⟩ := (b_World_init T c_checked_table) _ cdv A outer s H vs Q E hr h; ⟨t, ht.nox, q⟩)), g_World___init__, B_World___init__⟩
  exact FunD.ok F_law sc_law (by
    intro vs H Q E h
    repeat (first | (obtain ⟨rfl, _⟩ := h; rfl) | (obtain ⟨_, h⟩ := h))) fun cdv A outer s H vs Q E hr h => (let ⟨t, ht, q⟩ := (b_law T c__law_pool c__law_one c__law_take c__law_small_web c__law_table c__law_floor c__law_run c__law_ways_right c__law_floors c_runs_of c_Web cK_World) _ cdv A outer s H vs Q E hr h; ⟨t, ht.nox, q⟩)
end Hd
end PF
open PySem PySem.W PySem.Calls PyProof.Rows
theorem PySem.Challenge.cw_pairfloors_k76_runs_both_ways_and_over_t_holds : PySem.Challenge.rw_pairfloors_k76_runs_both_ways_and_over_t.Holds := by
  w_on; o_law
  refine HandSHeadRun.head_any (r := OpenLaw.row PySem.Challenge.rw_pairfloors_k76_runs_both_ways_and_over_t) (q := view (OpenLaw.row PySem.Challenge.rw_pairfloors_k76_runs_both_ways_and_over_t).prog [62]) (H := PF.Hd.hk) (ob := PF.Hd.ob) (M := 6000) (loose := PF.Hd.loose) (d := HandSHeadRun.topDef (OpenLaw.row PySem.Challenge.rw_pairfloors_k76_runs_both_ways_and_over_t).prog 62) (kwd := []) PF.Hd.ob_eq
    (by kernel_rfl) (fun s => by kernel_rfl) PF.Hd.run (by kernel_rfl) (by kernel_rfl) (by kernel_rfl) (by rfl) (by first | assumption | decide +kernel) (by decide +kernel) ⟨rfl, rfl, rfl, rfl, rfl, by decide +kernel⟩ ?hw ?hc
  case hw => w_witness2
  case hc =>
    refine L2.walk_ofE (l := PySem.Challenge.rw_pairfloors_k76_runs_both_ways_and_over_t) (n := 63) (k := 6) (x := "_law_script") (CX := L2.CX0) rfl (by decide) (by kernel_rfl) ⟨rfl, by decide, by decide⟩ ?F (fun _ _ _ _ z => z)
    intro w mg fa h Y G hmg0
    obtain ⟨K, KX, c⟩ := Y
    have hmg : mg ("law" : PySem.Str) = some (.ref fa) := by
      have e : (HandSHeadRun.topDef (OpenLaw.row PySem.Challenge.rw_pairfloors_k76_runs_both_ways_and_over_t).prog 62).name = ("law" : PySem.Str) := by kernel_rfl
      rw [← e]
      exact hmg0
    obtain ⟨fd, hb, hF⟩ := PF.Hd.facts (P := (PySem.Challenge.rw_pairfloors_k76_runs_both_ways_and_over_t).prog) (w := w) KX G hmg c
    exact ⟨K, fd, PF.spLaw K, KX, hb, fun H a ns hl _ hS => ⟨a, ns, rfl, hS, fun _ => rfl⟩, hF⟩
