import PyProof.Rows.All
import Wide.All
import OpenK.AllK
import HandS.ForMost
import HandS.Strs
import HandS.Zip
import HandS.Star
import HandS.TupAny
import HandS.Iter
import KE.GoesEnum
import KE.GoesZip
import KE.GoesMore
import Wide.FinOn
import HandS.Flow
import HandS.More
import HandS.Conv
import HandS.Wide
import HandS.RaiseMore
import KE.SortData
import HandS.Lambda
import HandS.EndTab
import HandS.TupSets
import HandS.Dict
import HandS.WordsDict
import HandS.SetFor
import HandS.IsInst
import KE.SortKeyHeap
import HandS.Ends
import HandS.ListItems
import PyProof.TwoTypesSub
import PyProof.AutoIntG7
import PyProof.RowDictHeap
import HandS.Style
import PyProof.NeKinds
import PySem.Challenge.RW_enoughlooks_k56_shapes_of_any_value
set_option Elab.async false
set_option linter.all false
set_option maxRecDepth 100000
set_option maxHeartbeats 1000000
/-! Mn: tuples whose very object is known (so that their methods may be called). To take the place of the hand layer's rules that make tuples. -/
namespace Mn
open PySem PySem.Spec PyProof.Rows L2 PySem.W
section
variable {X : Cx} {es : List Expr} {t : TA} {pos : Pos}
/-- a new tuple, its object known -/
def newT (H : Hp) (xs : List V) (Q : VK) : Prop := ∀ (p : Addr) (o : Obj), H p = none → o.cls = .type "tuple" → o.dict = none → Q (.ref p) (upd H p (.frz o (.tup xs)))
theorem newT_ok {pins : List (Addr × Obj)} {sg : L2.St} {H : Hp} {s : Shared} {xs : List V} {its : List Value} {Q : VK} (I : Inv X pins sg H s) (hz : xs.length ≤ sizeLine) (r : Vals xs its) (q : newT H xs Q) :
    EP X pins sg Q (.ref s.heap.objs.size) { s with heap := s.heap.push { cls := .type "tuple", data := .seq its.toArray } } := by
  have hf : H s.heap.objs.size = none := I.hok.fresh (Nat.le_refl _)
  refine ⟨.ref s.heap.objs.size, upd H s.heap.objs.size (.frz { cls := .type "tuple", data := .seq its.toArray } (.tup xs)), I.laid (t' := s.toks) (fun b u e => Heap.get?_push_of_some _ e) (Nat.le_refl _) ?_, rfl, q _ _ hf rfl rfl⟩
  exact ⟨Heap.get?_push_size _ rfl, hz, its, r, ⟨_, Heap.get?_push_size _ rfl, rfl, _, rfl⟩⟩
def tTupF (t : TA) : TE := fun sg H Q => t sg H fun xs H1 => xs.length ≤ sizeLine ∧ newT H1 xs Q
theorem pe_tupF {x1} (h : PA X es t) : PE X (.Tuple es x1 pos) (tTupF t) := by
  refine ⟨fun pins s sg H Q I hq => ?_⟩
  refine wpAny_Tuple_spliced (thn (h.run pos pins s sg H _ I hq) fun us s1 ⟨xs, H1, I1, r, z, q⟩ => ⟨by rw [← r.length]; exact z, ?_⟩)
  exact newT_ok I1 z r q
theorem call_tupF : CallR X (.type "tuple") (fun xs H Q => ∃ p ys, xs = [.ref p] ∧ ((SqL X.K H p ys ∧ newT H ys Q) ∨ (SqT X.K H p ys ∧ Q (.ref p) H))) := by
  intro pins s sg H xs us Q I r h
  obtain ⟨p, ys, rfl, h⟩ := h
  obtain ⟨u, rfl, rx⟩ := vals1 r
  cases rx
  rcases h with ⟨hq, q⟩ | ⟨hq, q⟩
  · obtain ⟨its, r', pl, hz⟩ := I.list hq
    have hlen := r'.length
    refine call_tuple_list pl.isList (fun h' kp => ?_) (by simp only [List.size_toArray] <;> omega)
    exact newT_ok (I.kept (t' := s.toks) kp) hz r' q
  · obtain ⟨its, r', pl, hz⟩ := I.tuple hq
    exact call_tuple_same pl ⟨.ref p, H, I, rfl, q⟩
/-- a tuple with no dict: tracked with its object, or of the written part -/
def TupF (K : PySem.W.Frag) (H : Hp) (a : Addr) (xs : List V) : Prop := (∃ o, H a = some (.frz o (.tup xs)) ∧ o.cls = .type "tuple" ∧ o.dict = none) ∨ ((∃ o, K.lookup a = some o ∧ o.cls = .type "tuple" ∧ o.dict = none) ∧ SqT K (fun _ => none) a xs)
theorem TupF.obj {pins : List (Addr × Obj)} {sg : L2.St} {H : Hp} {s : Shared} {a : Addr} {xs : List V} (I : Inv X pins sg H s) (h : TupF X.K H a xs) : ∃ ob, s.heap.get? a = some ob ∧ ob.cls = .type "tuple" ∧ ob.dict = none := by
  rcases h with ⟨o, h1, h2, h3⟩ | ⟨⟨o, h1, h2, h3⟩, _⟩
  · exact ⟨o, (I.hok a _ h1).1, h2, h3⟩
  · exact ⟨o, I.kIn a o h1, h2, h3⟩
variable {o e : Expr} {to : TE} {name : Str} {apos cpos : Pos} {id : String} {r : V → List V → Hp → VK → Prop}
def tBMT (K : PySem.W.Frag) (r : V → List V → Hp → VK → Prop) (to : TE) (t : TA) : TE := fun sg H Q => to sg H fun x H1 => (∃ a xs, x = .ref a ∧ TupF K H1 a xs) ∧ t sg H1 fun ys H2 => r x ys H2 Q
/-- t.m(e, ..) of a tuple -/
theorem pe_bmT (pa : PlainAttrs "tuple") (slot : Slot "tuple" name id) (hty : typeOf (.builtin id) = pure (.type "method_descriptor")) (hm : MtR X id r) (ho : PE X o to) (ha : PA X (e :: es) t)
    (hbase : attributeBase o name X.env (eval o X.env) = eval o X.env := by rfl)
    (hfew : ((backTo cpos (starEach (e :: es) X.env)).all (fun x => !x.1) && (backToKw cpos (keywordEach [] X.env)).all (fun x => x.1.isSome)
      && decide ((e :: es).length + ([] : List Keyword).length + (if ([] : List Keyword).isEmpty then 0 else 1) < 30)) = true := by rfl)
    (hline : (apos.endLine == cpos.line) = true := by rfl) (hs : starEach (e :: es) X.env = (false, eval e X.env) :: starEach es X.env := by rfl) (hplain : (backTo cpos (starEach es X.env)).any (·.1) = false := by rfl) :
    PE X (.Call (.Attribute o name apos) (e :: es) [] cpos) (tBMT X.K r to t) := by
  refine ⟨fun pins s sg H Q I h => ?_⟩
  refine wpAny_Call_method_late hbase hfew hline rfl (thn (ho.run pins s sg H _ I h) fun v s1 ⟨x, H1, I1, r1, ⟨a, xs, ex, tf⟩, q1⟩ => ?_)
  subst ex
  obtain rfl : v = Value.ref a := r1
  obtain ⟨ob, h1, h2, h3⟩ := tf.obj I1
  refine ⟨"tuple", id, pa, slot, hty, ⟨ob, h1, h2⟩, fun b (hb : Value.ref a = Value.ref b) => ?_, ?_⟩
  · cases hb; exact ⟨ob, h1, h3⟩
  · have hA := ha.run cpos pins s1 sg H1 _ I1 q1
    rw [hs] at hA ⊢
    refine Calls.callWith_builtin (by show (false || (backTo cpos (starEach es X.env)).any (·.1)) = false; rw [hplain] <;> rfl) (Calls.evalArgs_plain ?_)
    exact thn hA fun us s2 ⟨vs, H2, I2, r2, q2⟩ => hm pins s2 sg H2 (.ref a) vs (.ref a) us Q I2 rfl r2 q2
/-- t + u -/
def rCatF (K : PySem.W.Frag) : R2 := fun x y H Q => ∃ a b xs ys, x = .ref a ∧ y = .ref b ∧ SqT K H a xs ∧ SqT K H b ys ∧ xs.length + ys.length ≤ sizeLine ∧
  (xs = [] → Q (.ref b) H) ∧ (xs ≠ [] → ys = [] → Q (.ref a) H) ∧ (xs ≠ [] → ys ≠ [] → newT H (xs ++ ys) Q)
theorem op_catF : OpR X (binaryOp .Add) (rCatF X.K) := by
  intro pins s sg H x y v u Q I rx ry h
  obtain ⟨a, b, xs, ys, rfl, rfl, ha, hb, hz, q0, q1, q2⟩ := h
  by_cases hx : xs = []
  · exact op_catA pins s sg H _ _ v u Q I rx ry ⟨a, b, xs, ys, rfl, rfl, ha, hb, hz, q0, fun h => absurd hx h, fun h => absurd hx h⟩
  · cases rx
    cases ry
    obtain ⟨its, r1, p1, _⟩ := I.tuple ha
    obtain ⟨its2, r2, p2, _⟩ := I.tuple hb
    refine HT.cat_tup p1 p2 (fun z => hx (r1.nil_iff.mp z)) (fun z => ⟨.ref a, H, I, rfl, q1 hx (r2.nil_iff.mp z)⟩) (fun z => ?_) (by rw [← r1.length, ← r2.length]; exact hz)
    exact newT_ok I (by rw [List.length_append]; exact hz) (r1.append r2) (q2 hx fun w => z (r2.nil_iff.mpr w))
/-- t[lo:hi] -/
def rSlF (K : PySem.W.Frag) : V → Option Int → Option Int → Hp → VK → Prop := fun x lo hi H Q => ∃ a xs, x = .ref a ∧ SqT K H a xs ∧
  (HT.sIx xs.length 0 lo = 0 ∧ HT.sIx xs.length xs.length hi = xs.length → Q (.ref a) H) ∧ (¬ (HT.sIx xs.length 0 lo = 0 ∧ HT.sIx xs.length xs.length hi = xs.length) → newT H (cutV xs lo hi) Q)
theorem sl_tupF : SlR X (rSlF X.K) := by
  intro pins s sg H x v vl vu lo hi sl Q I rx hs pl pu h
  obtain ⟨a, xs, rfl, hx, q1, q2⟩ := h
  by_cases hw : HT.sIx xs.length 0 lo = 0 ∧ HT.sIx xs.length xs.length hi = xs.length
  · exact sl_tupA pins s sg H _ v vl vu lo hi sl Q I rx hs pl pu ⟨a, xs, rfl, hx, q1, fun h => absurd hw h⟩
  · cases rx
    obtain ⟨its, r, ht, hz⟩ := I.tuple hx
    have hlen : its.toArray.size = xs.length := by rw [List.size_toArray]; exact r.length.symm
    refine ⟨"tuple", _, PyProof.Rows.slot_tuple_getitem.lookup, ht.typeIs, ?_⟩
    refine HT.getItem_tuple_cut ht hs pl pu (by rw [hlen]; exact hw) ?_ (by rw [hlen]; exact hz)
    rw [hlen]
    exact newT_ok I (Nat.le_trans (cutV_length xs lo hi) hz) ((r.drop (HT.sIx xs.length 0 lo)).take (HT.sIx xs.length xs.length hi - HT.sIx xs.length 0 lo)) (q2 hw)
end
theorem enum_new1 {v : Value} {o : Obj} {Hh : Heap → Prop} (B : Begins v o Hh) :
    Meets (Builtin.«enumerate.__new__» ⟨[.type "enumerate", v], []⟩) (fun _ R s => Hh s.heap ∧
      R (.ok (.ret (.ref (s.heap.push o).objs.size))) { s with heap := (s.heap.push o).push { cls := .type "enumerate", data := .fields #[.none, .bool false, .ref s.heap.objs.size, rawInt 0, .none, .none] } }) :=
  .of_wp fun prog w A R s h => by
    obtain ⟨hp, g, d, tk, os⟩ := s
    obtain ⟨h1, h⟩ := h
    have hsub := sub_enumerate
    have q1 : ∀ {A' : Around} {E : Value → Shared → Prop} {Q : Value → Shared → Prop}, Q (.ref hp.objs.size) ⟨hp.push o, g, d, tk, os⟩ → wpAny (model prog w) A' (pyIter v) Q E ⟨hp, g, d, tk, os⟩ :=
      fun q => B.iter prog w _ _ ⟨hp, g, d, tk, os⟩ _ h1 q
    wp_walk using q1
    refine wpAny_stack_any fun st => wpAny_pure ?_
    split
    · rename_i c _ _ _ _ _
      cases (c == Value.type "enumerate")
      · wp_walk using q1
        exact ⟨_, rfl, h⟩
      · wp_walk using q1
        exact ⟨_, rfl, h⟩
    · wp_walk using q1
      exact ⟨_, rfl, h⟩
section
variable {prog : Program} {w : World} {A : Around} {E : Value → Shared → Prop} {s : Shared}
theorem enum_start {v : Value} {o : Obj} {Hh : Heap → Prop} {Q : Value → Shared → Prop} (B : Begins v o Hh) (h1 : Hh s.heap)
    (h : ∀ h', IsEnum h' (s.heap.objs.size + 1) s.heap.objs.size 0 .none → h'.get? s.heap.objs.size = some o → h'.objs.size = s.heap.objs.size + 2 →
      (∀ b o, s.heap.get? b = some o → h'.get? b = some o) → Q (.ref (s.heap.objs.size + 1)) { s with heap := h' }) :
    wpAny (model prog w) A (call (.type "enumerate") [v]) Q E s := by
  refine callType_new F.called_enumerate (by decide) (F.typeCall_enumerate_1 _) (F.newCall_enumerate_1 _) (fun obj => F.args_object_init_2 obj _) F.entry_enumerate_new (enum_new1 B) ⟨h1, ?_⟩
  have hz : (s.heap.push o).objs.size = s.heap.objs.size + 1 := Heap.size_push ..
  show _ ∧ _
  rw [hz]
  have he : IsEnum ((s.heap.push o).push { cls := .type "enumerate", data := .fields #[.none, .bool false, .ref s.heap.objs.size, rawInt 0, .none, .none] }) (s.heap.objs.size + 1) s.heap.objs.size 0 .none := by
    have := Heap.get?_push_size (s.heap.push o) (o := { cls := .type "enumerate", data := .fields #[.none, .bool false, .ref s.heap.objs.size, rawInt 0, .none, .none] }) rfl
    rw [hz] at this; exact this
  exact ⟨⟨_, he, rfl⟩, h _ he (Heap.get?_push_of_some _ (Heap.get?_push_size _ B.free)) (by rw [Heap.size_push, hz]) fun b o x => Heap.get?_push_of_some _ (Heap.get?_push_of_some _ x)⟩
end
/-- the tuple at a, each item in a new pair -/
def IteTF (K : PySem.W.Frag) (a : Addr) : It :=
  ⟨fun i H => ∃ (xs : List V) (x : V), SqT K H a xs ∧ xs[i]? = some x, fun i H v H' => ∃ T o x, v = .ref T ∧ H T = none ∧ (o.cls = .type "tuple" ∧ o.dict = none) ∧ H' = upd H T (.frz o (.tup [.int (i : Nat), x])) ∧ ∀ xs, SqT K H a xs → xs[i]? = some x, fun i H => ∃ xs : List V, SqT K H a xs ∧ xs.length ≤ i⟩
theorem turn_enumTF {P : Program} {w : World} {K : PySem.W.Frag} {elts : List Expr} {kk : Nat} {tpos : Pos} (a e it : Addr) (hae : a ≠ e) (hai : a ≠ it) :
    Turn P w K (.Tuple elts kk tpos) (IteTF K a) [e, it] e (fun i h => (∃ old, IsEnum h e it ((i : Nat) : Int) old) ∧ h.IsTupleIter it a i ∧ e ≠ it) where
  mem := by simp
  obj := fun i h st b hb => by
    obtain ⟨⟨old, he⟩, ⟨o, ho, hc, hd⟩, _⟩ := st
    have e' : b = e ∨ b = it := by simpa using hb
    rcases e' with z | z
    · rw [z]; exact ⟨_, he, fun v q => nomatch q⟩
    · rw [z]; exact ⟨o, ho, fun v q => by rw [hd] at q; cases q⟩
  keep := fun i h h' st k => let ⟨⟨old, he⟩, hi, hne⟩ := st; ⟨⟨old, k e (by simp) _ he⟩, hi.at fun o q => k it (by simp) o q, hne⟩
  item := by
    intro X hP hw hK hc i pins s sg H E I hf st hg
    subst hP hw hK
    obtain ⟨⟨old, he⟩, hit, hne⟩ := st
    obtain ⟨xs, x, hq, hx⟩ := hg
    obtain ⟨its, rv, p, hz⟩ := I.tuple hq
    obtain ⟨u, hu, ru⟩ := rv.get hx
    have hlen : i < its.toArray.size := by
      rw [List.size_toArray]
      exact (List.getElem?_eq_some_iff.mp hu).1
    have hel : e < s.heap.objs.size := Heap.lt_size he
    have hil : it < s.heap.objs.size := by obtain ⟨_, q, _⟩ := hit; exact Heap.lt_size q
    have D := Draws.tuple (prog := X.prog) (w := X.w) (A := X.A.in1) (I.ok.hd hc) it a hai its.toArray
    refine wpAny_pyNext_enum_itemD D he ⟨hit, p⟩ hlen hne (by simp [hne, Ne.symm hae]) fun v h' tk hv ho hst' hT hsz hk => ?_
    have hv : v = u := by
      have h1 : its[i]? = some v := by simpa using hv
      rw [hu] at h1
      exact (Option.some.inj h1).symm
    subst hv
    refine ⟨_, rfl, wpAny_letOwnedTupleGo_enum (s := { s with heap := h', toks := tk + 1 }) ho fun h'' he' sb => ?_⟩
    have hT2 : h''.get? s.heap.objs.size = some { cls := .type "tuple", data := .seq #[.int i tk, v] } := (sb.2 _ (Nat.ne_of_gt hel)).trans hT
    have new : ObjOk X.prog X.w (upd H s.heap.objs.size (.frz { cls := .type "tuple", data := .seq #[.int i tk, v] } (.tup [.int (i : Nat), x]))) h'' s.heap.objs.size (.frz { cls := .type "tuple", data := .seq #[.int i tk, v] } (.tup [.int (i : Nat), x])) :=
      ⟨hT2, by show 2 ≤ sizeLine; decide, [.int i tk, v], .cons ⟨_, rfl⟩ (.cons ru .nil), ⟨_, hT2, rfl, _, rfl⟩⟩
    have I1 : Inv X pins sg (upd H s.heap.objs.size (.frz { cls := .type "tuple", data := .seq #[.int i tk, v] } (.tup [.int (i : Nat), x]))) { s with heap := h'', toks := tk + 1 } :=
      I.turnedNew (ch := [e, it]) (fun b ob hb q => (sb.2 b (fun z => hb (by simp [z]))).trans (hk b ob (fun z => hb (by simp [z])) (fun z => hb (by simp [z])) q)) hf (Nat.le_refl _) new
    refine ⟨.ref s.heap.objs.size, _, I1, rfl, ⟨_, _, x, rfl, I.hok.fresh (Nat.le_refl _), ⟨rfl, rfl⟩, rfl, fun ys hy => by rw [I.tuple_inj hy hq]; exact hx⟩, ⟨⟨v, ?_⟩, hst'.1.at fun o q => (sb.2 it (Ne.symm hne)).trans q, hne⟩, fun b hb => ?_⟩
    · have e1 : ((i + 1 : Nat) : Int) = (i : Int) + 1 := by omega
      rw [e1]; exact he'
    · have hb' : b < s.heap.objs.size := by
        have e' : b = e ∨ b = it := by simpa using hb
        rcases e' with z | z
        · rw [z]; exact hel
        · rw [z]; exact hil
      rw [upd_ne (Nat.ne_of_lt hb')]
      exact (hf b hb).1
  done := by
    intro X hP hw hK hc i pins s sg H E I hf st hg
    subst hP hw hK
    obtain ⟨⟨old, he⟩, hit, hne⟩ := st
    obtain ⟨xs, hq, hx⟩ := hg
    obtain ⟨its, rv, p, hz⟩ := I.tuple hq
    obtain ⟨f0, f1, f2, f3, f4, f5⟩ := hf it (by simp)
    have hl := rv.length
    have hT : s.TypeIs (.ref e) "enumerate" := ⟨_, he, rfl⟩
    unfold pyNext
    refine wpAny_bind (wpAny_attempt (wpAny_callSpecial?_slot (name := Str.ofString "__next__") hT F.slot_enumerate_next (wpAny_call_entry F.slot_enumerate_next hT F.entry_enumerate_next ?_ (F.args_enumerate_next_1 _))))
    show wpAny _ _ (field (.ref e) 2 >>= _) _ _ _
    refine wpAny_bind (wpAny_field he rfl (x := .ref it) rfl ?_)
    refine wpAny_bind (wpAny_nextOf_tuple_end (I.ok.hd hc) hit (show s.heap.IsTuple a its.toArray from p) (by simp; omega) fun h' x he' hx' => ?_)
    obtain ⟨o, ho, hc'⟩ := hx'
    refine wpAny_bind (wpAny_isInstance (T := "StopIteration") (b := true) ⟨o, ho, hc'⟩ isSubtype_stop ?_)
    exact wpAny_pure ⟨rfl, I.turned (t' := s.toks) (fun b o hb q => he' b o hb q) f0 f1 f3 f4 f5⟩
  self := fun A i s Q E st h => let ⟨⟨_, he⟩, _⟩ := st; wpAny_pyIter_enum he h
/-- the list at a, each item in a new pair -/
def IteLF (K : PySem.W.Frag) (a : Addr) : It :=
  ⟨fun i H => ∃ (xs : List V) (x : V), SqL K H a xs ∧ xs[i]? = some x, fun i H v H' => ∃ T o x, v = .ref T ∧ H T = none ∧ (o.cls = .type "tuple" ∧ o.dict = none) ∧ H' = upd H T (.frz o (.tup [.int (i : Nat), x])) ∧ ∀ xs, SqL K H a xs → xs[i]? = some x, fun i H => ∃ xs : List V, SqL K H a xs ∧ xs.length ≤ i⟩
theorem turn_enumLF {P : Program} {w : World} {K : PySem.W.Frag} {elts : List Expr} {kk : Nat} {tpos : Pos} (a e it : Addr) (hae : a ≠ e) (hai : a ≠ it) :
    Turn P w K (.Tuple elts kk tpos) (IteLF K a) [e, it] e (fun i h => (∃ old, IsEnum h e it ((i : Nat) : Int) old) ∧ h.IsListIter it a i ∧ e ≠ it) where
  mem := by simp
  obj := fun i h st b hb => by
    obtain ⟨⟨old, he⟩, ⟨o, ho, hc, hd⟩, _⟩ := st
    have e' : b = e ∨ b = it := by simpa using hb
    rcases e' with z | z
    · rw [z]; exact ⟨_, he, fun v q => nomatch q⟩
    · rw [z]; exact ⟨o, ho, fun v q => by rw [hd] at q; cases q⟩
  keep := fun i h h' st k => let ⟨⟨old, he⟩, hi, hne⟩ := st; ⟨⟨old, k e (by simp) _ he⟩, hi.at fun o q => k it (by simp) o q, hne⟩
  item := by
    intro X hP hw hK hc i pins s sg H E I hf st hg
    subst hP hw hK
    obtain ⟨⟨old, he⟩, hit, hne⟩ := st
    obtain ⟨xs, x, hq, hx⟩ := hg
    obtain ⟨its, rv, p, hz⟩ := I.list hq
    obtain ⟨u, hu, ru⟩ := rv.get hx
    have hlen : i < its.toArray.size := by
      rw [List.size_toArray]
      exact (List.getElem?_eq_some_iff.mp hu).1
    have hel : e < s.heap.objs.size := Heap.lt_size he
    have hil : it < s.heap.objs.size := by obtain ⟨_, q, _⟩ := hit; exact Heap.lt_size q
    have D := Draws.list (prog := X.prog) (w := X.w) (A := X.A.in1) (I.ok.hd hc) it a hai its.toArray
    refine wpAny_pyNext_enum_itemD D he ⟨hit, p.isList⟩ hlen hne (by simp [hne, Ne.symm hae]) fun v h' tk hv ho hst' hT hsz hk => ?_
    have hv : v = u := by
      have h1 : its[i]? = some v := by simpa using hv
      rw [hu] at h1
      exact (Option.some.inj h1).symm
    subst hv
    refine ⟨_, rfl, wpAny_letOwnedTupleGo_enum (s := { s with heap := h', toks := tk + 1 }) ho fun h'' he' sb => ?_⟩
    have hT2 : h''.get? s.heap.objs.size = some { cls := .type "tuple", data := .seq #[.int i tk, v] } := (sb.2 _ (Nat.ne_of_gt hel)).trans hT
    have new : ObjOk X.prog X.w (upd H s.heap.objs.size (.frz { cls := .type "tuple", data := .seq #[.int i tk, v] } (.tup [.int (i : Nat), x]))) h'' s.heap.objs.size (.frz { cls := .type "tuple", data := .seq #[.int i tk, v] } (.tup [.int (i : Nat), x])) :=
      ⟨hT2, by show 2 ≤ sizeLine; decide, [.int i tk, v], .cons ⟨_, rfl⟩ (.cons ru .nil), ⟨_, hT2, rfl, _, rfl⟩⟩
    have I1 : Inv X pins sg (upd H s.heap.objs.size (.frz { cls := .type "tuple", data := .seq #[.int i tk, v] } (.tup [.int (i : Nat), x]))) { s with heap := h'', toks := tk + 1 } :=
      I.turnedNew (ch := [e, it]) (fun b ob hb q => (sb.2 b (fun z => hb (by simp [z]))).trans (hk b ob (fun z => hb (by simp [z])) (fun z => hb (by simp [z])) q)) hf (Nat.le_refl _) new
    refine ⟨.ref s.heap.objs.size, _, I1, rfl, ⟨_, _, x, rfl, I.hok.fresh (Nat.le_refl _), ⟨rfl, rfl⟩, rfl, fun ys hy => by rw [I.list_inj hy hq]; exact hx⟩, ⟨⟨v, ?_⟩, hst'.1.at fun o q => (sb.2 it (Ne.symm hne)).trans q, hne⟩, fun b hb => ?_⟩
    · have e1 : ((i + 1 : Nat) : Int) = (i : Int) + 1 := by omega
      rw [e1]; exact he'
    · have hb' : b < s.heap.objs.size := by
        have e' : b = e ∨ b = it := by simpa using hb
        rcases e' with z | z
        · rw [z]; exact hel
        · rw [z]; exact hil
      rw [upd_ne (Nat.ne_of_lt hb')]
      exact (hf b hb).1
  done := by
    intro X hP hw hK hc i pins s sg H E I hf st hg
    subst hP hw hK
    obtain ⟨⟨old, he⟩, hit, hne⟩ := st
    obtain ⟨xs, hq, hx⟩ := hg
    obtain ⟨its, rv, p, hz⟩ := I.list hq
    obtain ⟨f0, f1, f2, f3, f4, f5⟩ := hf it (by simp)
    have hl := rv.length
    have hT : s.TypeIs (.ref e) "enumerate" := ⟨_, he, rfl⟩
    unfold pyNext
    refine wpAny_bind (wpAny_attempt (wpAny_callSpecial?_slot (name := Str.ofString "__next__") hT F.slot_enumerate_next (wpAny_call_entry F.slot_enumerate_next hT F.entry_enumerate_next ?_ (F.args_enumerate_next_1 _))))
    show wpAny _ _ (field (.ref e) 2 >>= _) _ _ _
    refine wpAny_bind (wpAny_field he rfl (x := .ref it) rfl ?_)
    refine wpAny_bind (wpAny_nextOf_list_end (I.ok.hd hc) hit p.isList (by simp; omega) fun h' x he' hx' => ?_)
    obtain ⟨o, ho, hc'⟩ := hx'
    refine wpAny_bind (wpAny_isInstance (T := "StopIteration") (b := true) ⟨o, ho, hc'⟩ isSubtype_stop ?_)
    exact wpAny_pure ⟨rfl, I.turned (t' := s.toks) (fun b o hb q => he' b o hb q) f0 f1 f3 f4 f5⟩
  self := fun A i s Q E st h => let ⟨⟨_, he⟩, _⟩ := st; wpAny_pyIter_enum he h
def iEnumF (K : PySem.W.Frag) (ta : TA) : TI := fun sg H R => ta sg H fun vs H1 => ∃ a xs, vs = [.ref a] ∧ ((SqL K H1 a xs ∧ R (IteLF K a) H1) ∨ (SqT K H1 a xs ∧ R (IteTF K a) H1))
theorem pi_enumF {X : Cx} {e : Expr} {ta : TA} {p pos tpos : Pos} {elts : List Expr} {kk : Nat} (hg : Gl X "enumerate") (hm : X.mg "enumerate" = none) (ha : PA X [e] ta) (hs : starEach [e] X.env = [(false, eval e X.env)] := by rfl) :
    PI X (.Tuple elts kk tpos) (.Call (.Name "enumerate" p) [e] [] pos) (iEnumF X.K ta) := by
  refine ⟨fun pins s sg H R I h => ?_⟩
  refine Call_ (ld_blt I hg hm boot_enumerate (PyProof.Rows.callWith_type1 (thn (ha.run pos pins s sg H _ I h) fun us s1 ⟨vs, H1, I1, r1, q1⟩ => ?_) hs rfl))
  obtain ⟨a, xs, ex, q⟩ := q1
  subst ex
  cases r1 with
  | cons r rr =>
    cases rr
    cases r
    have fp : ∀ b ∈ [s1.heap.objs.size + 1, s1.heap.objs.size], FpOk X pins H1 b := fun b hb => by
      have e' : b = s1.heap.objs.size + 1 ∨ b = s1.heap.objs.size := by simpa using hb
      have hle : s1.heap.objs.size ≤ b := by rcases e' with z | z <;> omega
      exact I1.fpOk hle (I1.hok.fresh hle)
    rcases q with ⟨hq, q⟩ | ⟨hq, q⟩
    · obtain ⟨its, rv, p', hz⟩ := I1.list hq
      have hlt : a < s1.heap.objs.size := by obtain ⟨o, e1, _⟩ := p'.isList; exact Heap.lt_size e1
      refine call_enumerate_list p'.isList fun h' he hit hsz hk => wpAny_pyIter_enum he ?_
      exact ⟨s1.heap.objs.size + 1, [s1.heap.objs.size + 1, s1.heap.objs.size], _, _, H1, rfl, I1.kept (t' := s1.toks) hk, turn_enumLF a (s1.heap.objs.size + 1) s1.heap.objs.size (Nat.ne_of_lt (Nat.lt_succ_of_lt hlt)) (Nat.ne_of_lt hlt), ⟨⟨.none, he⟩, hit, Nat.succ_ne_self _⟩, fp, q⟩
    · obtain ⟨its, rv, p', hz⟩ := I1.tuple hq
      have hlt : a < s1.heap.objs.size := by obtain ⟨o, e1, _⟩ := p'; exact Heap.lt_size e1
      refine enum_start (begins_tuple a its.toArray) p' fun h' he hit hsz hk => wpAny_pyIter_enum he ?_
      exact ⟨s1.heap.objs.size + 1, [s1.heap.objs.size + 1, s1.heap.objs.size], _, _, H1, rfl, I1.kept (t' := s1.toks) hk, turn_enumTF a (s1.heap.objs.size + 1) s1.heap.objs.size (Nat.ne_of_lt (Nat.lt_succ_of_lt hlt)) (Nat.ne_of_lt hlt), ⟨⟨.none, he⟩, ⟨_, hit, rfl, rfl⟩, Nat.succ_ne_self _⟩, fp, q⟩
/-- the lists at a and b, the items in new pairs -/
def ItzLF (K : PySem.W.Frag) (a b : Addr) : It :=
  ⟨fun i H => ∃ (xs ys : List V) (x y : V), SqL K H a xs ∧ SqL K H b ys ∧ xs[i]? = some x ∧ ys[i]? = some y,
    fun i H v H' => ∃ T o x y, v = .ref T ∧ H T = none ∧ (o.cls = .type "tuple" ∧ o.dict = none) ∧ H' = upd H T (.frz o (.tup [x, y])) ∧ (∀ xs, SqL K H a xs → xs[i]? = some x) ∧ ∀ ys, SqL K H b ys → ys[i]? = some y,
    fun i H => ∃ xs ys : List V, SqL K H a xs ∧ SqL K H b ys ∧ (xs.length ≤ i ∨ ys.length ≤ i)⟩
theorem turn_zipLF {P : Program} {w : World} {K : PySem.W.Frag} {elts : List Expr} {kk : Nat} {tpos : Pos} {a b z TI TO i1 i2 : Addr} (D : ZipApart z TI TO i1 i2 a b) :
    Turn P w K (.Tuple elts kk tpos) (ItzLF K a b) [z, TI, TO, i1, i2] z (fun i h => IsZip h z TI TO .none ∧ IsPair h TI (.ref i1) (.ref i2) ∧ (∃ x y, IsPair h TO x y) ∧ h.IsListIter i1 a i ∧ h.IsListIter i2 b i) where
  mem := by simp
  obj := fun i h st c hc => by
    obtain ⟨hz, hTI, ⟨x, y, hTO⟩, ⟨o1, e1, _, d1⟩, ⟨o2, e2, _, d2⟩⟩ := st
    have e' : c = z ∨ c = TI ∨ c = TO ∨ c = i1 ∨ c = i2 := by simpa using hc
    rcases e' with q | q | q | q | q
    · rw [q]; exact ⟨_, hz, fun v q => nomatch q⟩
    · rw [q]; exact ⟨_, hTI, fun v q => nomatch q⟩
    · rw [q]; exact ⟨_, hTO, fun v q => nomatch q⟩
    · rw [q]; exact ⟨o1, e1, fun v q => by rw [d1] at q; cases q⟩
    · rw [q]; exact ⟨o2, e2, fun v q => by rw [d2] at q; cases q⟩
  keep := fun i h h' st k => by
    obtain ⟨hz, hTI, ⟨x, y, hTO⟩, h1, h2⟩ := st
    exact ⟨k z (by simp) _ hz, k TI (by simp) _ hTI, ⟨x, y, k TO (by simp) _ hTO⟩, h1.at fun o q => k i1 (by simp) o q, h2.at fun o q => k i2 (by simp) o q⟩
  item := by
    intro X hP hw hK hc i pins s sg H E I hf st hg
    subst hP hw hK
    obtain ⟨hz, hTI, ⟨x0, y0, hTO⟩, h1, h2⟩ := st
    obtain ⟨xs, ys, x, y, hqx, hqy, hx, hy⟩ := hg
    obtain ⟨its, rv, p, _⟩ := I.list hqx
    obtain ⟨its2, rv2, p2, _⟩ := I.list hqy
    obtain ⟨u, hu, ru⟩ := rv.get hx
    obtain ⟨u2, hu2, ru2⟩ := rv2.get hy
    have hzl : z < s.heap.objs.size := Heap.lt_size hz
    refine wpAny_pyNext_zip_item D hz hTI hTO h1 h2 p.isList p2.isList (x := u) (y := u2) (by simpa using hu) (by simpa using hu2) fun h' z' TO' h1' h2' hT hsz hk => ?_
    refine ⟨_, rfl, wpAny_letOwnedTupleGo_zip (s := { s with heap := h' }) z' fun h'' z'' sb => ?_⟩
    have hT2 : h''.get? s.heap.objs.size = some { cls := .type "tuple", data := .seq #[u, u2] } := (sb.2 _ (Nat.ne_of_gt hzl)).trans hT
    have new : ObjOk X.prog X.w (upd H s.heap.objs.size (.frz { cls := .type "tuple", data := .seq #[u, u2] } (.tup [x, y]))) h'' s.heap.objs.size (.frz { cls := .type "tuple", data := .seq #[u, u2] } (.tup [x, y])) :=
      ⟨hT2, by show 2 ≤ sizeLine; decide, [u, u2], .cons ru (.cons ru2 .nil), ⟨_, hT2, rfl, _, rfl⟩⟩
    have I1 : Inv X pins sg (upd H s.heap.objs.size (.frz { cls := .type "tuple", data := .seq #[u, u2] } (.tup [x, y]))) { s with heap := h'' } :=
      I.turnedNew (t' := s.toks) (ch := [z, TI, TO, i1, i2]) (fun c o hb q => (sb.2 c (fun q' => hb (by simp [q']))).trans (hk c o (fun q' => hb (by simp [q'])) (fun q' => hb (by simp [q'])) (fun q' => hb (by simp [q'])) (fun q' => hb (by simp [q'])) q)) hf (Nat.le_refl _) new
    refine ⟨.ref s.heap.objs.size, _, I1, rfl, ⟨_, _, x, y, rfl, I.hok.fresh (Nat.le_refl _), ⟨rfl, rfl⟩, rfl, fun l hl => by rw [I.list_inj hl hqx]; exact hx, fun l hl => by rw [I.list_inj hl hqy]; exact hy⟩, ⟨z'', ?_, ⟨u, u2, ?_⟩, ?_, ?_⟩, fun c hcm => ?_⟩
    · exact (sb.2 _ D.TIz).trans (hk _ _ D.TIz D.TITO D.TIi1 D.TIi2 hTI)
    · exact (sb.2 _ D.TOz).trans TO'
    · exact h1'.at fun o q => (sb.2 _ D.i1z).trans q
    · exact h2'.at fun o q => (sb.2 _ D.i2z).trans q
    · have hlt : c < s.heap.objs.size := by
        have e' : c = z ∨ c = TI ∨ c = TO ∨ c = i1 ∨ c = i2 := by simpa using hcm
        rcases e' with q | q | q | q | q
        · rw [q]; exact hzl
        · rw [q]; exact Heap.lt_size hTI
        · rw [q]; exact Heap.lt_size hTO
        · rw [q]; obtain ⟨_, e1, _⟩ := h1; exact Heap.lt_size e1
        · rw [q]; obtain ⟨_, e2, _⟩ := h2; exact Heap.lt_size e2
      rw [upd_ne (Nat.ne_of_lt hlt)]
      exact (hf c hcm).1
  done := by
    intro X hP hw hK hc i pins s sg H E I hf st hg
    subst hP hw hK
    obtain ⟨hz, hTI, ⟨x0, y0, hTO⟩, h1, h2⟩ := st
    obtain ⟨xs, ys, hqx, hqy, hend⟩ := hg
    obtain ⟨its, rv, p, _⟩ := I.list hqx
    obtain ⟨its2, rv2, p2, _⟩ := I.list hqy
    have l1 := rv.length
    have l2 := rv2.length
    have he : its.toArray[i]? = none ∨ its2.toArray[i]? = none := by
      rcases hend with q | q
      · exact .inl (by simp; omega)
      · exact .inr (by simp; omega)
    exact wpAny_pyNext_zip_end (I.ok.hd hc) D hz hTI hTO h1 h2 p.isList p2.isList he fun h' hk => ⟨rfl, I.turnedL (t' := s.toks) (ch := [z, TI, TO, i1, i2]) (fun c o hb q =>
      hk c o (fun q' => hb (by simp [q'])) (fun q' => hb (by simp [q'])) (fun q' => hb (by simp [q'])) (fun q' => hb (by simp [q'])) q) hf⟩
  self := fun A i s Q E st h => wpAny_pyIter_zip st.1 h
def iZipLF (K : PySem.W.Frag) (ta : TA) : TI := fun sg H R => ta sg H fun vs H1 => ∃ a b xs ys, vs = [.ref a, .ref b] ∧ SqL K H1 a xs ∧ SqL K H1 b ys ∧ R (ItzLF K a b) H1
theorem pi_zipLF {X : Cx} {e e2 : Expr} {ta : TA} {p pos tpos : Pos} {elts : List Expr} {kk : Nat} (hg : Gl X "zip") (hm : X.mg "zip" = none) (ha : PA X [e, e2] ta)
    (hs : starEach [e, e2] X.env = (false, eval e X.env) :: starEach [e2] X.env := by rfl) (hpl : (backTo pos (starEach [e2] X.env)).any (·.1) = false := by rfl) :
    PI X (.Tuple elts kk tpos) (.Call (.Name "zip" p) [e, e2] [] pos) (iZipLF X.K ta) := by
  refine ⟨fun pins s sg H R I h => ?_⟩
  refine Call_ (ld_blt I hg hm PyProof.Rows.boot_zip (PyProof.Rows.callWith_type1 (thn (ha.run pos pins s sg H _ I h) fun us s1 ⟨vs, H1, I1, r1, q1⟩ => ?_) hs hpl))
  obtain ⟨a, b, xs, ys, ex, hqx, hqy, q⟩ := q1
  subst ex
  cases r1 with
  | cons r rr =>
    cases rr with
    | cons r' rr =>
      cases rr
      cases r
      cases r'
      obtain ⟨its, rv, p1, _⟩ := I1.list hqx
      obtain ⟨its2, rv2, p2, _⟩ := I1.list hqy
      have la : a < s1.heap.objs.size := p1.lt
      have lb : b < s1.heap.objs.size := p2.lt
      refine call_zip_2 p1.isList p2.isList fun h' hz hTI hTO h1 h2 hsz hk => wpAny_pyIter_zip hz ?_
      have I2 : Inv X pins sg H1 { s1 with heap := h' } := I1.kept (t' := s1.toks) hk
      refine ⟨s1.heap.objs.size + 4, [s1.heap.objs.size + 4, s1.heap.objs.size + 2, s1.heap.objs.size + 3, s1.heap.objs.size, s1.heap.objs.size + 1], _, _, H1, rfl, I2, turn_zipLF (PySem.W.ktu_apart s1.heap.objs.size a b la lb), ⟨hz, hTI, ⟨_, _, hTO⟩, h1, h2⟩, fun c hcm => ?_, q⟩
      have e' : c = s1.heap.objs.size + 4 ∨ c = s1.heap.objs.size + 2 ∨ c = s1.heap.objs.size + 3 ∨ c = s1.heap.objs.size ∨ c = s1.heap.objs.size + 1 := by simpa using hcm
      have hle : s1.heap.objs.size ≤ c := by
        rcases e' with z | z | z | z | z
        · rw [z]; exact Nat.le_add_right _ _
        · rw [z]; exact Nat.le_add_right _ _
        · rw [z]; exact Nat.le_add_right _ _
        · rw [z]; exact Nat.le_refl _
        · rw [z]; exact Nat.le_add_right _ _
      exact I1.fpOk hle (I1.hok.fresh hle)
end Mn

set_option maxRecDepth 100000
set_option maxHeartbeats 1000000
/-! Mn: zip of lists and tuples in any mix. -/
namespace Mn
open PySem PySem.Spec PyProof.Rows L2 PySem.W
/-- b: a list, else a tuple -/
def SqB (b : Bool) (K : PySem.W.Frag) (H : Hp) (a : Addr) (xs : List V) : Prop := if b then SqL K H a xs else SqT K H a xs
def ItB (b : Bool) (h : Heap) (it a : Addr) (i : Nat) : Prop := if b then h.IsListIter it a i else h.IsTupleIter it a i
theorem drawB {X : Cx} {pins : List (Addr × Obj)} {sg : L2.St} {H : Hp} {s : Shared} {b : Bool} {a it : Addr} {xs : List V} {A : Around} (I : Inv X pins sg H s) (hh : A.handled = none) (hne : a ≠ it) (h : SqB b X.K H a xs) :
    ∃ (its : List Value) (St : Nat → Heap → Prop), Vals xs its ∧ Draws X.prog X.w A it [it, a] its.toArray.size (fun i v => its.toArray[i]? = some v) St ∧ (∀ i h', St i h' → ItB b h' it a i) ∧ ∀ i, ItB b s.heap it a i → St i s.heap := by
  cases b with
  | true =>
    obtain ⟨its, rv, p, _⟩ := I.list h
    exact ⟨its, _, rv, Draws.list hh it a hne its.toArray, fun i h' q => q.1, fun i q => ⟨q, p.isList⟩⟩
  | false =>
    obtain ⟨its, rv, p, _⟩ := I.tuple h
    exact ⟨its, _, rv, Draws.tuple hh it a hne its.toArray, fun i h' q => q.1, fun i q => ⟨q, p⟩⟩
theorem ItB.live {b : Bool} {h : Heap} {it a : Addr} {i : Nat} (q : ItB b h it a i) : ∃ o, h.get? it = some o ∧ ∀ v, o.data ≠ .cell v := by
  cases b with
  | true => obtain ⟨o, h1, _, h3⟩ := q; exact ⟨o, h1, fun v e => by rw [h3] at e; cases e⟩
  | false => obtain ⟨o, h1, _, h3⟩ := q; exact ⟨o, h1, fun v e => by rw [h3] at e; cases e⟩
theorem ItB.at {b : Bool} {h h' : Heap} {it a : Addr} {i : Nat} (q : ItB b h it a i) (k : ∀ o, h.get? it = some o → h'.get? it = some o) : ItB b h' it a i := by
  cases b with
  | true => exact Heap.IsListIter.at (show h.IsListIter it a i from q) k
  | false => exact Heap.IsTupleIter.at (show h.IsTupleIter it a i from q) k
def ItzB (b1 b2 : Bool) (K : PySem.W.Frag) (a b : Addr) : It :=
  ⟨fun i H => ∃ (xs ys : List V) (x y : V), SqB b1 K H a xs ∧ SqB b2 K H b ys ∧ xs[i]? = some x ∧ ys[i]? = some y,
    fun i H v H' => ∃ T o x y, v = .ref T ∧ H T = none ∧ (o.cls = .type "tuple" ∧ o.dict = none) ∧ H' = upd H T (.frz o (.tup [x, y])) ∧ (∀ xs, SqB b1 K H a xs → xs[i]? = some x) ∧ ∀ ys, SqB b2 K H b ys → ys[i]? = some y,
    fun i H => ∃ xs ys : List V, SqB b1 K H a xs ∧ SqB b2 K H b ys ∧ (xs.length ≤ i ∨ ys.length ≤ i)⟩
theorem SqB.inj {X : Cx} {pins : List (Addr × Obj)} {sg : L2.St} {H : Hp} {s : Shared} {b : Bool} {a : Addr} {xs ys : List V} (I : Inv X pins sg H s) (h : SqB b X.K H a xs) (h2 : SqB b X.K H a ys) : xs = ys := by
  cases b with
  | true => exact I.list_inj h h2
  | false => exact I.tuple_inj h h2
/-- the end of a source: it has been told all -/
theorem endB {X : Cx} {pins : List (Addr × Obj)} {sg : L2.St} {H : Hp} {s : Shared} {b : Bool} {a it : Addr} {xs : List V} {A : Around} {i : Nat} (I : Inv X pins sg H s) (hh : A.handled = none) (hne : a ≠ it) (h : SqB b X.K H a xs) (hi : xs.length ≤ i) (q : ItB b s.heap it a i) :
    ∃ (St : Nat → Heap → Prop), Draws X.prog X.w A it [it, a] i (fun _ _ => True) St ∧ St i s.heap := by
  cases b with
  | true =>
    obtain ⟨its, rv, p, _⟩ := I.list h
    have hl := rv.length
    have D := Draws.list (prog := X.prog) (w := X.w) hh it a hne its.toArray
    refine ⟨fun j h' => j = i ∧ (h'.IsListIter it a i ∧ h'.IsList a its.toArray), ⟨fun j h' st => D.live i h' st.2, fun j h' h'' st k => ⟨st.1, D.frame i h' h'' st.2 k⟩, fun j s' Q E hj st => absurd st.1 (Nat.ne_of_lt hj), fun s' Q E st hE => wpAny_nextOf_list_end hh st.2.1 st.2.2 (by simp; omega) hE⟩, rfl, q, p.isList⟩
  | false =>
    obtain ⟨its, rv, p, _⟩ := I.tuple h
    have hl := rv.length
    have D := Draws.tuple (prog := X.prog) (w := X.w) hh it a hne its.toArray
    refine ⟨fun j h' => j = i ∧ (h'.IsTupleIter it a i ∧ h'.IsTuple a its.toArray), ⟨fun j h' st => D.live i h' st.2, fun j h' h'' st k => ⟨st.1, D.frame i h' h'' st.2 k⟩, fun j s' Q E hj st => absurd st.1 (Nat.ne_of_lt hj), fun s' Q E st hE => wpAny_nextOf_tuple_end hh st.2.1 st.2.2 (by simp; omega) hE⟩, rfl, q, p⟩
theorem edgeB {X : Cx} {pins : List (Addr × Obj)} {sg : L2.St} {H : Hp} {s : Shared} {b : Bool} {a it : Addr} {xs : List V} {A : Around} {i : Nat} (I : Inv X pins sg H s) (hh : A.handled = none) (hne : a ≠ it) (h : SqB b X.K H a xs) (q : ItB b s.heap it a i) :
    ∃ (n : Nat) (P : Nat → Value → Prop) (St : Nat → Heap → Prop), Draws X.prog X.w A it [it, a] n P St ∧ St i s.heap ∧ i ≤ n ∧ (xs.length ≤ i → i = n) := by
  by_cases hi : xs.length ≤ i
  · obtain ⟨St, D, st⟩ := endB I hh hne h hi q
    exact ⟨i, _, St, D, st, Nat.le_refl _, fun _ => rfl⟩
  · obtain ⟨its, St, rv, D, _, c⟩ := drawB I hh hne h
    have hl := rv.length
    exact ⟨_, _, St, D, c i q, by rw [List.size_toArray]; omega, fun h => absurd h hi⟩
theorem turn_zipB {P : Program} {w : World} {K : PySem.W.Frag} {b1 b2 : Bool} {elts : List Expr} {kk : Nat} {tpos : Pos} {a b z TI TO i1 i2 : Addr} (D : ZipSep2 z TI TO i1 i2 [i1, a] [i2, b]) (n1 : a ≠ i1) (n2 : b ≠ i2) :
    Turn P w K (.Tuple elts kk tpos) (ItzB b1 b2 K a b) [z, TI, TO, i1, i2] z (fun i h => IsZip h z TI TO .none ∧ IsTupOf2 h TI (.ref i1) (.ref i2) ∧ (∃ x y, IsTupOf2 h TO x y) ∧ ItB b1 h i1 a i ∧ ItB b2 h i2 b i) where
  mem := by simp
  obj := fun i h st c hc => by
    obtain ⟨hz, hTI, ⟨x, y, hTO⟩, q1, q2⟩ := st
    have e' : c = z ∨ c = TI ∨ c = TO ∨ c = i1 ∨ c = i2 := by simpa using hc
    rcases e' with q | q | q | q | q
    · rw [q]; exact ⟨_, hz, fun v q => nomatch q⟩
    · rw [q]; exact ⟨_, hTI, fun v q => nomatch q⟩
    · rw [q]; exact ⟨_, hTO, fun v q => nomatch q⟩
    · rw [q]; exact q1.live
    · rw [q]; exact q2.live
  keep := fun i h h' st k => by
    obtain ⟨hz, hTI, ⟨x, y, hTO⟩, h1, h2⟩ := st
    exact ⟨k z (by simp) _ hz, k TI (by simp) _ hTI, ⟨x, y, k TO (by simp) _ hTO⟩, h1.at fun o q => k i1 (by simp) o q, h2.at fun o q => k i2 (by simp) o q⟩
  item := by
    intro X hP hw hK hc i pins s sg H E I hf st hg
    subst hP hw hK
    obtain ⟨hz, hTI, ⟨x0, y0, hTO⟩, h1, h2⟩ := st
    obtain ⟨xs, ys, x, y, hqx, hqy, hx, hy⟩ := hg
    obtain ⟨its, St1, rv, D1, o1, c1⟩ := drawB (A := X.A.in1) (it := i1) I (I.ok.hd hc) n1 hqx
    obtain ⟨its2, St2, rv2, D2, o2, c2⟩ := drawB (A := X.A.in1) (it := i2) I (I.ok.hd hc) n2 hqy
    obtain ⟨u, hu, ru⟩ := rv.get hx
    obtain ⟨u2, hu2, ru2⟩ := rv2.get hy
    have hzl : z < s.heap.objs.size := Heap.lt_size hz
    refine wpAny_pyNext_zipD2_item D D1 D2 hz hTI hTO (c1 i h1) (c2 i h2) (by rw [List.size_toArray]; exact (List.getElem?_eq_some_iff.mp hu).1) (by rw [List.size_toArray]; exact (List.getElem?_eq_some_iff.mp hu2).1) fun v v2 h' tk p1 p2 z' TO' s1' s2' hT hsz hk => ?_
    have e1 : v = u := by
      have q : its[i]? = some v := by simpa using p1
      rw [hu] at q; exact (Option.some.inj q).symm
    have e2 : v2 = u2 := by
      have q : its2[i]? = some v2 := by simpa using p2
      rw [hu2] at q; exact (Option.some.inj q).symm
    subst e1 e2
    have h1' := o1 _ _ s1'
    have h2' := o2 _ _ s2'
    refine ⟨_, rfl, wpAny_letOwnedTupleGo_zip (s := { s with heap := h', toks := tk }) z' fun h'' z'' sb => ?_⟩
    have hT2 : h''.get? s.heap.objs.size = some { cls := .type "tuple", data := .seq #[v, v2] } := (sb.2 _ (Nat.ne_of_gt hzl)).trans hT
    have new : ObjOk X.prog X.w (upd H s.heap.objs.size (.frz { cls := .type "tuple", data := .seq #[v, v2] } (.tup [x, y]))) h'' s.heap.objs.size (.frz { cls := .type "tuple", data := .seq #[v, v2] } (.tup [x, y])) :=
      ⟨hT2, by show 2 ≤ sizeLine; decide, [v, v2], .cons ru (.cons ru2 .nil), ⟨_, hT2, rfl, _, rfl⟩⟩
    have I1 : Inv X pins sg (upd H s.heap.objs.size (.frz { cls := .type "tuple", data := .seq #[v, v2] } (.tup [x, y]))) { s with heap := h'', toks := tk } :=
      I.turnedNew (t' := tk) (ch := [z, TI, TO, i1, i2]) (fun c o hb q => (sb.2 c (fun q' => hb (by simp [q']))).trans (hk c o (fun q' => hb (by simp [q'])) (fun q' => hb (by simp [q'])) (fun q' => hb (by simp [q'])) (fun q' => hb (by simp [q'])) q)) hf (Nat.le_refl _) new
    refine ⟨.ref s.heap.objs.size, _, I1, rfl, ⟨_, _, x, y, rfl, I.hok.fresh (Nat.le_refl _), ⟨rfl, rfl⟩, rfl, fun l hl => by rw [SqB.inj I hl hqx]; exact hx, fun l hl => by rw [SqB.inj I hl hqy]; exact hy⟩, ⟨z'', ?_, ⟨v, v2, ?_⟩, ?_, ?_⟩, fun c hcm => ?_⟩
    · exact (sb.2 _ D.TIz).trans (hk _ _ D.TIz D.TITO D.TIi1 D.TIi2 hTI)
    · exact (sb.2 _ D.TOz).trans TO'
    · exact h1'.at fun o q => (sb.2 _ (Ne.symm D.zi1)).trans q
    · exact h2'.at fun o q => (sb.2 _ (Ne.symm D.zi2)).trans q
    · have hlt : c < s.heap.objs.size := by
        have e' : c = z ∨ c = TI ∨ c = TO ∨ c = i1 ∨ c = i2 := by simpa using hcm
        rcases e' with q | q | q | q | q
        · rw [q]; exact hzl
        · rw [q]; exact Heap.lt_size hTI
        · rw [q]; exact Heap.lt_size hTO
        · rw [q]; obtain ⟨_, e1, _⟩ := h1.live; exact Heap.lt_size e1
        · rw [q]; obtain ⟨_, e2, _⟩ := h2.live; exact Heap.lt_size e2
      rw [upd_ne (Nat.ne_of_lt hlt)]
      exact (hf c hcm).1
  done := by
    intro X hP hw hK hc i pins s sg H E I hf st hg
    subst hP hw hK
    obtain ⟨hz, hTI, ⟨x0, y0, hTO⟩, h1, h2⟩ := st
    obtain ⟨xs, ys, hqx, hqy, hend⟩ := hg
    obtain ⟨m1, P1, St1, D1, s1, l1, g1⟩ := edgeB (A := X.A.in1) I (I.ok.hd hc) n1 hqx h1
    obtain ⟨m2, P2, St2, D2, s2, l2, g2⟩ := edgeB (A := X.A.in1) I (I.ok.hd hc) n2 hqy h2
    exact wpAny_pyNext_zipD2_end D D1 D2 hz hTI hTO s1 s2 l1 l2 (hend.imp g1 g2) fun h' tk hk => ⟨rfl, I.turnedL (t' := tk) (ch := [z, TI, TO, i1, i2]) (fun c o hb q =>
      hk c o (fun q' => hb (by simp [q'])) (fun q' => hb (by simp [q'])) (fun q' => hb (by simp [q'])) (fun q' => hb (by simp [q'])) q) hf⟩
  self := fun A i s Q E st h => wpAny_pyIter_zip st.1 h
def iZipB (K : PySem.W.Frag) (ta : TA) : TI := fun sg H R => ta sg H fun vs H1 => ∃ a b b1 b2 xs ys, vs = [.ref a, .ref b] ∧ SqB b1 K H1 a xs ∧ SqB b2 K H1 b ys ∧ R (ItzB b1 b2 K a b) H1
theorem beginB {X : Cx} {pins : List (Addr × Obj)} {sg : L2.St} {H : Hp} {s : Shared} {b : Bool} {a : Addr} {xs : List V} (I : Inv X pins sg H s) (h : SqB b X.K H a xs) :
    a < s.heap.objs.size ∧ ∃ (o : Obj) (Hh : Heap → Prop), Begins (.ref a) o Hh ∧ Hh s.heap ∧ ∀ h' it, h'.get? it = some o → ItB b h' it a 0 := by
  cases b with
  | true =>
    obtain ⟨its, rv, p, _⟩ := I.list h
    exact ⟨p.lt, _, _, begins_list a its.toArray, p.isList, fun h' it q => ⟨_, q, rfl, rfl⟩⟩
  | false =>
    obtain ⟨its, rv, p, _⟩ := I.tuple h
    exact ⟨by obtain ⟨o, e1, _⟩ := p; exact Heap.lt_size e1, _, _, begins_tuple a its.toArray, p, fun h' it q => ⟨_, q, rfl, rfl⟩⟩
theorem sepN (n a b : Nat) (la : a < n) (lb : b < n) : ZipSep2 (n + 4) (n + 2) (n + 3) n (n + 1) [n, a] [n + 1, b] := by
  constructor <;> (try unfold Addr at *) <;> simp <;> omega
theorem pi_zipB {X : Cx} {e e2 : Expr} {ta : TA} {p pos tpos : Pos} {elts : List Expr} {kk : Nat} (hg : Gl X "zip") (hm : X.mg "zip" = none) (ha : PA X [e, e2] ta)
    (hs : starEach [e, e2] X.env = (false, eval e X.env) :: starEach [e2] X.env := by rfl) (hpl : (backTo pos (starEach [e2] X.env)).any (·.1) = false := by rfl) :
    PI X (.Tuple elts kk tpos) (.Call (.Name "zip" p) [e, e2] [] pos) (iZipB X.K ta) := by
  refine ⟨fun pins s sg H R I h => ?_⟩
  refine Call_ (ld_blt I hg hm PyProof.Rows.boot_zip (PyProof.Rows.callWith_type1 (thn (ha.run pos pins s sg H _ I h) fun us s1 ⟨vs, H1, I1, r1, q1⟩ => ?_) hs hpl))
  obtain ⟨a, b, b1, b2, xs, ys, ex, hqx, hqy, q⟩ := q1
  subst ex
  cases r1 with
  | cons r rr =>
    cases rr with
    | cons r' rr =>
      cases rr
      cases r
      cases r'
      obtain ⟨la, o1, G1, B1, g1, m1⟩ := beginB I1 hqx
      obtain ⟨lb, o2, G2, B2, g2, m2⟩ := beginB I1 hqy
      refine zip_begins2 B1 B2 g1 g2 fun h' hz hTI hTO h1 h2 hsz hk => wpAny_pyIter_zip hz ?_
      have I2 : Inv X pins sg H1 { s1 with heap := h' } := I1.kept (t' := s1.toks) hk
      refine ⟨s1.heap.objs.size + 4, [s1.heap.objs.size + 4, s1.heap.objs.size + 2, s1.heap.objs.size + 3, s1.heap.objs.size, s1.heap.objs.size + 1], _, _, H1, rfl, I2, turn_zipB (b1 := b1) (b2 := b2) ?_ (Nat.ne_of_lt la) (Nat.ne_of_lt (Nat.lt_succ_of_lt lb)), ⟨hz, hTI, ⟨_, _, hTO⟩, m1 _ _ h1, m2 _ _ h2⟩, fun c hcm => ?_, q⟩
      · exact sepN _ _ _ la lb
      · have e' : c = s1.heap.objs.size + 4 ∨ c = s1.heap.objs.size + 2 ∨ c = s1.heap.objs.size + 3 ∨ c = s1.heap.objs.size ∨ c = s1.heap.objs.size + 1 := by simpa using hcm
        have hle : s1.heap.objs.size ≤ c := by rcases e' with z | z | z | z | z <;> rw [z] <;> first | exact Nat.le_refl _ | exact Nat.le_add_right _ _
        exact I1.fpOk hle (I1.hok.fresh hle)
end Mn

set_option maxRecDepth 100000
set_option maxHeartbeats 1000000
/-! Mn: tree data, a store of mutable objects, and readings of the hand layer told by plain functions over them. -/
namespace Mn
open PySem PySem.Spec PyProof.Rows L2

/-- data: trees; ref n is the mutable object n of the store; rol is a list that nobody writes (the script) -/
inductive D where
  | non | bl (b : Bool) | int (i : Int) | str (x : Str) | tup (ds : List D) | lst (ds : List D) | rol (ds : List D)
  | dic (ks : List Key) (ds : List D) | ref (n : Nat)
  deriving Inhabited

/-- what may be changed -/
inductive Ob where
  | lst (ds : List D) | dic (ks : List Key) (ds : List D) | tab (P : Addr) (q : Str)
  deriving Inhabited

structure Sto where
  nx : Nat
  ob : Nat → Option Ob

def Sto.new (S : Sto) (o : Ob) : Sto := ⟨S.nx + 1, fun n => if n = S.nx then some o else S.ob n⟩
def Sto.set (S : Sto) (n : Nat) (o : Ob) : Sto := ⟨S.nx, fun m => if m = n then some o else S.ob m⟩
def Sto.del (S : Sto) (n : Nat) : Sto := ⟨S.nx, fun m => if m = n then none else S.ob m⟩

/-- where the mutable objects stand; rs are addresses of objects that the plain functions do not see -/
structure Ph where
  f : Nat → Addr
  rs : List Addr

/-- a is the address of an object that may be changed -/
def Own (ph : Ph) (S : Sto) (a : Addr) : Prop := a ∈ ph.rs ∨ ∃ n, (S.ob n).isSome = true ∧ ph.f n = a

def noH : Hp := fun _ => none
theorem sqT_of {K : PySem.W.Frag} {H : Hp} {a : Addr} {xs : List V} (h : SqT K noH a xs) : SqT K H a xs := by
  rcases h with (h | ⟨o, h⟩) | h
  · cases h
  · cases h
  · exact .inr h
theorem sqL_of {K : PySem.W.Frag} {H : Hp} {a : Addr} {xs : List V} (h : SqL K noH a xs) : SqL K H a xs := by
  rcases h with (h | ⟨o, h⟩) | h
  · cases h
  · cases h
  · exact .inr h

def TAt (K : PySem.W.Frag) (ph : Ph) (S : Sto) (H : Hp) (a : Addr) (xs : List V) : Prop :=
  ((∃ o, H a = some (.frz o (.tup xs)) ∧ o.cls = .type "tuple" ∧ o.dict = none) ∧ ¬ Own ph S a) ∨ ((∃ o, K.lookup a = some o ∧ o.cls = .type "tuple" ∧ o.dict = none) ∧ SqT K noH a xs)
theorem TAt.tf {K : PySem.W.Frag} {ph : Ph} {S : Sto} {H : Hp} {a : Addr} {xs : List V} (h : TAt K ph S H a xs) : TupF K H a xs := by
  rcases h with h | h
  · exact .inl h.1
  · exact .inr h
theorem TAt.new {K : PySem.W.Frag} {ph : Ph} {S : Sto} {H : Hp} {p : Addr} {o : Obj} {xs : List V} (h1 : o.cls = .type "tuple") (h2 : o.dict = none) (n : ¬ Own ph S p) : TAt K ph S (upd H p (.frz o (.tup xs))) p xs := .inl ⟨⟨o, upd_same, h1, h2⟩, n⟩
def LAt (K : PySem.W.Frag) (ph : Ph) (S : Sto) (H : Hp) (a : Addr) (xs : List V) : Prop := (Rd H a (.lst xs) ∧ ¬ Own ph S a) ∨ SqL K noH a xs
theorem TAt.sq {K : PySem.W.Frag} {ph : Ph} {S : Sto} {H : Hp} {a : Addr} {xs : List V} (h : TAt K ph S H a xs) : SqT K H a xs := by
  rcases h with h | h
  · obtain ⟨⟨o, h1, _⟩, _⟩ := h
    exact .inl (.inr ⟨o, h1⟩)
  · exact sqT_of h.2
theorem LAt.sq {K : PySem.W.Frag} {ph : Ph} {S : Sto} {H : Hp} {a : Addr} {xs : List V} (h : LAt K ph S H a xs) : SqL K H a xs := by
  rcases h with h | h
  · exact .inl h.1
  · exact sqL_of h

mutual
/-- the value v stands for the data d -/
def Rep (K : PySem.W.Frag) (ph : Ph) (S : Sto) (H : Hp) : D → V → Prop
  | .non, v => v = .non
  | .bl b, v => v = .bl b
  | .int i, v => v = .int i
  | .str x, v => v = .str x
  | .tup ds, v => ∃ a xs, v = .ref a ∧ TAt K ph S H a xs ∧ RepL K ph S H ds xs
  | .lst ds, v => ∃ a xs, v = .ref a ∧ (H a = some (.lst xs) ∧ ¬ Own ph S a) ∧ RepL K ph S H ds xs
  | .rol ds, v => ∃ a xs, v = .ref a ∧ LAt K ph S H a xs ∧ RepL K ph S H ds xs
  | .dic ks ds, v => ∃ a kvs, v = .ref a ∧ (H a = some (.dK kvs) ∧ ¬ Own ph S a) ∧ kvs.map (·.1) = ks ∧ RepL K ph S H ds (kvs.map (·.2))
  | .ref n, v => n < S.nx ∧ v = .ref (ph.f n)
def RepL (K : PySem.W.Frag) (ph : Ph) (S : Sto) (H : Hp) : List D → List V → Prop
  | [], xs => xs = []
  | d :: ds, xs => ∃ x r, xs = x :: r ∧ Rep K ph S H d x ∧ RepL K ph S H ds r
end

def RepO (K : PySem.W.Frag) (ph : Ph) (S : Sto) (H : Hp) : Ob → Addr → Prop
  | .lst ds, a => ∃ xs, H a = some (.lst xs) ∧ RepL K ph S H ds xs
  | .dic ks ds, a => ∃ kvs, H a = some (.dK kvs) ∧ kvs.map (·.1) = ks ∧ RepL K ph S H ds (kvs.map (·.2))
  | .tab P q, a => a = P ∧ ∃ ps, H a = some (.tbl ps) ∧ TriplesOk ps.toList ∧ ∀ (pos : Pos) (cv : Value), codeAmong pos ps.toList = some cv → ∃ c, cv = .ref c ∧ H c = some (LamX.CodeO c q) ∧ ¬ Own ph S c

structure Sim (K : PySem.W.Frag) (ph : Ph) (S : Sto) (H : Hp) : Prop where
  lt : ∀ n o, S.ob n = some o → n < S.nx
  inj : ∀ m n, (S.ob m).isSome = true → (S.ob n).isSome = true → ph.f m = ph.f n → m = n
  ok : ∀ n o, S.ob n = some o → RepO K ph S H o (ph.f n)
  rsv : ∀ r ∈ ph.rs, (∃ xs, H r = some (.lst xs)) ∧ ∀ n, (S.ob n).isSome = true → ph.f n ≠ r

structure Ext0 (ph : Ph) (S : Sto) (H : Hp) (ph' : Ph) (S' : Sto) (H' : Hp) : Prop where
  nx : S.nx ≤ S'.nx
  pe : ∀ n, n < S.nx → ph'.f n = ph.f n
  kp : ∀ a o, H a = some o → (∀ ps, o ≠ .tbl ps) → ¬ Own ph S a → H' a = some o ∧ ¬ Own ph' S' a

structure Ext (ph : Ph) (S : Sto) (H : Hp) (ph' : Ph) (S' : Sto) (H' : Hp) : Prop extends Ext0 ph S H ph' S' H' where
  rs : ph'.rs = ph.rs ∧ ∀ r ∈ ph.rs, H' r = H r

section
variable {K : PySem.W.Frag} {ph ph1 ph2 : Ph} {S S1 S2 : Sto} {H H1 H2 : Hp}
theorem Ext.refl : Ext ph S H ph S H := ⟨⟨Nat.le_refl _, fun _ _ => rfl, fun _ _ h _ n => ⟨h, n⟩⟩, rfl, fun _ _ => rfl⟩
theorem Ext0.trans (a : Ext0 ph S H ph1 S1 H1) (b : Ext0 ph1 S1 H1 ph2 S2 H2) : Ext0 ph S H ph2 S2 H2 :=
  ⟨Nat.le_trans a.nx b.nx, fun n h => (b.pe n (Nat.lt_of_lt_of_le h a.nx)).trans (a.pe n h), fun x o h t n => let ⟨h1, n1⟩ := a.kp x o h t n; b.kp x o h1 t n1⟩
theorem Ext.trans (a : Ext ph S H ph1 S1 H1) (b : Ext ph1 S1 H1 ph2 S2 H2) : Ext ph S H ph2 S2 H2 :=
  ⟨a.toExt0.trans b.toExt0, b.rs.1.trans a.rs.1, fun r hr => (b.rs.2 r (by rw [a.rs.1]; exact hr)).trans (a.rs.2 r hr)⟩
theorem TAt.ext0 {a : Addr} {xs : List V} (e : Ext0 ph S H ph1 S1 H1) (h : TAt K ph S H a xs) : TAt K ph1 S1 H1 a xs := by
  rcases h with ⟨⟨o, h, h2⟩, n⟩ | h
  · obtain ⟨h1, n1⟩ := e.kp a _ h (fun _ z => nomatch z) n
    exact .inl ⟨⟨o, h1, h2⟩, n1⟩
  · exact .inr h
theorem LAt.ext0 {a : Addr} {xs : List V} (e : Ext0 ph S H ph1 S1 H1) (h : LAt K ph S H a xs) : LAt K ph1 S1 H1 a xs := by
  rcases h with ⟨h | ⟨o, h⟩, n⟩ | h
  · obtain ⟨h1, n1⟩ := e.kp a _ h (fun _ z => nomatch z) n
    exact .inl ⟨.inl h1, n1⟩
  · obtain ⟨h1, n1⟩ := e.kp a _ h (fun _ z => nomatch z) n
    exact .inl ⟨.inr ⟨o, h1⟩, n1⟩
  · exact .inr h
mutual
theorem Rep.ext0 (e : Ext0 ph S H ph1 S1 H1) : ∀ (d : D) (v : V), Rep K ph S H d v → Rep K ph1 S1 H1 d v
  | .non, v, h => by rw [Rep] at h ⊢; exact h
  | .bl b, v, h => by rw [Rep] at h ⊢; exact h
  | .int i, v, h => by rw [Rep] at h ⊢; exact h
  | .str x, v, h => by rw [Rep] at h ⊢; exact h
  | .tup ds, v, h => by
    rw [Rep] at h ⊢
    obtain ⟨a, xs, h1, h2, h3⟩ := h
    exact ⟨a, xs, h1, h2.ext0 e, RepL.ext0 e ds xs h3⟩
  | .lst ds, v, h => by
    rw [Rep] at h ⊢
    obtain ⟨a, xs, h1, h2, h3⟩ := h
    exact ⟨a, xs, h1, e.kp _ _ h2.1 (fun _ z => nomatch z) h2.2, RepL.ext0 e ds xs h3⟩
  | .rol ds, v, h => by
    rw [Rep] at h ⊢
    obtain ⟨a, xs, h1, h2, h3⟩ := h
    exact ⟨a, xs, h1, h2.ext0 e, RepL.ext0 e ds xs h3⟩
  | .dic ks ds, v, h => by
    rw [Rep] at h ⊢
    obtain ⟨a, kvs, h1, h2, h3, h4⟩ := h
    exact ⟨a, kvs, h1, e.kp _ _ h2.1 (fun _ z => nomatch z) h2.2, h3, RepL.ext0 e ds _ h4⟩
  | .ref n, v, h => by
    rw [Rep] at h ⊢
    exact ⟨Nat.lt_of_lt_of_le h.1 e.nx, by rw [e.pe n h.1]; exact h.2⟩
theorem RepL.ext0 (e : Ext0 ph S H ph1 S1 H1) : ∀ (ds : List D) (xs : List V), RepL K ph S H ds xs → RepL K ph1 S1 H1 ds xs
  | [], xs, h => by rw [RepL] at h ⊢; exact h
  | d :: ds, xs, h => by
    rw [RepL] at h ⊢
    obtain ⟨x, r, h1, h2, h3⟩ := h
    exact ⟨x, r, h1, Rep.ext0 e d x h2, RepL.ext0 e ds r h3⟩
end
theorem RepO.ext0 {o : Ob} {a : Addr} (e : Ext0 ph S H ph1 S1 H1) (ha : H1 a = H a) (h : RepO K ph S H o a) : RepO K ph1 S1 H1 o a := by
  cases o with
  | lst ds =>
    obtain ⟨xs, h1, h2⟩ := h
    exact ⟨xs, ha.trans h1, h2.ext0 e⟩
  | dic ks ds =>
    obtain ⟨kvs, h1, h2, h3⟩ := h
    exact ⟨kvs, ha.trans h1, h2, h3.ext0 e⟩
  | tab P q =>
    obtain ⟨h0, ps, h1, h2, h3⟩ := h
    refine ⟨h0, ps, ha.trans h1, h2, fun pos cv hc => ?_⟩
    obtain ⟨c, k1, k2, k3⟩ := h3 pos cv hc
    obtain ⟨j1, j2⟩ := e.kp c _ k2 (fun ps => LamX.codeO_ne ps) k3
    exact ⟨c, k1, j1, j2⟩
theorem TAt.ext {a : Addr} {xs : List V} (e : Ext ph S H ph1 S1 H1) (h : TAt K ph S H a xs) : TAt K ph1 S1 H1 a xs := h.ext0 e.toExt0
theorem LAt.ext {a : Addr} {xs : List V} (e : Ext ph S H ph1 S1 H1) (h : LAt K ph S H a xs) : LAt K ph1 S1 H1 a xs := h.ext0 e.toExt0
theorem Rep.ext (e : Ext ph S H ph1 S1 H1) {d : D} {v : V} (h : Rep K ph S H d v) : Rep K ph1 S1 H1 d v := Rep.ext0 e.toExt0 d v h
theorem RepL.ext (e : Ext ph S H ph1 S1 H1) {ds : List D} {xs : List V} (h : RepL K ph S H ds xs) : RepL K ph1 S1 H1 ds xs := RepL.ext0 e.toExt0 ds xs h
theorem RepO.ext {o : Ob} {a : Addr} (e : Ext ph S H ph1 S1 H1) (ha : H1 a = H a) (h : RepO K ph S H o a) : RepO K ph1 S1 H1 o a := h.ext0 e.toExt0 ha
theorem RepO.there {o : Ob} {a : Addr} (h : RepO K ph S H o a) : ∃ u, H a = some u := by
  cases o with
  | lst ds => obtain ⟨xs, h1, _⟩ := h; exact ⟨_, h1⟩
  | dic ks ds => obtain ⟨xs, h1, _⟩ := h; exact ⟨_, h1⟩
  | tab P q => obtain ⟨_, ps, h1, _⟩ := h; exact ⟨_, h1⟩
theorem Sim.there {n : Nat} (s : Sim K ph S H) (h : (S.ob n).isSome = true) : ∃ u, H (ph.f n) = some u := by
  obtain ⟨o, e⟩ := Option.isSome_iff_exists.mp h
  exact (s.ok n o e).there
theorem Sim.fresh {p : Addr} (s : Sim K ph S H) (h : H p = none) : ¬ Own ph S p := by
  rintro (q | ⟨n, h1, h2⟩)
  · obtain ⟨⟨o, e⟩, _⟩ := s.rsv p q
    rw [h] at e; cases e
  · obtain ⟨u, e⟩ := s.there h1
    rw [h2, h] at e
    cases e

/-! ### what a value that stands for data is -/
theorem Rep.tupE {ds : List D} {v : V} (h : Rep K ph S H (.tup ds) v) : ∃ a xs, v = .ref a ∧ TAt K ph S H a xs ∧ RepL K ph S H ds xs := by rw [Rep] at h; exact h
theorem Rep.lstE {ds : List D} {v : V} (h : Rep K ph S H (.lst ds) v) : ∃ a xs, v = .ref a ∧ (H a = some (.lst xs) ∧ ¬ Own ph S a) ∧ RepL K ph S H ds xs := by rw [Rep] at h; exact h
theorem Rep.rolE {ds : List D} {v : V} (h : Rep K ph S H (.rol ds) v) : ∃ a xs, v = .ref a ∧ LAt K ph S H a xs ∧ RepL K ph S H ds xs := by rw [Rep] at h; exact h
theorem Rep.dicE {ks : List Key} {ds : List D} {v : V} (h : Rep K ph S H (.dic ks ds) v) : ∃ a kvs, v = .ref a ∧ (H a = some (.dK kvs) ∧ ¬ Own ph S a) ∧ kvs.map (·.1) = ks ∧ RepL K ph S H ds (kvs.map (·.2)) := by rw [Rep] at h; exact h
theorem Rep.refE {n : Nat} {v : V} (h : Rep K ph S H (.ref n) v) : n < S.nx ∧ v = .ref (ph.f n) := by rw [Rep] at h; exact h
theorem Rep.intE {n : Int} {v : V} (h : Rep K ph S H (.int n) v) : v = .int n := by rw [Rep] at h; exact h
theorem Rep.strE {n : Str} {v : V} (h : Rep K ph S H (.str n) v) : v = .str n := by rw [Rep] at h; exact h
theorem Rep.blE {n : Bool} {v : V} (h : Rep K ph S H (.bl n) v) : v = .bl n := by rw [Rep] at h; exact h
theorem Rep.nonE {v : V} (h : Rep K ph S H .non v) : v = .non := by rw [Rep] at h; exact h

/-! ### RepL -/
theorem RepL.nil : RepL K ph S H [] [] := by rw [RepL]
theorem RepL.cons {d : D} {ds : List D} {x : V} {xs : List V} (h : Rep K ph S H d x) (r : RepL K ph S H ds xs) : RepL K ph S H (d :: ds) (x :: xs) := by
  rw [RepL]; exact ⟨x, xs, rfl, h, r⟩
theorem RepL.nil_inv {xs : List V} (h : RepL K ph S H [] xs) : xs = [] := by rw [RepL] at h; exact h
theorem RepL.cons_inv {d : D} {ds : List D} {xs : List V} (h : RepL K ph S H (d :: ds) xs) : ∃ x r, xs = x :: r ∧ Rep K ph S H d x ∧ RepL K ph S H ds r := by rw [RepL] at h; exact h
theorem RepL.len : ∀ {ds : List D} {xs : List V}, RepL K ph S H ds xs → xs.length = ds.length
  | [], xs, h => by rw [h.nil_inv]; rfl
  | d :: ds, xs, h => by
    obtain ⟨x, r, rfl, _, h3⟩ := h.cons_inv
    rw [List.length_cons, List.length_cons, h3.len]
theorem RepL.app : ∀ {ds es : List D} {xs ys : List V}, RepL K ph S H ds xs → RepL K ph S H es ys → RepL K ph S H (ds ++ es) (xs ++ ys)
  | [], es, xs, ys, h, k => by rw [h.nil_inv]; exact k
  | d :: ds, es, xs, ys, h, k => by
    obtain ⟨x, r, rfl, h2, h3⟩ := h.cons_inv
    exact .cons h2 (h3.app k)
theorem RepL.get : ∀ {ds : List D} {xs : List V} {i : Nat} {d : D}, RepL K ph S H ds xs → ds[i]? = some d → ∃ x, xs[i]? = some x ∧ Rep K ph S H d x
  | [], xs, i, d, h, e => by simp at e
  | c :: ds, xs, 0, d, h, e => by
    obtain ⟨x, r, rfl, h2, h3⟩ := h.cons_inv
    simp at e; subst e
    exact ⟨x, rfl, h2⟩
  | c :: ds, xs, i + 1, d, h, e => by
    obtain ⟨x, r, rfl, h2, h3⟩ := h.cons_inv
    obtain ⟨y, e1, e2⟩ := h3.get (i := i) (d := d) (by simpa using e)
    exact ⟨y, by simpa using e1, e2⟩
theorem RepL.take : ∀ {ds : List D} {xs : List V} (n : Nat), RepL K ph S H ds xs → RepL K ph S H (ds.take n) (xs.take n)
  | ds, xs, 0, h => by rw [List.take_zero, List.take_zero]; exact .nil
  | [], xs, n + 1, h => by rw [h.nil_inv]; exact .nil
  | c :: ds, xs, n + 1, h => by
    obtain ⟨x, r, rfl, h2, h3⟩ := h.cons_inv
    exact .cons h2 (h3.take n)
theorem RepL.drop : ∀ {ds : List D} {xs : List V} (n : Nat), RepL K ph S H ds xs → RepL K ph S H (ds.drop n) (xs.drop n)
  | ds, xs, 0, h => h
  | [], xs, n + 1, h => by rw [h.nil_inv]; exact .nil
  | c :: ds, xs, n + 1, h => by
    obtain ⟨x, r, rfl, h2, h3⟩ := h.cons_inv
    exact h3.drop n
theorem RepL.set : ∀ {ds : List D} {xs : List V} (n : Nat) {d : D} {x : V}, RepL K ph S H ds xs → Rep K ph S H d x → RepL K ph S H (ds.set n d) (xs.set n x)
  | [], xs, n, d, x, h, k => by rw [h.nil_inv]; exact .nil
  | c :: ds, xs, 0, d, x, h, k => by
    obtain ⟨y, r, rfl, h2, h3⟩ := h.cons_inv
    exact .cons k h3
  | c :: ds, xs, n + 1, d, x, h, k => by
    obtain ⟨y, r, rfl, h2, h3⟩ := h.cons_inv
    exact .cons h2 (h3.set n k)
theorem RepL.of_get : ∀ {ds : List D} {xs : List V}, xs.length = ds.length → (∀ (i : Nat) (d : D) (x : V), ds[i]? = some d → xs[i]? = some x → Rep K ph S H d x) → RepL K ph S H ds xs
  | [], xs, h, _ => by
    have : xs = [] := by simpa using h
    rw [this]; exact .nil
  | d :: ds, [], h, _ => by simp at h
  | d :: ds, x :: xs, h, k => .cons (k 0 d x rfl rfl) (RepL.of_get (by simpa using h) fun i d' x' e1 e2 => k (i + 1) d' x' (by simpa using e1) (by simpa using e2))

/-! ### new objects -/
theorem Sim.rs_ne {p : Addr} (s : Sim K ph S H) (h : H p = none) {r : Addr} (hr : r ∈ ph.rs) : r ≠ p := by
  rintro rfl
  obtain ⟨⟨o, e⟩, _⟩ := s.rsv r hr
  rw [h] at e; cases e
/-- a new tree object -/
theorem Ext.tree {p : Addr} {o : HO} (s : Sim K ph S H) (h : H p = none) : Ext ph S H ph S (upd H p o) :=
  ⟨⟨Nat.le_refl _, fun _ _ => rfl, fun a u e _ n => ⟨by rw [upd_ne (ne_of_none e h)]; exact e, n⟩⟩, rfl, fun r hr => upd_ne (s.rs_ne h hr)⟩
theorem Sim.tree {p : Addr} {o : HO} (s : Sim K ph S H) (h : H p = none) : Sim K ph S (upd H p o) :=
  ⟨s.lt, s.inj, fun n u e => (s.ok n u e).ext (Ext.tree s h) (by
    obtain ⟨v, q⟩ := (s.ok n u e).there
    rw [upd_ne (ne_of_none q h)]), fun r hr => ⟨by rw [upd_ne (s.rs_ne h hr)]; exact (s.rsv r hr).1, (s.rsv r hr).2⟩⟩
def phN (ph : Ph) (S : Sto) (p : Addr) : Ph := ⟨fun n => if n = S.nx then p else ph.f n, ph.rs⟩
theorem Sto.new_ob {S : Sto} {o : Ob} {n : Nat} : (S.new o).ob n = if n = S.nx then some o else S.ob n := rfl
theorem phN_old {p : Addr} {m : Nat} (hm : m ≠ S.nx) : (phN ph S p).f m = ph.f m := if_neg hm
theorem phN_new {p : Addr} : (phN ph S p).f S.nx = p := if_pos rfl
theorem Ext.newO {p : Addr} {o : HO} {u : Ob} (s : Sim K ph S H) (h : H p = none) : Ext ph S H (phN ph S p) (S.new u) (upd H p o) := by
  refine ⟨⟨Nat.le_succ _, fun n hn => phN_old (Nat.ne_of_lt hn), fun a v e _ n => ⟨by rw [upd_ne (ne_of_none e h)]; exact e, ?_⟩⟩, rfl, fun r hr => upd_ne (s.rs_ne h hr)⟩
  rintro (q | ⟨m, h1, h2⟩)
  · exact n (.inl q)
  · rw [Sto.new_ob] at h1
    by_cases hm : m = S.nx
    · subst hm
      rw [phN_new] at h2
      rw [h2] at h; rw [h] at e; cases e
    · rw [if_neg hm] at h1
      rw [phN_old hm] at h2
      exact n (.inr ⟨m, h1, h2⟩)
theorem Sim.newO {p : Addr} {o : HO} {u : Ob} (s : Sim K ph S H) (h : H p = none) (ho : RepO K (phN ph S p) (S.new u) (upd H p o) u p) : Sim K (phN ph S p) (S.new u) (upd H p o) := by
  have E : Ext ph S H (phN ph S p) (S.new u) (upd H p o) := Ext.newO s h
  refine ⟨fun n v e => ?_, fun m n h1 h2 e => ?_, fun n v e => ?_, fun r hr => ⟨by rw [upd_ne (s.rs_ne h hr)]; exact (s.rsv r hr).1, fun n hn => ?_⟩⟩
  · rw [Sto.new_ob] at e
    by_cases hn : n = S.nx
    · rw [hn]; exact Nat.lt_succ_self _
    · rw [if_neg hn] at e; exact Nat.lt_succ_of_lt (s.lt n v e)
  · rw [Sto.new_ob] at h1 h2
    by_cases hm : m = S.nx <;> by_cases hn : n = S.nx
    · rw [hm, hn]
    · exfalso
      rw [hm, phN_new, phN_old hn] at e
      rw [if_neg hn] at h2
      obtain ⟨q, hq⟩ := s.there h2
      rw [← e, h] at hq; cases hq
    · exfalso
      rw [hn, phN_new, phN_old hm] at e
      rw [if_neg hm] at h1
      obtain ⟨q, hq⟩ := s.there h1
      rw [e, h] at hq; cases hq
    · rw [phN_old hm, phN_old hn] at e
      rw [if_neg hm] at h1
      rw [if_neg hn] at h2
      exact s.inj m n h1 h2 e
  · rw [Sto.new_ob] at e
    by_cases hn : n = S.nx
    · rw [if_pos hn] at e; cases e
      rw [hn, phN_new]; exact ho
    · rw [if_neg hn] at e
      rw [phN_old hn]
      obtain ⟨q, hq⟩ := (s.ok n v e).there
      exact (s.ok n v e).ext E (upd_ne (ne_of_none hq h))
  · rw [Sto.new_ob] at hn
    by_cases hm : n = S.nx
    · rw [hm, phN_new]; exact (s.rs_ne h hr).symm
    · rw [if_neg hm] at hn
      rw [phN_old hm]; exact (s.rsv r hr).2 n hn
/-- an object is changed -/
theorem Sto.set_ob {S : Sto} {o : Ob} {n m : Nat} : (S.set n o).ob m = if m = n then some o else S.ob m := rfl
theorem Sto.set_some {n m : Nat} {u : Ob} (h : (S.ob n).isSome = true) : ((S.set n u).ob m).isSome = true ↔ (S.ob m).isSome = true := by
  rw [Sto.set_ob]
  by_cases hm : m = n
  · rw [if_pos hm, hm]; exact ⟨fun _ => h, fun _ => rfl⟩
  · rw [if_neg hm]
theorem own_set {n : Nat} {u : Ob} {a : Addr} (h : (S.ob n).isSome = true) : Own ph (S.set n u) a ↔ Own ph S a := by
  constructor
  · rintro (q | ⟨m, h1, h2⟩)
    · exact .inl q
    · exact .inr ⟨m, (Sto.set_some h).mp h1, h2⟩
  · rintro (q | ⟨m, h1, h2⟩)
    · exact .inl q
    · exact .inr ⟨m, (Sto.set_some h).mpr h1, h2⟩
theorem Ext.setO {n : Nat} {o : HO} {u : Ob} (s : Sim K ph S H) (h : (S.ob n).isSome = true) : Ext ph S H ph (S.set n u) (upd H (ph.f n) o) :=
  ⟨⟨Nat.le_refl _, fun _ _ => rfl, fun a v e _ k => ⟨by
    rw [upd_ne]
    · exact e
    · rintro rfl; exact k (.inr ⟨n, h, rfl⟩), fun q => k ((own_set h).mp q)⟩⟩, rfl, fun r hr => upd_ne ((s.rsv r hr).2 n h).symm⟩
theorem Sim.setO {n : Nat} {o : HO} {u : Ob} (s : Sim K ph S H) (h : (S.ob n).isSome = true) (ho : RepO K ph (S.set n u) (upd H (ph.f n) o) u (ph.f n)) : Sim K ph (S.set n u) (upd H (ph.f n) o) := by
  refine ⟨fun m v e => ?_, fun i j h1 h2 e => s.inj i j ((Sto.set_some h).mp h1) ((Sto.set_some h).mp h2) e, fun m v e => ?_, fun r hr => ⟨by rw [upd_ne ((s.rsv r hr).2 n h).symm]; exact (s.rsv r hr).1, fun m hm => (s.rsv r hr).2 m ((Sto.set_some h).mp hm)⟩⟩
  · obtain ⟨w, hw⟩ := Option.isSome_iff_exists.mp ((Sto.set_some h).mp (by rw [e]; rfl))
    exact s.lt m w hw
  · rw [Sto.set_ob] at e
    by_cases hm : m = n
    · rw [if_pos hm] at e; cases e
      rw [hm]; exact ho
    · rw [if_neg hm] at e
      refine (s.ok m v e).ext (Ext.setO s h) (upd_ne fun q => hm (s.inj m n (by rw [e]; rfl) h q))
/-- an object is changed no more: it is a tree from now on -/
theorem Sto.del_ob {S : Sto} {n m : Nat} : (S.del n).ob m = if m = n then none else S.ob m := rfl
theorem own_del {n : Nat} {a : Addr} (h : Own ph (S.del n) a) : Own ph S a := by
  rcases h with q | ⟨m, h1, h2⟩
  · exact .inl q
  · rw [Sto.del_ob] at h1
    by_cases hm : m = n
    · rw [if_pos hm] at h1; cases h1
    · rw [if_neg hm] at h1; exact .inr ⟨m, h1, h2⟩
theorem Ext.delO {n : Nat} : Ext ph S H ph (S.del n) H := ⟨⟨Nat.le_refl _, fun _ _ => rfl, fun a v e _ k => ⟨e, fun q => k (own_del q)⟩⟩, rfl, fun _ _ => rfl⟩
theorem Sim.delO {n : Nat} (s : Sim K ph S H) : Sim K ph (S.del n) H := by
  have some_of : ∀ m v, (S.del n).ob m = some v → S.ob m = some v := fun m v q => by
    rw [Sto.del_ob] at q
    by_cases hm : m = n
    · rw [if_pos hm] at q; cases q
    · rw [if_neg hm] at q; exact q
  refine ⟨fun m v e => s.lt m v (some_of m v e), fun i j h1 h2 e => ?_, fun m v e => (s.ok m v (some_of m v e)).ext Ext.delO rfl, fun r hr => ⟨(s.rsv r hr).1, fun m hm => ?_⟩⟩
  · obtain ⟨a, ha⟩ := Option.isSome_iff_exists.mp h1
    obtain ⟨b, hb⟩ := Option.isSome_iff_exists.mp h2
    exact s.inj i j (by rw [some_of i a ha]; rfl) (by rw [some_of j b hb]; rfl) e
  · obtain ⟨a, ha⟩ := Option.isSome_iff_exists.mp hm
    exact (s.rsv r hr).2 m (by rw [some_of m a ha]; rfl)
theorem not_own_del {n : Nat} (s : Sim K ph S H) (h : (S.ob n).isSome = true) : ¬ Own ph (S.del n) (ph.f n) := by
  rintro (q | ⟨m, h1, h2⟩)
  · exact (s.rsv _ q).2 n h rfl
  · rw [Sto.del_ob] at h1
    by_cases hm : m = n
    · rw [if_pos hm] at h1; cases h1
    · rw [if_neg hm] at h1
      exact hm (s.inj m n h1 h h2)
/-! ### an object that the plain functions do not see -/
def Ph.res (ph : Ph) (p : Addr) : Ph := ⟨ph.f, p :: ph.rs⟩
theorem Ext0.res {p : Addr} {o : HO} (h : H p = none) : Ext0 ph S H (ph.res p) S (upd H p o) :=
  ⟨Nat.le_refl _, fun _ _ => rfl, fun a u e _ n => ⟨by rw [upd_ne (ne_of_none e h)]; exact e, by
    rintro (q | q)
    · rcases List.mem_cons.mp q with q | q
      · rw [q] at e; rw [h] at e; cases e
      · exact n (.inl q)
    · exact n (.inr q)⟩⟩
theorem Sim.res {p : Addr} {ys : List V} (s : Sim K ph S H) (h : H p = none) : Sim K (ph.res p) S (upd H p (.lst ys)) :=
  ⟨s.lt, s.inj, fun n u e => (s.ok n u e).ext0 (Ext0.res h) (by
    obtain ⟨v, q⟩ := (s.ok n u e).there
    exact upd_ne (ne_of_none q h)), fun r hr => by
      rcases List.mem_cons.mp hr with q | q
      · subst q
        exact ⟨⟨_, upd_same⟩, fun n hn e => s.fresh h (.inr ⟨n, hn, e⟩)⟩
      · exact ⟨by rw [upd_ne (s.rs_ne h q)]; exact (s.rsv r q).1, (s.rsv r q).2⟩⟩
/-- the object that is not seen is written -/
theorem Ext0.wr {p : Addr} {o : HO} (hp : p ∈ ph.rs) : Ext0 ph S H ph S (upd H p o) :=
  ⟨Nat.le_refl _, fun _ _ => rfl, fun a u e _ n => ⟨by rw [upd_ne (by rintro rfl; exact n (.inl hp))]; exact e, n⟩⟩
theorem Sim.wr {p : Addr} {ys : List V} (s : Sim K ph S H) (hp : p ∈ ph.rs) : Sim K ph S (upd H p (.lst ys)) :=
  ⟨s.lt, s.inj, fun n u e => (s.ok n u e).ext0 (Ext0.wr hp) (upd_ne fun q => (s.rsv p hp).2 n (by rw [e]; rfl) q), fun r hr => ⟨by
    by_cases h : r = p
    · rw [h]; exact ⟨_, upd_same⟩
    · rw [upd_ne h]; exact (s.rsv r hr).1, (s.rsv r hr).2⟩⟩
/-- and is seen from now on -/
def Ph.free (ph : Ph) (rs : List Addr) : Ph := ⟨ph.f, rs⟩
theorem Ext0.free {p : Addr} {rs : List Addr} (hp : ph.rs = p :: rs) : Ext0 ph S H (ph.free rs) S H :=
  ⟨Nat.le_refl _, fun _ _ => rfl, fun a u e _ n => ⟨e, by
    rintro (q | q)
    · exact n (.inl (by rw [hp]; exact List.mem_cons_of_mem _ q))
    · exact n (.inr q)⟩⟩
theorem Sim.free {p : Addr} {rs : List Addr} (s : Sim K ph S H) (hp : ph.rs = p :: rs) : Sim K (ph.free rs) S H :=
  ⟨s.lt, s.inj, fun n u e => (s.ok n u e).ext0 (Ext0.free hp) rfl, fun r hr => s.rsv r (by rw [hp]; exact List.mem_cons_of_mem _ hr)⟩
end

/-! ### slots -/
abbrev Env := List (Option D)
def REnv (K : PySem.W.Frag) (ph : Ph) (S : Sto) (H : Hp) (rho : Env) (sg : L2.St) : Prop :=
  rho.length = sg.length ∧ ∀ (i : Nat) (d : D), rho[i]? = some (some d) → ∃ v : V, sg[i]? = some (some v) ∧ Rep K ph S H d v
section
variable {K : PySem.W.Frag} {ph ph1 : Ph} {S S1 : Sto} {H H1 : Hp} {rho : Env} {sg : L2.St}
theorem REnv.ext0 (e : Ext0 ph S H ph1 S1 H1) (h : REnv K ph S H rho sg) : REnv K ph1 S1 H1 rho sg :=
  ⟨h.1, fun i d q => let ⟨v, a, b⟩ := h.2 i d q; ⟨v, a, Rep.ext0 e d v b⟩⟩
theorem REnv.ext (e : Ext ph S H ph1 S1 H1) (h : REnv K ph S H rho sg) : REnv K ph1 S1 H1 rho sg := h.ext0 e.toExt0
theorem REnv.set {d : D} {v : V} (h : REnv K ph S H rho sg) (i : Nat) (r : Rep K ph S H d v) : REnv K ph S H (rho.set i (some d)) (sg.set i (some v)) := by
  refine ⟨by rw [List.length_set, List.length_set]; exact h.1, fun j e q => ?_⟩
  by_cases hj : i = j
  · subst hj
    by_cases hi : i < rho.length
    · rw [List.getElem?_set_self hi] at q
      cases q
      exact ⟨v, List.getElem?_set_self (by rw [← h.1]; exact hi), r⟩
    · rw [List.getElem?_eq_none (by rw [List.length_set]; omega)] at q; cases q
  · rw [List.getElem?_set_ne hj] at q
    obtain ⟨u, a, b⟩ := h.2 j e q
    exact ⟨u, by rw [List.getElem?_set_ne hj]; exact a, b⟩
theorem REnv.unset (h : REnv K ph S H rho sg) (i : Nat) : REnv K ph S H (rho.set i none) (sg.set i none) := by
  refine ⟨by rw [List.length_set, List.length_set]; exact h.1, fun j e q => ?_⟩
  by_cases hj : i = j
  · subst hj
    by_cases hi : i < rho.length
    · rw [List.getElem?_set_self hi] at q
      cases q
    · rw [List.getElem?_eq_none (by rw [List.length_set]; omega)] at q; cases q
  · rw [List.getElem?_set_ne hj] at q
    obtain ⟨u, a, b⟩ := h.2 j e q
    exact ⟨u, by rw [List.getElem?_set_ne hj]; exact a, b⟩
def wipeR (rho : Env) : List Nat → Env
  | [] => rho
  | v :: vs => (wipeR rho vs).set v none
theorem REnv.wipe (h : REnv K ph S H rho sg) : ∀ vs : List Nat, REnv K ph S H (wipeR rho vs) (L2.wipe sg vs)
  | [] => h
  | v :: vs => (h.wipe vs).unset v
end
end Mn

set_option maxRecDepth 100000
set_option maxHeartbeats 1000000
/-! Mn: expressions. -/
namespace Mn
open PySem PySem.Spec PyProof.Rows L2

abbrev M (α : Type) := Sto → Option (α × Sto)
def ret {α : Type} (a : α) : M α := fun S => some (a, S)
def bnd {α β : Type} (m : M α) (f : α → M β) : M β := fun S => (m S).bind fun p => f p.1 p.2
def fail {α : Type} : M α := fun _ => none
theorem bnd_inv {α β : Type} {m : M α} {f : α → M β} {S : Sto} {b : β} {S2 : Sto} (h : bnd m f S = some (b, S2)) : ∃ a S1, m S = some (a, S1) ∧ f a S1 = some (b, S2) := by
  unfold bnd at h
  cases e : m S with
  | none => rw [e] at h; cases h
  | some p => rw [e] at h; exact ⟨p.1, p.2, rfl, h⟩
abbrev EM (α : Type) := Env → M α

section
variable (K : PySem.W.Frag)
def PostE (ph : Ph) (S : Sto) (H : Hp) (Q : VK) (d : D) (S' : Sto) : Prop := ∀ ph' H' v, Ext ph S H ph' S' H' → Sim K ph' S' H' → Rep K ph' S' H' d v → Q v H'
def PostB (ph : Ph) (S : Sto) (H : Hp) (Q : Bool → Hp → Prop) (b : Bool) (S' : Sto) : Prop := ∀ ph' H', Ext ph S H ph' S' H' → Sim K ph' S' H' → Q b H'
def PostL (ph : Ph) (S : Sto) (H : Hp) (Q : List V → Hp → Prop) (ds : List D) (S' : Sto) : Prop := ∀ ph' H' vs, Ext ph S H ph' S' H' → Sim K ph' S' H' → RepL K ph' S' H' ds vs → Q vs H'
def PostI (ph : Ph) (S : Sto) (H : Hp) (Q : Option Int → Hp → Prop) (o : Option Int) (S' : Sto) : Prop := ∀ ph' H', Ext ph S H ph' S' H' → Sim K ph' S' H' → Q o H'
def rdE (m : EM D) : TE := fun sg H Q => ∃ ph S rho d S', Sim K ph S H ∧ REnv K ph S H rho sg ∧ m rho S = some (d, S') ∧ PostE K ph S H Q d S'
def rdT (m : EM Bool) : TT := fun sg H Q => ∃ ph S rho b S', Sim K ph S H ∧ REnv K ph S H rho sg ∧ m rho S = some (b, S') ∧ PostB K ph S H Q b S'
def rdA (m : EM (List D)) : TA := fun sg H Q => ∃ ph S rho ds S', Sim K ph S H ∧ REnv K ph S H rho sg ∧ m rho S = some (ds, S') ∧ PostL K ph S H Q ds S'
def rdO (m : EM (Option Int)) : TO := fun sg H Q => ∃ ph S rho o S', Sim K ph S H ∧ REnv K ph S H rho sg ∧ m rho S = some (o, S') ∧ PostI K ph S H Q o S'
/-- an operator on values does what f says of the data -/
def OpM (r : R2) (f : D → D → M D) : Prop := ∀ ph S H x y dx dy d S' (Q : VK), Sim K ph S H → Rep K ph S H dx x → Rep K ph S H dy y → f dx dy S = some (d, S') → PostE K ph S H Q d S' → r x y H Q
def UnM (r : V → Hp → VK → Prop) (f : D → M D) : Prop := ∀ ph S H x dx d S' (Q : VK), Sim K ph S H → Rep K ph S H dx x → f dx S = some (d, S') → PostE K ph S H Q d S' → r x H Q
def CaM (r : List V → Hp → VK → Prop) (f : List D → M D) : Prop := ∀ ph S H xs dxs d S' (Q : VK), Sim K ph S H → RepL K ph S H dxs xs → f dxs S = some (d, S') → PostE K ph S H Q d S' → r xs H Q
def MeM (T : String) (r : V → List V → Hp → VK → Prop) (f : D → List D → M D) : Prop := ∀ ph S H x xs dx dxs d S' (Q : VK), Sim K ph S H → Rep K ph S H dx x → RepL K ph S H dxs xs → f dx dxs S = some (d, S') → PostE K ph S H Q d S' → r x xs H Q
end

section
variable {X : Cx} {K : PySem.W.Frag}
theorem PE.weak {e : Expr} {t t' : TE} (h : PE X e t) (k : ∀ sg H Q, t' sg H Q → t sg H Q) : PE X e t' := ⟨fun pins s sg H Q I q => h.run pins s sg H Q I (k sg H Q q)⟩
theorem PT.weak {e : Expr} {t t' : TT} (h : PT X e t) (k : ∀ sg H Q, t' sg H Q → t sg H Q) : PT X e t' := ⟨fun pins s sg H Q I q => h.run pins s sg H Q I (k sg H Q q)⟩
theorem PW.weak {e : Expr} {t t' : TT} (h : PW X e t) (k : ∀ sg H Q, t' sg H Q → t sg H Q) : PW X e t' := ⟨fun wh pins s sg H Q I q => h.run wh pins s sg H Q I (k sg H Q q)⟩
theorem PA.weak {e : List Expr} {t t' : TA} (h : PA X e t) (k : ∀ sg H Q, t' sg H Q → t sg H Q) : PA X e t' := ⟨fun pos pins s sg H Q I q => h.run pos pins s sg H Q I (k sg H Q q)⟩
theorem PO.weak {e : Option Expr} {t t' : TO} (h : PO X e t) (k : ∀ sg H Q, t' sg H Q → t sg H Q) : PO X e t' := ⟨fun pins s sg H Q I q => h.run pins s sg H Q I (k sg H Q q)⟩

/-! ### bind: one part after another -/
theorem rdE_b {α : Type} {m : EM D} {f : D → EM D} {sg : L2.St} {H : Hp} {Q : VK} (h : rdE K (fun rho => bnd (m rho) fun d => f d rho) sg H Q) :
    rdE K m sg H fun x H1 => ∃ ph S rho d d' S', Sim K ph S H1 ∧ REnv K ph S H1 rho sg ∧ Rep K ph S H1 d x ∧ f d rho S = some (d', S') ∧ PostE K ph S H1 Q d' S' := by
  obtain ⟨ph, S, rho, d', S', s, en, e, post⟩ := h
  obtain ⟨d, S1, e1, e2⟩ := bnd_inv e
  exact ⟨ph, S, rho, d, S1, s, en, e1, fun ph1 H1 x E1 s1 r1 => ⟨ph1, S1, rho, d, d', S', s1, en.ext E1, r1, e2, fun ph2 H2 v E2 s2 r2 => post ph2 H2 v (E1.trans E2) s2 r2⟩⟩
theorem PostE.now {ph : Ph} {S : Sto} {H : Hp} {Q : VK} {d : D} {v : V} (p : PostE K ph S H Q d S) (s : Sim K ph S H) (r : Rep K ph S H d v) : Q v H := p ph H v Ext.refl s r
theorem PostE.of {ph ph1 : Ph} {S S1 S' : Sto} {H H1 : Hp} {Q : VK} {d : D} (p : PostE K ph S H Q d S') (E : Ext ph S H ph1 S1 H1) : PostE K ph1 S1 H1 Q d S' := fun ph2 H2 v E2 s2 r2 => p ph2 H2 v (E.trans E2) s2 r2

/-! ### names, constants -/
def mV (i : Nat) : EM D := fun rho S => match rho[i]? with
  | some (some d) => some (d, S)
  | _ => none
theorem e_v (i : Nat) {x : Str} {pos : Pos} (hN : X.N[i]? = some x := by rfl) (hv : Vis X.env.scope x := by first | exact Or.inl rfl | exact Or.inr (Or.inl rfl) | exact Or.inr (Or.inr rfl)) (hd : (x == ("__debug__" : Str)) = false := by decide)
    (hcd : (x == ("__classdict__" : Str)) = false := by decide) : PE X (.Name x pos) (rdE X.K (mV i)) := by
  refine PE.weak (pe_var hN hv hd hcd) fun sg H Q h => ?_
  obtain ⟨ph, S, rho, d, S', s, en, e, post⟩ := h
  unfold mV at e
  split at e
  · rename_i c hc
    cases e
    obtain ⟨v, h1, h2⟩ := en.2 i d hc
    exact ⟨v, h1, post.now s h2⟩
  · cases e
def mC (d : D) : EM D := fun _ => ret d
theorem rdC {d : D} {v : V} (hr : ∀ ph S H, Rep K ph S H d v) {sg : L2.St} {H : Hp} {Q : VK} (h : rdE K (mC d) sg H Q) : tC v sg H Q := by
  obtain ⟨ph, S, rho, d', S', s, en, e, post⟩ := h
  cases e
  exact post.now s (hr ph S H)
theorem e_int {i : Int} {j pos} : PE X (.Constant (.int i) j pos) (rdE X.K (mC (.int i))) := PE.weak pe_int fun _ _ _ h => rdC (fun _ _ _ => by rw [Rep]) h
theorem e_bl {b : Bool} {j pos} : PE X (.Constant (.bool b) j pos) (rdE X.K (mC (.bl b))) := PE.weak pe_bl fun _ _ _ h => rdC (fun _ _ _ => by rw [Rep]) h
theorem e_non {j pos} : PE X (.Constant .none j pos) (rdE X.K (mC .non)) := PE.weak pe_non fun _ _ _ h => rdC (fun _ _ _ => by rw [Rep]) h
theorem e_str {x : Str} {j pos} : PE X (.Constant (.str x) j pos) (rdE X.K (mC (.str x))) := PE.weak pe_str fun _ _ _ h => rdC (fun _ _ _ => by rw [Rep]) h
/-- a module's text, number -/
theorem e_gstr {x : Str} {y : Str} {t : Tok} {pos : Pos} (hg : Gl X x) (hm : X.mg x = some (.str y t)) (hd : (x == ("__debug__" : Str)) = false := by decide) : PE X (.Name x pos) (rdE X.K (mC (.str y))) :=
  PE.weak (pe_glob (v := .str y) hg hm ⟨t, rfl⟩ hd) fun _ _ _ h => rdC (fun _ _ _ => by rw [Rep]) h
theorem e_gint {x : Str} {y : Int} {t : Tok} {pos : Pos} (hg : Gl X x) (hm : X.mg x = some (.int y t)) (hd : (x == ("__debug__" : Str)) = false := by decide) : PE X (.Name x pos) (rdE X.K (mC (.int y))) :=
  PE.weak (pe_glob (v := .int y) hg hm ⟨t, rfl⟩ hd) fun _ _ _ h => rdC (fun _ _ _ => by rw [Rep]) h

/-! ### operators -/
def mBin (f : D → D → M D) (ma mb : EM D) : EM D := fun rho => bnd (ma rho) fun a => bnd (mb rho) fun b => f a b
theorem rd_two {f : D → D → M D} {ma mb : EM D} {r : R2} (hm : OpM K r f) {sg : L2.St} {H : Hp} {Q : VK} (h : rdE K (mBin f ma mb) sg H Q) : tOp r (rdE K ma) (rdE K mb) sg H Q := by
  obtain ⟨ph, S, rho, d, S', s, en, e, post⟩ := h
  obtain ⟨a, S1, e1, e⟩ := bnd_inv e
  obtain ⟨b, S2, e2, e3⟩ := bnd_inv e
  exact ⟨ph, S, rho, a, S1, s, en, e1, fun ph1 H1 x E1 s1 r1 => ⟨ph1, S1, rho, b, S2, s1, en.ext E1, e2, fun ph2 H2 y E2 s2 r2 => hm ph2 S2 H2 x y a b d S' Q s2 (r1.ext E2) r2 e3 (post.of (E1.trans E2))⟩⟩
theorem e_bin {op : Operator} {r : R2} {f : D → D → M D} {ma mb : EM D} {a b : Expr} {pos : Pos} (ho : OpR X (binaryOp op) r) (hm : OpM X.K r f) (ha : PE X a (rdE X.K ma)) (hb : PE X b (rdE X.K mb)) : PE X (.BinOp a op b pos) (rdE X.K (mBin f ma mb)) :=
  PE.weak (pe_op ho ha hb) fun _ _ _ h => rd_two hm h
theorem e_cmp {op : CmpOp} {r : R2} {f : D → D → M D} {ma mb : EM D} {a b : Expr} {pos : Pos} (ho : OpR X (compareOp op) r) (hm : OpM X.K r f) (ha : PE X a (rdE X.K ma)) (hb : PE X b (rdE X.K mb)) (hk : behindInMarks op b = false := by first | exact nobehind _ (by decide) (by decide) | rfl) :
    PE X (.Compare a [op] [b] pos) (rdE X.K (mBin f ma mb)) := PE.weak (pe_cmpR ho ha hb hk) fun _ _ _ h => rd_two hm h
def mUn (f : D → M D) (ma : EM D) : EM D := fun rho => bnd (ma rho) f
theorem rd_one {f : D → M D} {ma : EM D} {r : V → Hp → VK → Prop} (hm : UnM K r f) {sg : L2.St} {H : Hp} {Q : VK} (h : rdE K (mUn f ma) sg H Q) : tUn r (rdE K ma) sg H Q := by
  obtain ⟨ph, S, rho, d, S', s, en, e, post⟩ := h
  obtain ⟨a, S1, e1, e2⟩ := bnd_inv e
  exact ⟨ph, S, rho, a, S1, s, en, e1, fun ph1 H1 x E1 s1 r1 => hm ph1 S1 H1 x a d S' Q s1 r1 e2 (post.of E1)⟩
theorem e_un {op : UnaryOp} {r : V → Hp → VK → Prop} {f : D → M D} {ma : EM D} {a : Expr} {pos : Pos} (ho : UnR X (unaryOp op) r) (hm : UnM X.K r f) (ha : PE X a (rdE X.K ma)) : PE X (.UnaryOp op a pos) (rdE X.K (mUn f ma)) :=
  PE.weak (pe_un ho ha) fun _ _ _ h => rd_one hm h
/-- a <= b < c -/
def asB : D → M Bool := fun d S => match d with
  | .bl b => some (b, S)
  | _ => none
theorem asB_inv {d : D} {S S1 : Sto} {b : Bool} (h : asB d S = some (b, S1)) : d = .bl b ∧ S1 = S := by
  unfold asB at h
  split at h
  · cases h; exact ⟨rfl, rfl⟩
  · cases h
def mChain (f g : D → D → M D) (ma mb mc : EM D) : EM D := fun rho => bnd (ma rho) fun a => bnd (mb rho) fun b => bnd (f a b) fun z => bnd (asB z) fun k => if k then bnd (mc rho) fun c => g b c else ret (.bl false)
theorem rd_chain {f g : D → D → M D} {ma mb mc : EM D} {r r' : R2} (hf : OpM K r f) (hg : OpM K r' g) {sg : L2.St} {H : Hp} {Q : VK} (h : rdE K (mChain f g ma mb mc) sg H Q) : tChain r r' (rdE K ma) (rdE K mb) (rdE K mc) sg H Q := by
  obtain ⟨ph, S, rho, d, S', s, en, ea, post⟩ := h
  obtain ⟨a, S1, e1, eb⟩ := bnd_inv ea
  obtain ⟨b, S2, e2, ec⟩ := bnd_inv eb
  obtain ⟨z, S3, e3, ed⟩ := bnd_inv ec
  obtain ⟨k, S4, e4, ee⟩ := bnd_inv ed
  obtain ⟨rfl, rfl⟩ := asB_inv e4
  clear ea eb ec ed
  refine ⟨ph, S, rho, a, S1, s, en, e1, fun ph1 H1 x E1 s1 r1 => ⟨ph1, S1, rho, b, S2, s1, en.ext E1, e2, fun ph2 H2 y E2 s2 r2 => hf ph2 S2 H2 x y a b (.bl k) S4 _ s2 (r1.ext E2) r2 e3 fun ph3 H3 zz E3 s3 r3 => ?_⟩⟩
  rw [Rep] at r3
  refine ⟨k, r3, ?_⟩
  cases k with
  | true =>
    simp only [if_true] at ee ⊢
    obtain ⟨dc, S5, e5, e6⟩ := bnd_inv ee
    exact ⟨ph3, S4, rho, dc, S5, s3, ((en.ext E1).ext E2).ext E3, e5, fun ph4 H4 w E4 s4 r4 => hg ph4 S5 H4 y w b dc d S' Q s4 ((r2.ext E3).ext E4) r4 e6 (post.of (((E1.trans E2).trans E3).trans E4))⟩
  | false =>
    simp only [Bool.false_eq_true, if_false] at ee ⊢
    cases ee
    exact (post.of ((E1.trans E2).trans E3)).now s3 (by rw [Rep])
theorem e_chain {op op' : CmpOp} {r r' : R2} {f g : D → D → M D} {ma mb mc : EM D} {a b c : Expr} {pos : Pos} (ho : OpR X (compareOp op) r) (hm : OpM X.K r f) (ho' : OpR X (compareOp op') r') (hm' : OpM X.K r' g) (ha : PE X a (rdE X.K ma)) (hb : PE X b (rdE X.K mb)) (hc : PE X c (rdE X.K mc))
    (hk : lastMarks [op, op'] [b, c] = false := by with_unfolding_all rfl) : PE X (.Compare a [op, op'] [b, c] pos) (rdE X.K (mChain f g ma mb mc)) :=
  PE.weak (pe_chain ho ho' ha hb hc hk) fun _ _ _ h => rd_chain hm hm' h

/-! ### is None -/
def isNonD : D → Bool
  | .non => true
  | _ => false
theorem isNon_of {ph : Ph} {S : Sto} {H : Hp} {d : D} {x : V} (r : Rep K ph S H d x) : decide (x = V.non) = isNonD d := by
  cases d with
  | non => rw [Rep] at r; subst r; rfl
  | bl b => rw [Rep] at r; subst r; rfl
  | int b => rw [Rep] at r; subst r; rfl
  | str b => rw [Rep] at r; subst r; rfl
  | tup ds => rw [Rep] at r; obtain ⟨a, xs, rfl, _⟩ := r; rfl
  | lst ds => rw [Rep] at r; obtain ⟨a, xs, rfl, _⟩ := r; rfl
  | rol ds => rw [Rep] at r; obtain ⟨a, xs, rfl, _⟩ := r; rfl
  | dic ks ds => rw [Rep] at r; obtain ⟨a, xs, rfl, _⟩ := r; rfl
  | ref n => rw [Rep] at r; obtain ⟨_, rfl⟩ := r; rfl
def mIsN (ma : EM D) : EM D := fun rho => bnd (ma rho) fun a => ret (.bl (isNonD a))
def mNotN (ma : EM D) : EM D := fun rho => bnd (ma rho) fun a => ret (.bl (!isNonD a))
theorem e_isN {ma : EM D} {a : Expr} {j pos' pos} (ha : PE X a (rdE X.K ma)) : PE X (.Compare a [.Is] [.Constant .none j pos'] pos) (rdE X.K (mIsN ma)) := by
  refine PE.weak (pe_cmp (pc_isN ha)) fun sg H Q h => ?_
  obtain ⟨ph, S, rho, d, S', s, en, e, post⟩ := h
  obtain ⟨a, S1, e1, e2⟩ := bnd_inv e
  cases e2
  exact ⟨ph, S, rho, a, _, s, en, e1, fun ph1 H1 x E1 s1 r1 => (post.of E1).now s1 (by rw [Rep, isNon_of r1])⟩
theorem e_notN {ma : EM D} {a : Expr} {j pos' pos} (ha : PE X a (rdE X.K ma)) : PE X (.Compare a [.IsNot] [.Constant .none j pos'] pos) (rdE X.K (mNotN ma)) := by
  refine PE.weak (pe_cmp (pc_notN ha)) fun sg H Q h => ?_
  obtain ⟨ph, S, rho, d, S', s, en, e, post⟩ := h
  obtain ⟨a, S1, e1, e2⟩ := bnd_inv e
  cases e2
  exact ⟨ph, S, rho, a, _, s, en, e1, fun ph1 H1 x E1 s1 r1 => (post.of E1).now s1 (by rw [Rep, isNon_of r1])⟩

/-! ### tests -/
def mB (ma : EM D) : EM Bool := fun rho => bnd (ma rho) asB
theorem rd_B {ma : EM D} {sg : L2.St} {H : Hp} {Q : Bool → Hp → Prop} (h : rdT K (mB ma) sg H Q) : tTest (rdE K ma) sg H Q := by
  obtain ⟨ph, S, rho, b, S', s, en, e, post⟩ := h
  obtain ⟨a, S1, e1, e2⟩ := bnd_inv e
  obtain ⟨rfl, rfl⟩ := asB_inv e2
  exact ⟨ph, S, rho, .bl b, _, s, en, e1, fun ph1 H1 x E1 s1 r1 => ⟨b, by rw [Rep] at r1; exact r1, post ph1 H1 E1 s1⟩⟩
theorem t_cmp {op : CmpOp} {r : R2} {f : D → D → M D} {ma mb : EM D} {a b : Expr} {pos : Pos} (ho : OpR X (compareOp op) r) (hm : OpM X.K r f) (ha : PE X a (rdE X.K ma)) (hb : PE X b (rdE X.K mb)) (hk : behindInMarks op b = false := by first | exact nobehind _ (by decide) (by decide) | rfl) :
    PT X (.Compare a [op] [b] pos) (rdT X.K (mB (mBin f ma mb))) := PT.weak (pt_cmpR ho ha hb hk) fun sg H Q h => by
  have h1 := rd_B h
  obtain ⟨ph, S, rho, d, S', s, en, e, post⟩ := h1
  exact rd_two hm ⟨ph, S, rho, d, S', s, en, e, post⟩
theorem t_chain {op op' : CmpOp} {r r' : R2} {f g : D → D → M D} {ma mb mc : EM D} {a b c : Expr} {pos : Pos} (ho : OpR X (compareOp op) r) (hm : OpM X.K r f) (ho' : OpR X (compareOp op') r') (hm' : OpM X.K r' g) (ha : PE X a (rdE X.K ma)) (hb : PE X b (rdE X.K mb)) (hc : PE X c (rdE X.K mc))
    (hk : lastMarks [op, op'] [b, c] = false := by with_unfolding_all rfl) : PT X (.Compare a [op, op'] [b, c] pos) (rdT X.K (mB (mChain f g ma mb mc))) :=
  PT.weak (pt_chain ho ho' ha hb hc hk) fun sg H Q h => by
    have h1 := rd_B h
    obtain ⟨ph, S, rho, d, S', s, en, e, post⟩ := h1
    exact rd_chain hm hm' ⟨ph, S, rho, d, S', s, en, e, post⟩
theorem t_isN {ma : EM D} {a : Expr} {j pos' pos} (ha : PE X a (rdE X.K ma)) : PT X (.Compare a [.Is] [.Constant .none j pos'] pos) (rdT X.K (mB (mIsN ma))) := by
  refine PT.weak (pt_cmp (pc_isN ha)) fun sg H Q h => ?_
  obtain ⟨ph, S, rho, d, S', s, en, e, post⟩ := rd_B h
  obtain ⟨a, S1, e1, e2⟩ := bnd_inv e
  cases e2
  exact ⟨ph, S, rho, a, _, s, en, e1, fun ph1 H1 x E1 s1 r1 => (post.of E1).now s1 (by rw [Rep, isNon_of r1])⟩
theorem t_notN {ma : EM D} {a : Expr} {j pos' pos} (ha : PE X a (rdE X.K ma)) : PT X (.Compare a [.IsNot] [.Constant .none j pos'] pos) (rdT X.K (mB (mNotN ma))) := by
  refine PT.weak (pt_cmp (pc_notN ha)) fun sg H Q h => ?_
  obtain ⟨ph, S, rho, d, S', s, en, e, post⟩ := rd_B h
  obtain ⟨a, S1, e1, e2⟩ := bnd_inv e
  cases e2
  exact ⟨ph, S, rho, a, _, s, en, e1, fun ph1 H1 x E1 s1 r1 => (post.of E1).now s1 (by rw [Rep, isNon_of r1])⟩
/-- truth -/
def lim : Nat := sizeLine
def truM : D → M Bool := fun d S => match d with
  | .non => some (false, S)
  | .bl b => some (b, S)
  | .int i => some (i != 0, S)
  | .str y => if y.length ≤ lim then some ((y.length : Int) != 0, S) else none
  | .tup ds => some (!ds.isEmpty, S)
  | .lst ds => some (!ds.isEmpty, S)
  | .rol ds => some (!ds.isEmpty, S)
  | .dic ks _ => some (!ks.isEmpty, S)
  | .ref n => match S.ob n with
    | some (.lst ds) => some (!ds.isEmpty, S)
    | some (.dic ks _) => some (!ks.isEmpty, S)
    | _ => none
theorem isEmpty_rep {ph : Ph} {S : Sto} {H : Hp} {ds : List D} {xs : List V} (h : RepL K ph S H ds xs) : (!xs.isEmpty) = !ds.isEmpty := by
  cases ds with
  | nil => rw [h.nil_inv]; rfl
  | cons d ds => obtain ⟨x, r, rfl, _⟩ := h.cons_inv; rfl
theorem isEmpty_map {α β : Type} (f : α → β) (l : List α) : (l.map f).isEmpty = l.isEmpty := by cases l <;> rfl
theorem tru_of {ph : Ph} {S S' : Sto} {H : Hp} {d : D} {x : V} {b : Bool} (s : Sim K ph S H) (r : Rep K ph S H d x) (h : truM d S = some (b, S')) : TruV K x H b ∧ S' = S := by
  unfold truM at h
  cases d with
  | non => rw [Rep] at r; subst r; cases h; exact ⟨rfl, rfl⟩
  | bl c => rw [Rep] at r; subst r; cases h; exact ⟨rfl, rfl⟩
  | int i => rw [Rep] at r; subst r; cases h; exact ⟨rfl, rfl⟩
  | str y =>
    rw [Rep] at r; subst r
    simp only at h
    split at h
    · cases h; exact ⟨⟨by assumption, rfl⟩, rfl⟩
    · cases h
  | tup ds => rw [Rep] at r; obtain ⟨a, xs, rfl, h1, h2⟩ := r; cases h; exact ⟨.inr (.inl ⟨xs, h1.sq, (isEmpty_rep h2).symm⟩), rfl⟩
  | lst ds => rw [Rep] at r; obtain ⟨a, xs, rfl, h1, h2⟩ := r; cases h; exact ⟨.inl ⟨xs, .inl (.inl h1.1), (isEmpty_rep h2).symm⟩, rfl⟩
  | rol ds => rw [Rep] at r; obtain ⟨a, xs, rfl, h1, h2⟩ := r; cases h; exact ⟨.inl ⟨xs, h1.sq, (isEmpty_rep h2).symm⟩, rfl⟩
  | dic ks ds =>
    rw [Rep] at r; obtain ⟨a, kvs, rfl, h1, h2, h3⟩ := r; cases h
    refine ⟨.inr (.inr ⟨kvs, h1.1, ?_⟩), rfl⟩
    rw [← h2, isEmpty_map]
  | ref n =>
    rw [Rep] at r; obtain ⟨_, rfl⟩ := r
    simp only at h
    split at h
    · rename_i ds e
      obtain ⟨xs, h1, h2⟩ := s.ok n _ e
      cases h
      exact ⟨.inl ⟨xs, .inl (.inl h1), (isEmpty_rep h2).symm⟩, rfl⟩
    · rename_i ks ds e
      obtain ⟨kvs, h1, h2, h3⟩ := s.ok n _ e
      cases h
      refine ⟨.inr (.inr ⟨kvs, h1, ?_⟩), rfl⟩
      rw [← h2, isEmpty_map]
    · cases h
def mTru (ma : EM D) : EM Bool := fun rho => bnd (ma rho) truM
theorem t_tru {ma : EM D} {a : Expr} (ha : PE X a (rdE X.K ma)) (he : ∀ whole, isTrue a X.env whole = (do let v ← whole; standAt a.pos; holding [v] (truthy v)) := by intro _; rfl) : PT X a (rdT X.K (mTru ma)) := by
  refine PT.weak (pt_truth ha he) fun sg H Q h => ?_
  obtain ⟨ph, S, rho, b, S', s, en, e, post⟩ := h
  obtain ⟨a, S1, e1, e2⟩ := bnd_inv e
  refine ⟨ph, S, rho, a, S1, s, en, e1, fun ph1 H1 x E1 s1 r1 => ?_⟩
  obtain ⟨h1, rfl⟩ := tru_of s1 r1 e2
  exact ⟨b, h1, post ph1 H1 E1 s1⟩
def mAnd (ma mb : EM Bool) : EM Bool := fun rho => bnd (ma rho) fun c => if c then mb rho else ret false
def mOr (ma mb : EM Bool) : EM Bool := fun rho => bnd (ma rho) fun c => if c then ret true else mb rho
def mNot (ma : EM Bool) : EM Bool := fun rho => bnd (ma rho) fun c => ret (!c)
theorem rd_and {ma mb : EM Bool} {sg : L2.St} {H : Hp} {Q : Bool → Hp → Prop} (h : rdT K (mAnd ma mb) sg H Q) : tAnd (rdT K ma) (rdT K mb) sg H Q := by
  obtain ⟨ph, S, rho, b, S', s, en, e, post⟩ := h
  obtain ⟨c, S1, e1, e2⟩ := bnd_inv e
  refine ⟨ph, S, rho, c, S1, s, en, e1, fun ph1 H1 E1 s1 => ?_⟩
  cases c with
  | true =>
    simp only [if_true] at e2 ⊢
    exact ⟨ph1, S1, rho, b, S', s1, en.ext E1, e2, fun ph2 H2 E2 s2 => post ph2 H2 (E1.trans E2) s2⟩
  | false =>
    simp only [Bool.false_eq_true, if_false] at e2 ⊢
    cases e2
    exact post ph1 H1 E1 s1
theorem rd_or {ma mb : EM Bool} {sg : L2.St} {H : Hp} {Q : Bool → Hp → Prop} (h : rdT K (mOr ma mb) sg H Q) : tOr (rdT K ma) (rdT K mb) sg H Q := by
  obtain ⟨ph, S, rho, b, S', s, en, e, post⟩ := h
  obtain ⟨c, S1, e1, e2⟩ := bnd_inv e
  refine ⟨ph, S, rho, c, S1, s, en, e1, fun ph1 H1 E1 s1 => ?_⟩
  cases c with
  | false =>
    simp only [Bool.false_eq_true, if_false] at e2 ⊢
    exact ⟨ph1, S1, rho, b, S', s1, en.ext E1, e2, fun ph2 H2 E2 s2 => post ph2 H2 (E1.trans E2) s2⟩
  | true =>
    simp only [if_true] at e2 ⊢
    cases e2
    exact post ph1 H1 E1 s1
variable {a b c e : Expr} {rest : List Expr} {pos : Pos} {ma mb mc : EM D} {na nb : EM Bool}
theorem w_and1 (ha : PT X a (rdT X.K na)) : PW X (.BoolOp .And [a] pos) (rdT X.K na) := pw_and1 ha
theorem w_or1 (ha : PT X a (rdT X.K na)) : PW X (.BoolOp .Or [a] pos) (rdT X.K na) := pw_or1 ha
theorem w_and (ha : PT X a (rdT X.K na)) (hb : PW X (.BoolOp .And (b :: rest) pos) (rdT X.K nb)) : PW X (.BoolOp .And (a :: b :: rest) pos) (rdT X.K (mAnd na nb)) := PW.weak (pw_and ha hb) fun _ _ _ h => rd_and h
theorem w_or (ha : PT X a (rdT X.K na)) (hb : PW X (.BoolOp .Or (b :: rest) pos) (rdT X.K nb)) : PW X (.BoolOp .Or (a :: b :: rest) pos) (rdT X.K (mOr na nb)) := PW.weak (pw_or ha hb) fun _ _ _ h => rd_or h
theorem t_w (h : PW X e (rdT X.K na)) : PT X e (rdT X.K na) := h.pt
theorem t_not (ha : PT X a (rdT X.K na)) : PT X (.UnaryOp .Not a pos) (rdT X.K (mNot na)) := PT.weak (pt_not ha) fun sg H Q h => by
  obtain ⟨ph, S, rho, b, S', s, en, e, post⟩ := h
  obtain ⟨c, S1, e1, e2⟩ := bnd_inv e
  cases e2
  exact ⟨ph, S, rho, c, _, s, en, e1, fun ph1 H1 E1 s1 => post ph1 H1 E1 s1⟩

/-! ### .. as values -/
def mAndV (ma mb : EM D) : EM D := fun rho => bnd (ma rho) fun a => bnd (truM a) fun k => if k then mb rho else ret a
def mOrV (ma mb : EM D) : EM D := fun rho => bnd (ma rho) fun a => bnd (truM a) fun k => if k then ret a else mb rho
def mNotV (ma : EM D) : EM D := fun rho => bnd (ma rho) fun a => bnd (truM a) fun k => ret (.bl (!k))
theorem e_one {op} (h : PE X a (rdE X.K ma)) : PE X (.BoolOp op [a] pos) (rdE X.K ma) := pe_one h
theorem e_and (ha : PE X a (rdE X.K ma)) (hb : PE X (.BoolOp .And (b :: rest) pos) (rdE X.K mb)) : PE X (.BoolOp .And (a :: b :: rest) pos) (rdE X.K (mAndV ma mb)) := PE.weak (pe_andT ha hb) fun sg H Q h => by
  obtain ⟨ph, S, rho, d, S', s, en, e, post⟩ := h
  obtain ⟨a, S1, e1, e2⟩ := bnd_inv e
  obtain ⟨k, S2, e3, e4⟩ := bnd_inv e2
  refine ⟨ph, S, rho, a, S1, s, en, e1, fun ph1 H1 x E1 s1 r1 => ?_⟩
  obtain ⟨h1, rfl⟩ := tru_of s1 r1 e3
  refine ⟨k, h1, ?_⟩
  cases k with
  | true =>
    simp only [if_true] at e4 ⊢
    exact ⟨ph1, _, rho, d, S', s1, en.ext E1, e4, post.of E1⟩
  | false =>
    simp only [Bool.false_eq_true, if_false] at e4 ⊢
    cases e4
    exact (post.of E1).now s1 r1
theorem e_or (ha : PE X a (rdE X.K ma)) (hb : PE X (.BoolOp .Or (b :: rest) pos) (rdE X.K mb)) : PE X (.BoolOp .Or (a :: b :: rest) pos) (rdE X.K (mOrV ma mb)) := PE.weak (pe_orT ha hb) fun sg H Q h => by
  obtain ⟨ph, S, rho, d, S', s, en, e, post⟩ := h
  obtain ⟨a, S1, e1, e2⟩ := bnd_inv e
  obtain ⟨k, S2, e3, e4⟩ := bnd_inv e2
  refine ⟨ph, S, rho, a, S1, s, en, e1, fun ph1 H1 x E1 s1 r1 => ?_⟩
  obtain ⟨h1, rfl⟩ := tru_of s1 r1 e3
  refine ⟨k, h1, ?_⟩
  cases k with
  | false =>
    simp only [Bool.false_eq_true, if_false] at e4 ⊢
    exact ⟨ph1, _, rho, d, S', s1, en.ext E1, e4, post.of E1⟩
  | true =>
    simp only [if_true] at e4 ⊢
    cases e4
    exact (post.of E1).now s1 r1
theorem e_not (ha : PE X a (rdE X.K ma)) : PE X (.UnaryOp .Not a pos) (rdE X.K (mNotV ma)) := PE.weak (pe_notT ha) fun sg H Q h => by
  obtain ⟨ph, S, rho, d, S', s, en, e, post⟩ := h
  obtain ⟨a, S1, e1, e2⟩ := bnd_inv e
  obtain ⟨k, S2, e3, e4⟩ := bnd_inv e2
  cases e4
  refine ⟨ph, S, rho, a, S1, s, en, e1, fun ph1 H1 x E1 s1 r1 => ?_⟩
  obtain ⟨h1, rfl⟩ := tru_of s1 r1 e3
  exact ⟨k, h1, (post.of E1).now s1 (by rw [Rep])⟩
def mIf (mt : EM Bool) (ma mb : EM D) : EM D := fun rho => bnd (mt rho) fun k => if k then ma rho else mb rho
theorem e_if {mt : EM Bool} (hc : PT X c (rdT X.K mt)) (ha : PE X a (rdE X.K ma)) (hb : PE X b (rdE X.K mb)) : PE X (.IfExp c a b pos) (rdE X.K (mIf mt ma mb)) := PE.weak (pe_ifExp hc ha hb) fun sg H Q h => by
  obtain ⟨ph, S, rho, d, S', s, en, e, post⟩ := h
  obtain ⟨k, S1, e1, e2⟩ := bnd_inv e
  refine ⟨ph, S, rho, k, S1, s, en, e1, fun ph1 H1 E1 s1 => ?_⟩
  cases k with
  | true =>
    simp only [if_true] at e2 ⊢
    exact ⟨ph1, S1, rho, d, S', s1, en.ext E1, e2, post.of E1⟩
  | false =>
    simp only [Bool.false_eq_true, if_false] at e2 ⊢
    exact ⟨ph1, S1, rho, d, S', s1, en.ext E1, e2, post.of E1⟩

/-! ### argument lists, displays -/
variable {es : List Expr} {mas : EM (List D)} {x1 : Nat} {p : Pos}
def mNil : EM (List D) := fun _ => ret []
def mCons (ma : EM D) (mas : EM (List D)) : EM (List D) := fun rho => bnd (ma rho) fun a => bnd (mas rho) fun as => ret (a :: as)
theorem a_nil : PA X [] (rdA X.K mNil) := PA.weak pa_nil fun sg H Q h => by
  obtain ⟨ph, S, rho, d, S', s, en, e, post⟩ := h
  cases e
  exact post ph H [] Ext.refl s .nil
theorem a_cons (ha : PE X e (rdE X.K ma)) (hr : PA X es (rdA X.K mas)) (hs : starEach (e :: es) X.env = (false, eval e X.env) :: starEach es X.env := by rfl) : PA X (e :: es) (rdA X.K (mCons ma mas)) := PA.weak (pa_cons ha hr hs) fun sg H Q h => by
  obtain ⟨ph, S, rho, d, S', s, en, e, post⟩ := h
  obtain ⟨a, S1, e1, e2⟩ := bnd_inv e
  obtain ⟨as, S2, e3, e4⟩ := bnd_inv e2
  cases e4
  exact ⟨ph, S, rho, a, S1, s, en, e1, fun ph1 H1 x E1 s1 r1 => ⟨ph1, S1, rho, as, _, s1, en.ext E1, e3, fun ph2 H2 xs E2 s2 r2 => post ph2 H2 (x :: xs) (E1.trans E2) s2 (.cons (r1.ext E2) r2)⟩⟩
/-- the items of a list or a tuple, as they stand -/
def items : D → Sto → Option (List D)
  | .tup ds, _ => some ds
  | .lst ds, _ => some ds
  | .rol ds, _ => some ds
  | .ref n, S => match S.ob n with
    | some (.lst ds) => some ds
    | _ => none
  | _, _ => none
theorem items_of {ph : Ph} {S : Sto} {H : Hp} {d : D} {x : V} {ds : List D} (s : Sim K ph S H) (r : Rep K ph S H d x) (h : items d S = some ds) : ∃ a xs, x = .ref a ∧ (SqT K H a xs ∨ SqL K H a xs) ∧ RepL K ph S H ds xs := by
  cases d with
  | tup es => rw [Rep] at r; obtain ⟨a, xs, rfl, h1, h2⟩ := r; cases h; exact ⟨a, xs, rfl, .inl h1.sq, h2⟩
  | lst es => rw [Rep] at r; obtain ⟨a, xs, rfl, h1, h2⟩ := r; cases h; exact ⟨a, xs, rfl, .inr (.inl (.inl h1.1)), h2⟩
  | rol es => rw [Rep] at r; obtain ⟨a, xs, rfl, h1, h2⟩ := r; cases h; exact ⟨a, xs, rfl, .inr h1.sq, h2⟩
  | ref n =>
    rw [Rep] at r; obtain ⟨_, rfl⟩ := r
    unfold items at h
    simp only at h
    split at h
    · rename_i es e
      obtain ⟨xs, h1, h2⟩ := s.ok n _ e
      cases h
      exact ⟨_, xs, rfl, .inr (.inl (.inl h1)), h2⟩
    · cases h
  | non => cases h
  | bl _ => cases h
  | int _ => cases h
  | str _ => cases h
  | dic _ _ => cases h
def mStar (ma : EM D) (mas : EM (List D)) : EM (List D) := fun rho => bnd (ma rho) fun a S => match items a S with
  | some ds => bnd (mas rho) (fun as => ret (ds ++ as)) S
  | none => none
/-- [*a, ..]: the items stand for themselves while the rest is made -/
theorem a_star (ha : PE X e (rdE X.K ma)) (hr : PA X es (rdA X.K mas)) (hs : starEach (.Starred e p :: es) X.env = (true, eval e X.env) :: starEach es X.env := by rfl) : PA X (.Starred e p :: es) (rdA X.K (mStar ma mas)) := PA.weak (StX.pa_star ha hr hs) fun sg H Q h => by
  obtain ⟨ph, S, rho, d, S', s, en, e, post⟩ := h
  obtain ⟨a, S1, e1, e2⟩ := bnd_inv e
  split at e2
  · rename_i ds hd
    obtain ⟨as, S2, e3, e4⟩ := bnd_inv e2
    cases e4
    refine ⟨ph, S, rho, a, S1, s, en, e1, fun ph1 H1 x E1 s1 r1 => ?_⟩
    obtain ⟨q, xs, rfl, h1, h2⟩ := items_of s1 r1 hd
    exact ⟨q, xs, rfl, h1, ph1, S1, rho, as, _, s1, en.ext E1, e3, fun ph2 H2 ys E2 s2 r2 => post ph2 H2 (xs ++ ys) (E1.trans E2) s2 ((h2.ext E2).app r2)⟩
  · cases e2
def small (ds : List D) : Bool := decide (ds.length ≤ lim)
def mkTup (ds : List D) : M D := fun S => if ds.length ≤ lim then some (.tup ds, S) else none
def mkLst (ds : List D) : M D := fun S => if ds.length ≤ lim then some (.lst ds, S) else none
def mkNew (ds : List D) : M D := fun S => if ds.length ≤ lim then some (.ref S.nx, S.new (.lst ds)) else none
def mTup (mas : EM (List D)) : EM D := fun rho => bnd (mas rho) mkTup
def mLst (mas : EM (List D)) : EM D := fun rho => bnd (mas rho) mkLst
def mNew (mas : EM (List D)) : EM D := fun rho => bnd (mas rho) mkNew
/-- the three ways in which a new sequence comes -/
theorem new_tup {ph : Ph} {S : Sto} {H : Hp} {ds : List D} {xs : List V} {Q : VK} (s : Sim K ph S H) (r : RepL K ph S H ds xs) (post : PostE K ph S H Q (.tup ds) S) : newT H xs Q := fun p o hp h1 h2 =>
  post ph _ _ (Ext.tree s hp) (s.tree hp) (by
    rw [Rep]
    exact ⟨p, xs, rfl, TAt.new h1 h2 (s.fresh hp), r.ext (Ext.tree s hp)⟩)
theorem new_lst {ph : Ph} {S : Sto} {H : Hp} {ds : List D} {xs : List V} {Q : VK} {p : Addr} (s : Sim K ph S H) (r : RepL K ph S H ds xs) (post : PostE K ph S H Q (.lst ds) S) (hp : H p = none) : Q (.ref p) (upd H p (.lst xs)) :=
  post ph _ _ (Ext.tree s hp) (s.tree hp) (by
    rw [Rep]
    exact ⟨p, xs, rfl, ⟨upd_same, s.fresh hp⟩, r.ext (Ext.tree s hp)⟩)
theorem new_ref {ph : Ph} {S : Sto} {H : Hp} {ds : List D} {xs : List V} {Q : VK} {p : Addr} (s : Sim K ph S H) (r : RepL K ph S H ds xs) (post : PostE K ph S H Q (.ref S.nx) (S.new (.lst ds))) (hp : H p = none) : Q (.ref p) (upd H p (.lst xs)) := by
  have E : Ext ph S H (phN ph S p) (S.new (.lst ds)) (upd H p (.lst xs)) := Ext.newO s hp
  refine post (phN ph S p) _ _ E (s.newO hp ⟨xs, upd_same, r.ext E⟩) ?_
  rw [Rep]
  exact ⟨Nat.lt_succ_self _, by rw [phN_new]⟩
theorem e_tup (h : PA X es (rdA X.K mas)) : PE X (.Tuple es x1 pos) (rdE X.K (mTup mas)) := PE.weak (pe_tupF h) fun sg H Q h => by
  obtain ⟨ph, S, rho, d, S', s, en, e, post⟩ := h
  obtain ⟨ds, S1, e1, e2⟩ := bnd_inv e
  unfold mkTup at e2
  split at e2
  · rename_i hl
    cases e2
    exact ⟨ph, S, rho, ds, _, s, en, e1, fun ph1 H1 xs E1 s1 r1 => ⟨by rw [r1.len]; exact hl, new_tup s1 r1 (post.of E1)⟩⟩
  · cases e2
theorem e_lst (h : PA X es (rdA X.K mas)) : PE X (.List es pos) (rdE X.K (mLst mas)) := PE.weak (pe_lst h) fun sg H Q h => by
  obtain ⟨ph, S, rho, d, S', s, en, e, post⟩ := h
  obtain ⟨ds, S1, e1, e2⟩ := bnd_inv e
  unfold mkLst at e2
  split at e2
  · rename_i hl
    cases e2
    exact ⟨ph, S, rho, ds, _, s, en, e1, fun ph1 H1 xs E1 s1 r1 => ⟨by rw [r1.len]; exact hl, fun p hp => new_lst s1 r1 (post.of E1) hp⟩⟩
  · cases e2
theorem e_new (h : PA X es (rdA X.K mas)) : PE X (.List es pos) (rdE X.K (mNew mas)) := PE.weak (pe_lst h) fun sg H Q h => by
  obtain ⟨ph, S, rho, d, S', s, en, e, post⟩ := h
  obtain ⟨ds, S1, e1, e2⟩ := bnd_inv e
  unfold mkNew at e2
  split at e2
  · rename_i hl
    cases e2
    exact ⟨ph, S, rho, ds, _, s, en, e1, fun ph1 H1 xs E1 s1 r1 => ⟨by rw [r1.len]; exact hl, fun p hp => new_ref s1 r1 (post.of E1) hp⟩⟩
  · cases e2
/-- a list that is changed no more -/
def mFrz (ma : EM D) : EM D := fun rho => bnd (ma rho) fun a S => match a with
  | .ref n => match S.ob n with
    | some (.lst ds) => some (.lst ds, S.del n)
    | some (.dic ks ds) => some (.dic ks ds, S.del n)
    | _ => none
  | d => some (d, S)
theorem frz_of {ph : Ph} {S : Sto} {H : Hp} {n : Nat} {o : Ob} (s : Sim K ph S H) (h : S.ob n = some o) (ht : ∀ P q, o ≠ .tab P q) :
    Rep K ph (S.del n) H (match o with | .lst ds => .lst ds | .dic ks ds => .dic ks ds | .tab _ _ => .non) (.ref (ph.f n)) := by
  have e := s.ok n o h
  have no := not_own_del s (n := n) (by rw [h]; rfl)
  cases o with
  | lst ds =>
    obtain ⟨xs, h1, h2⟩ := e
    rw [Rep]
    exact ⟨_, xs, rfl, ⟨h1, no⟩, h2.ext Ext.delO⟩
  | dic ks ds =>
    obtain ⟨kvs, h1, h2, h3⟩ := e
    rw [Rep]
    exact ⟨_, kvs, rfl, ⟨h1, no⟩, h2, h3.ext Ext.delO⟩
  | tab P q => exact absurd rfl (ht P q)
theorem e_frz (ha : PE X a (rdE X.K ma)) : PE X a (rdE X.K (mFrz ma)) := PE.weak ha fun sg H Q h => by
  obtain ⟨ph, S, rho, d, S', s, en, e, post⟩ := h
  obtain ⟨a, S1, e1, e2⟩ := bnd_inv e
  refine ⟨ph, S, rho, a, S1, s, en, e1, fun ph1 H1 x E1 s1 r1 => ?_⟩
  split at e2
  · rename_i n
    rw [Rep] at r1
    obtain ⟨_, rfl⟩ := r1
    split at e2
    · rename_i ds hd
      cases e2
      exact (post.of (E1.trans Ext.delO)).now s1.delO (frz_of s1 hd fun _ _ z => nomatch z)
    · rename_i ks ds hd
      cases e2
      exact (post.of (E1.trans Ext.delO)).now s1.delO (frz_of s1 hd fun _ _ z => nomatch z)
    · cases e2
  · cases e2
    exact (post.of E1).now s1 r1
end
end Mn

set_option maxRecDepth 100000
set_option maxHeartbeats 1000000
/-! Mn: operators and built-ins over data. -/
namespace Mn
open PySem PySem.Spec PyProof.Rows L2

/-! ### data without objects that change, as the library's data -/
mutual
def pdT : D → Option PyData
  | .non => some .none
  | .bl b => some (.bool b)
  | .int i => some (.int i)
  | .str x => if PyData.strOk x then some (.str x) else none
  | .tup ds => (pdL ds).map .tuple
  | .lst ds => (pdL ds).map .list
  | .rol ds => (pdL ds).map .list
  | .dic _ _ => none
  | .ref _ => none
def pdL : List D → Option (List PyData)
  | [] => some []
  | d :: ds => (pdT d).bind fun p => (pdL ds).map (p :: ·)
end
theorem pdL_cons {d : D} {ds : List D} {ps : List PyData} (h : pdL (d :: ds) = some ps) : ∃ p qs, pdT d = some p ∧ pdL ds = some qs ∧ ps = p :: qs := by
  rw [pdL] at h
  cases e : pdT d with
  | none => rw [e] at h; cases h
  | some p =>
    rw [e] at h
    cases e2 : pdL ds with
    | none => rw [e2] at h; cases h
    | some qs => rw [e2] at h; cases h; exact ⟨p, qs, rfl, rfl, rfl⟩
theorem pdL_len : ∀ {ds : List D} {ps : List PyData}, pdL ds = some ps → ps.length = ds.length
  | [], ps, h => by rw [pdL] at h; cases h; rfl
  | d :: ds, ps, h => by
    obtain ⟨p, qs, _, h2, rfl⟩ := pdL_cons h
    rw [List.length_cons, List.length_cons, pdL_len h2]
section
variable {K : PySem.W.Frag} {ph : Ph} {S : Sto} {H : Hp}
mutual
theorem dp_of : ∀ (d : D) (v : V) (p : PyData), Rep K ph S H d v → pdT d = some p → Dp K H v p
  | .non, v, p, r, h => by rw [Rep] at r; rw [pdT] at h; cases h; subst r; exact .non
  | .bl b, v, p, r, h => by rw [Rep] at r; rw [pdT] at h; cases h; subst r; exact .bl b
  | .int b, v, p, r, h => by rw [Rep] at r; rw [pdT] at h; cases h; subst r; exact .int b
  | .str b, v, p, r, h => by
    rw [Rep] at r; rw [pdT] at h; subst r
    split at h
    · cases h; exact .str b
    · cases h
  | .tup ds, v, p, r, h => by
    rw [Rep] at r; rw [pdT] at h
    obtain ⟨a, xs, rfl, h1, h2⟩ := r
    cases e : pdL ds with
    | none => rw [e] at h; cases h
    | some ps => rw [e] at h; cases h; exact .tup h1.sq (dps_of ds xs ps h2 e)
  | .lst ds, v, p, r, h => by
    rw [Rep] at r; rw [pdT] at h
    obtain ⟨a, xs, rfl, h1, h2⟩ := r
    cases e : pdL ds with
    | none => rw [e] at h; cases h
    | some ps => rw [e] at h; cases h; exact .lst (.inl (.inl h1.1)) (dps_of ds xs ps h2 e)
  | .rol ds, v, p, r, h => by
    rw [Rep] at r; rw [pdT] at h
    obtain ⟨a, xs, rfl, h1, h2⟩ := r
    cases e : pdL ds with
    | none => rw [e] at h; cases h
    | some ps => rw [e] at h; cases h; exact .lst h1.sq (dps_of ds xs ps h2 e)
  | .dic _ _, v, p, r, h => by rw [pdT] at h; cases h
  | .ref _, v, p, r, h => by rw [pdT] at h; cases h
theorem dps_of : ∀ (ds : List D) (vs : List V) (ps : List PyData), RepL K ph S H ds vs → pdL ds = some ps → DpAll K H vs ps
  | [], vs, ps, r, h => by rw [r.nil_inv]; rw [pdL] at h; cases h; exact .nil
  | d :: ds, vs, ps, r, h => by
    obtain ⟨x, xs, rfl, r1, r2⟩ := r.cons_inv
    obtain ⟨p, qs, h1, h2, rfl⟩ := pdL_cons h
    exact .cons (dp_of d x p r1 h1) (dps_of ds xs qs r2 h2)
end
end
mutual
theorem pdT_lay : ∀ (d : D) (p : PyData), pdT d = some p → p.canLay0 = true
  | .non, p, h => by rw [pdT] at h; cases h; rw [PyData.canLay0]
  | .bl b, p, h => by rw [pdT] at h; cases h; rw [PyData.canLay0]
  | .int b, p, h => by rw [pdT] at h; cases h; rw [PyData.canLay0]
  | .str b, p, h => by
    rw [pdT] at h
    split at h
    · cases h; rw [PyData.canLay0]; assumption
    · cases h
  | .tup ds, p, h => by
    rw [pdT] at h
    cases e : pdL ds with
    | none => rw [e] at h; cases h
    | some ps => rw [e] at h; cases h; rw [PyData.canLay0]; exact pdL_lay ds ps e
  | .lst ds, p, h => by
    rw [pdT] at h
    cases e : pdL ds with
    | none => rw [e] at h; cases h
    | some ps => rw [e] at h; cases h; rw [PyData.canLay0]; exact pdL_lay ds ps e
  | .rol ds, p, h => by
    rw [pdT] at h
    cases e : pdL ds with
    | none => rw [e] at h; cases h
    | some ps => rw [e] at h; cases h; rw [PyData.canLay0]; exact pdL_lay ds ps e
  | .dic _ _, p, h => by rw [pdT] at h; cases h
  | .ref _, p, h => by rw [pdT] at h; cases h
theorem pdL_lay : ∀ (ds : List D) (ps : List PyData), pdL ds = some ps → PyData.canLayAll0 ps = true
  | [], ps, h => by rw [pdL] at h; cases h; rw [PyData.canLayAll0]
  | d :: ds, ps, h => by
    obtain ⟨p, qs, h1, h2, rfl⟩ := pdL_cons h
    rw [PyData.canLayAll0, pdT_lay d p h1, pdL_lay ds qs h2]; rfl
end
mutual
theorem pdT_nodict : ∀ (d : D) (p : PyData), pdT d = some p → p.hasDict = false
  | .non, p, h => by rw [pdT] at h; cases h; rw [PyData.hasDict]
  | .bl b, p, h => by rw [pdT] at h; cases h; rw [PyData.hasDict]
  | .int b, p, h => by rw [pdT] at h; cases h; rw [PyData.hasDict]
  | .str b, p, h => by
    rw [pdT] at h
    split at h
    · cases h; rw [PyData.hasDict]
    · cases h
  | .tup ds, p, h => by
    rw [pdT] at h
    cases e : pdL ds with
    | none => rw [e] at h; cases h
    | some ps => rw [e] at h; cases h; rw [PyData.hasDict]; exact pdL_nodict ds ps e
  | .lst ds, p, h => by
    rw [pdT] at h
    cases e : pdL ds with
    | none => rw [e] at h; cases h
    | some ps => rw [e] at h; cases h; rw [PyData.hasDict]; exact pdL_nodict ds ps e
  | .rol ds, p, h => by
    rw [pdT] at h
    cases e : pdL ds with
    | none => rw [e] at h; cases h
    | some ps => rw [e] at h; cases h; rw [PyData.hasDict]; exact pdL_nodict ds ps e
  | .dic _ _, p, h => by rw [pdT] at h; cases h
  | .ref _, p, h => by rw [pdT] at h; cases h
theorem pdL_nodict : ∀ (ds : List D) (ps : List PyData), pdL ds = some ps → PyData.hasDictAll ps = false
  | [], ps, h => by rw [pdL] at h; cases h; rw [PyData.hasDictAll]
  | d :: ds, ps, h => by
    obtain ⟨p, qs, h1, h2, rfl⟩ := pdL_cons h
    rw [PyData.hasDictAll, pdT_nodict d p h1, pdL_nodict ds qs h2]; rfl
end
/-- the data that stands for d now: a list that may be changed, as it is -/
def pds (S : Sto) : D → Option PyData
  | .ref n => match S.ob n with
    | some (.lst ds) => (pdL ds).map .list
    | _ => none
  | d => pdT d
section
variable {K : PySem.W.Frag} {ph : Ph} {S : Sto} {H : Hp} {X : Cx}
theorem pds_of {d : D} {v : V} {p : PyData} (s : Sim K ph S H) (r : Rep K ph S H d v) (h : pds S d = some p) : Dp K H v p ∧ p.canLay0 = true ∧ p.hasDict = false := by
  by_cases hd : ∃ n, d = .ref n
  · obtain ⟨n, rfl⟩ := hd
    unfold pds at h
    simp only at h
    rw [Rep] at r
    obtain ⟨_, rfl⟩ := r
    split at h
    · rename_i ds e
      obtain ⟨xs, h1, h2⟩ := s.ok n _ e
      cases e2 : pdL ds with
      | none => rw [e2] at h; cases h
      | some ps =>
        rw [e2] at h; cases h
        exact ⟨.lst (.inl (.inl h1)) (dps_of ds xs ps h2 e2), by rw [PyData.canLay0]; exact pdL_lay ds ps e2, by rw [PyData.hasDict]; exact pdL_nodict ds ps e2⟩
    · cases h
  · have h' : pdT d = some p := by
      cases d with
      | ref n => exact absurd ⟨n, rfl⟩ hd
      | _ => exact h
    exact ⟨dp_of d v p r h', pdT_lay d p h', pdT_nodict d p h'⟩

/-! ### == -/
def eqM0 (dx dy : D) : M D := fun S => match pds S dx, pds S dy with
  | some p, some q => if p.depth ≤ 100 then some (.bl (PyData.eqv p q), S) else none
  | _, _ => none
def neM0 (dx dy : D) : M D := fun S => match pds S dx, pds S dy with
  | some p, some q => if p.depth ≤ 100 then some (.bl (!PyData.eqv p q), S) else none
  | _, _ => none
def eqM (dx dy : D) : M D := fun S => match dx, dy with
  | .str i, .str j => some (.bl (i == j), S)
  | dx, dy => eqM0 dx dy S
def neM (dx dy : D) : M D := fun S => match dx, dy with
  | .str i, .str j => some (.bl (!(i == j)), S)
  | dx, dy => neM0 dx dy S
def rEqP (K : PySem.W.Frag) (neg : Bool) : R2 := fun x y H Q => ∃ d e, Dp K H x d ∧ Dp K H y e ∧ d.canLay0 = true ∧ e.canLay0 = true ∧ d.depth ≤ 100 ∧ Q (.bl (if neg then !PyData.eqv d e else PyData.eqv d e)) H
theorem op_eqP0 (hu : X.A.units + 200 < cLine) : OpR X (compareOp .Eq) (rEqP X.K false) := by
  intro pins s sg H x y v u Q I rx ry h
  obtain ⟨d, e, hd, he, ld, le, dp, q⟩ := h
  obtain ⟨as, r1⟩ := Dp.reads I d x v hd rx
  obtain ⟨bs, r2⟩ := Dp.reads I e y u he ry
  exact SeqAt.compareEq_reads r1 r2 ld le (by have := Nat.min_le_left d.depth e.depth; omega) ⟨.bl _, H, I, rfl, q⟩
theorem op_neP0 (hu : X.A.units + 200 < cLine) : OpR X (compareOp .NotEq) (rEqP X.K true) := by
  intro pins s sg H x y v u Q I rx ry h
  obtain ⟨d, e, hd, he, ld, le, dp, q⟩ := h
  obtain ⟨as, r1⟩ := Dp.reads I d x v hd rx
  obtain ⟨bs, r2⟩ := Dp.reads I e y u he ry
  exact SeqAt.compareNe_reads r1 r2 ld le (by have := Nat.min_le_left d.depth e.depth; omega) ⟨.bl _, H, I, rfl, q⟩
def rEqQ (K : PySem.W.Frag) : R2 := fun x y H Q => rEqP K false x y H Q ∨ rEq x y H Q
def rNeQ (K : PySem.W.Frag) : R2 := fun x y H Q => rEqP K true x y H Q ∨ rNe x y H Q
theorem op_eqP (hu : X.A.units + 200 < cLine) : OpR X (compareOp .Eq) (rEqQ X.K) := (op_eqP0 hu).or op_eq
theorem op_neP (hu : X.A.units + 200 < cLine) : OpR X (compareOp .NotEq) (rNeQ X.K) := (op_neP0 hu).or op_ne
end
end Mn

set_option maxRecDepth 100000
set_option maxHeartbeats 1000000
/-! Mn: operators and built-ins over data, told as rules. -/
namespace Mn
open PySem PySem.Spec PyProof.Rows L2
section
variable {K : PySem.W.Frag} {ph : Ph} {S : Sto} {H : Hp} {X : Cx}
theorem rbl {b : Bool} : Rep K ph S H (.bl b) (.bl b) := by rw [Rep]
theorem rint {b : Int} : Rep K ph S H (.int b) (.int b) := by rw [Rep]
theorem rstr {b : Str} : Rep K ph S H (.str b) (.str b) := by rw [Rep]
theorem rnon : Rep K ph S H .non .non := by rw [Rep]

theorem m_eq0 : OpM K (rEqP K false) eqM0 := by
  intro ph S H x y dx dy d S' Q s rx ry e post
  unfold eqM0 at e
  split at e
  · rename_i p q h1 h2
    split at e
    · cases e
      obtain ⟨d1, l1, _⟩ := pds_of s rx h1
      obtain ⟨d2, l2, _⟩ := pds_of s ry h2
      exact ⟨p, q, d1, d2, l1, l2, by assumption, post.now s rbl⟩
    · cases e
  · cases e
theorem m_ne0 : OpM K (rEqP K true) neM0 := by
  intro ph S H x y dx dy d S' Q s rx ry e post
  unfold neM0 at e
  split at e
  · rename_i p q h1 h2
    split at e
    · cases e
      obtain ⟨d1, l1, _⟩ := pds_of s rx h1
      obtain ⟨d2, l2, _⟩ := pds_of s ry h2
      exact ⟨p, q, d1, d2, l1, l2, by assumption, post.now s rbl⟩
    · cases e
  · cases e

theorem m_eq : OpM K (rEqQ K) eqM := by
  intro ph S H x y dx dy d S' Q s rx ry e post
  unfold eqM at e
  split at e
  · cases e
    obtain rfl := rx.strE
    obtain rfl := ry.strE
    exact .inr ⟨rfl, post.now s (by rw [Rep, dec_str])⟩
  · exact .inl (m_eq0 ph S H x y _ _ d S' Q s rx ry e post)
theorem m_ne : OpM K (rNeQ K) neM := by
  intro ph S H x y dx dy d S' Q s rx ry e post
  unfold neM at e
  split at e
  · cases e
    obtain rfl := rx.strE
    obtain rfl := ry.strE
    exact .inr ⟨rfl, post.now s (by rw [Rep, dec_str])⟩
  · exact .inl (m_ne0 ph S H x y _ _ d S' Q s rx ry e post)

/-! ### in -/
def inL (S : Sto) (dx dy : D) : Option Bool := match dy with
  | .str j => match dx with
    | .str i => some (!(Builtin.Str.occurrences j i 0 j.length 1).isEmpty)
    | _ => none
  | _ => match pds S dx, pds S dy with
    | some p, some (.list qs) => if p.depth ≤ 100 then some (qs.any fun z => PyData.eqv z p) else none
    | some p, some (.tuple qs) => if p.depth ≤ 100 then some (qs.any fun z => PyData.eqv z p) else none
    | _, _ => none
def inM (dx dy : D) : M D := fun S => (inL S dx dy).map fun b => (.bl b, S)
def niM (dx dy : D) : M D := fun S => (inL S dx dy).map fun b => (.bl (!b), S)
def rInP (K : PySem.W.Frag) (neg : Bool) : R2 := fun x y H Q =>
  (∃ i j, x = .str i ∧ y = .str j ∧ Q (.bl (if neg then !(!(Builtin.Str.occurrences j i 0 j.length 1).isEmpty) else !(Builtin.Str.occurrences j i 0 j.length 1).isEmpty)) H) ∨
  ∃ d ds, Dp K H x d ∧ (Dp K H y (.list ds) ∨ Dp K H y (.tuple ds)) ∧ d.canLay0 = true ∧ PyData.canLayAll0 ds = true ∧ d.depth ≤ 100 ∧ Q (.bl (if neg then !ds.any fun z => PyData.eqv z d else ds.any fun z => PyData.eqv z d)) H
theorem op_inP (hu : X.A.units + 200 < cLine) : OpR X (compareOp .In) (rInP X.K false) := by
  refine OpR.or op_in_str ?_
  intro pins s sg H x y v u Q I rx ry h
  obtain ⟨d, ds, hd, he, ld, le, dp, q⟩ := h
  obtain ⟨as, r1⟩ := Dp.reads I d x v hd rx
  have hr : X.A.units + 1 + min (PyData.depthAll ds) d.depth < cLine := by have := Nat.min_le_right (PyData.depthAll ds) d.depth; omega
  rcases he with he | he
  · obtain ⟨bs, r2⟩ := Dp.reads I _ y u he ry
    exact SeqAt.in_list_reads r2 r1 le ld hr ⟨.bl _, H, I, rfl, q⟩
  · obtain ⟨bs, r2⟩ := Dp.reads I _ y u he ry
    exact SeqAt.in_tuple_reads r2 r1 le ld hr ⟨.bl _, H, I, rfl, q⟩
theorem op_niP (hu : X.A.units + 200 < cLine) : OpR X (compareOp .NotIn) (rInP X.K true) := by
  refine OpR.or op_notin_str ?_
  intro pins s sg H x y v u Q I rx ry h
  obtain ⟨d, ds, hd, he, ld, le, dp, q⟩ := h
  obtain ⟨as, r1⟩ := Dp.reads I d x v hd rx
  have hr : X.A.units + 1 + min (PyData.depthAll ds) d.depth < cLine := by have := Nat.min_le_right (PyData.depthAll ds) d.depth; omega
  rcases he with he | he
  · obtain ⟨bs, r2⟩ := Dp.reads I _ y u he ry
    exact SeqAt.notIn_list_reads r2 r1 le ld hr ⟨.bl _, H, I, rfl, q⟩
  · obtain ⟨bs, r2⟩ := Dp.reads I _ y u he ry
    exact SeqAt.notIn_tuple_reads r2 r1 le ld hr ⟨.bl _, H, I, rfl, q⟩
theorem in_core {x y : V} {dx dy : D} {b : Bool} (s : Sim K ph S H) (rx : Rep K ph S H dx x) (ry : Rep K ph S H dy y) (h : inL S dx dy = some b) :
    (∃ i j, x = .str i ∧ y = .str j ∧ b = !(Builtin.Str.occurrences j i 0 j.length 1).isEmpty) ∨
    ∃ d ds, Dp K H x d ∧ (Dp K H y (.list ds) ∨ Dp K H y (.tuple ds)) ∧ d.canLay0 = true ∧ PyData.canLayAll0 ds = true ∧ d.depth ≤ 100 ∧ b = ds.any fun z => PyData.eqv z d := by
  unfold inL at h
  split at h
  · rename_i j
    split at h
    · rename_i i
      cases h
      rw [Rep] at rx ry
      exact .inl ⟨_, _, rx, ry, rfl⟩
    · cases h
  · split at h
    · rename_i p qs h1 h2
      split at h
      · cases h
        obtain ⟨d1, l1, _⟩ := pds_of s rx h1
        obtain ⟨d2, l2, _⟩ := pds_of s ry h2
        rw [PyData.canLay0] at l2
        exact .inr ⟨p, qs, d1, .inl d2, l1, l2, by assumption, rfl⟩
      · cases h
    · rename_i p qs h1 h2
      split at h
      · cases h
        obtain ⟨d1, l1, _⟩ := pds_of s rx h1
        obtain ⟨d2, l2, _⟩ := pds_of s ry h2
        rw [PyData.canLay0] at l2
        exact .inr ⟨p, qs, d1, .inr d2, l1, l2, by assumption, rfl⟩
      · cases h
    · cases h
theorem m_in : OpM K (rInP K false) inM := by
  intro ph S H x y dx dy d S' Q s rx ry e post
  unfold inM at e
  cases h : inL S dx dy with
  | none => rw [h] at e; cases e
  | some b =>
    rw [h] at e; cases e
    rcases in_core s rx ry h with ⟨i, j, h1, h2, h3⟩ | ⟨p, qs, h1, h2, h3, h4, h5, h6⟩
    · exact .inl ⟨i, j, h1, h2, by rw [← h3]; exact post.now s rbl⟩
    · exact .inr ⟨p, qs, h1, h2, h3, h4, h5, by rw [← h6]; exact post.now s rbl⟩
theorem m_ni : OpM K (rInP K true) niM := by
  intro ph S H x y dx dy d S' Q s rx ry e post
  unfold niM at e
  cases h : inL S dx dy with
  | none => rw [h] at e; cases e
  | some b =>
    rw [h] at e; cases e
    rcases in_core s rx ry h with ⟨i, j, h1, h2, h3⟩ | ⟨p, qs, h1, h2, h3, h4, h5, h6⟩
    · exact .inl ⟨i, j, h1, h2, by rw [← h3]; exact post.now s rbl⟩
    · exact .inr ⟨p, qs, h1, h2, h3, h4, h5, by rw [← h6]; exact post.now s rbl⟩

/-! ### numbers -/
def intOp (C : Int → Int → Bool) (g : Int → Int → D) (dx dy : D) : M D := fun S => match dx, dy with
  | .int i, .int j => if C i j then some (g i j, S) else none
  | _, _ => none
theorem m_int {C : Int → Int → Bool} {Cp : Int → Int → Prop} {g : Int → Int → D} {gv : Int → Int → V} (hC : ∀ i j, C i j = true → Cp i j) (hg : ∀ i j ph S H, Rep K ph S H (g i j) (gv i j)) : OpM K (rI Cp gv) (intOp C g) := by
  intro ph S H x y dx dy d S' Q s rx ry e post
  unfold intOp at e
  split at e
  · rename_i i j
    split at e
    · rename_i hc
      cases e
      rw [Rep] at rx ry
      exact ⟨i, j, rx, ry, hC i j hc, post.now s (hg i j ph _ H)⟩
    · cases e
  · cases e
theorem m_int0 {g : Int → Int → D} {gv : Int → Int → V} (hg : ∀ i j ph S H, Rep K ph S H (g i j) (gv i j)) : OpM K (rI0 gv) (intOp (fun _ _ => true) g) := by
  intro ph S H x y dx dy d S' Q s rx ry e post
  unfold intOp at e
  split at e
  · rename_i i j
    cases e
    rw [Rep] at rx ry
    exact ⟨i, j, rx, ry, post.now s (hg i j ph _ H)⟩
  · cases e
def subM : D → D → M D := intOp (fun _ _ => true) fun i j => .int (i - j)
def modM : D → D → M D := intOp (fun _ j => decide (0 < j)) fun i j => .int (i % j)
def divM : D → D → M D := intOp (fun _ j => decide (0 < j) && decide (j < 1073741824)) fun i j => .int (i / j)
def powM : D → D → M D := intOp (fun i j => decide (0 ≤ j) && decide (j ≤ 1000000) && decide (i.natAbs < 2 ^ 64)) fun i j => .int (i ^ j.toNat)
def ltM : D → D → M D := intOp (fun _ _ => true) fun i j => .bl (decide (i < j))
def leM : D → D → M D := intOp (fun _ _ => true) fun i j => .bl (decide (i ≤ j))
def gtM : D → D → M D := intOp (fun _ _ => true) fun i j => .bl (decide (j < i))
def geM : D → D → M D := intOp (fun _ _ => true) fun i j => .bl (decide (j ≤ i))
theorem m_sub : OpM K (rI0 fun i j => .int (i - j)) subM := m_int0 fun _ _ _ _ _ => rint
theorem m_mod : OpM K (rI (fun _ j => 0 < j) fun i j => .int (i % j)) modM := m_int (fun _ _ h => of_decide_eq_true h) fun _ _ _ _ _ => rint
theorem m_div : OpM K (rI CDiv fun i j => .int (i / j)) divM := m_int (fun _ _ h => by rw [Bool.and_eq_true, decide_eq_true_eq, decide_eq_true_eq] at h; exact h) fun _ _ _ _ _ => rint
theorem m_pow : OpM K (rI CPow fun i j => .int (i ^ j.toNat)) powM := m_int (fun _ _ h => by simp only [Bool.and_eq_true, decide_eq_true_eq] at h; exact ⟨h.1.1, h.1.2, h.2⟩) fun _ _ _ _ _ => rint
theorem m_lt : OpM K (rI0 fun i j => .bl (decide (i < j))) ltM := m_int0 fun _ _ _ _ _ => rbl
theorem m_le : OpM K (rI0 fun i j => .bl (decide (i ≤ j))) leM := m_int0 fun _ _ _ _ _ => rbl
theorem m_gt : OpM K (rI0 fun i j => .bl (decide (j < i))) gtM := m_int0 fun _ _ _ _ _ => rbl
theorem m_ge : OpM K (rI0 fun i j => .bl (decide (j ≤ i))) geM := m_int0 fun _ _ _ _ _ => rbl
/-- -x -/
def negM (d : D) : M D := fun S => match d with
  | .int i => some (.int (-i), S)
  | _ => none
theorem m_neg : UnM K (rU fun i => .int (-i)) negM := by
  intro ph S H x dx d S' Q s rx e post
  unfold negM at e
  split at e
  · rename_i i
    cases e
    rw [Rep] at rx
    exact ⟨i, rx, post.now s rint⟩
  · cases e
/-- a * b: numbers; a list times a number -/
def mulM (dx dy : D) : M D := fun S => match dx, dy with
  | .int i, .int j => if (-(2 ^ 64) < i ∧ i < 2 ^ 64) ∨ (-(2 ^ 64) < j ∧ j < 2 ^ 64) then some (.int (i * j), S) else none
  | .lst ds, .int k => if -(2 ^ 63) ≤ k ∧ k < 2 ^ 63 ∧ ds.length * k.toNat ≤ lim then some (.lst (List.replicate k.toNat ds).flatten, S) else none
  | _, _ => none
theorem RepL.rep {ds : List D} {xs : List V} (h : RepL K ph S H ds xs) : ∀ k : Nat, RepL K ph S H (List.replicate k ds).flatten (List.replicate k xs).flatten
  | 0 => .nil
  | k + 1 => by
    rw [List.replicate_succ, List.replicate_succ, List.flatten_cons, List.flatten_cons]
    exact h.app (RepL.rep h k)
def rMulP : R2 := fun x y H Q => rI CMul (fun i j => .int (i * j)) x y H Q ∨ rRep x y H Q
theorem op_mulP : OpR X (binaryOp .Mult) rMulP := op_mul.or op_rep
theorem m_mul : OpM K rMulP mulM := by
  intro ph S H x y dx dy d S' Q s rx ry e post
  unfold mulM at e
  split at e
  · rename_i i j
    split at e
    · cases e
      rw [Rep] at rx ry
      exact .inl ⟨i, j, rx, ry, by assumption, post.now s rint⟩
    · cases e
  · rename_i ds k
    split at e
    · rename_i hc
      cases e
      obtain ⟨a, xs, rfl, h1, h2⟩ := rx.lstE
      exact .inr ⟨a, k, xs, rfl, ry.intE, h1.1, hc.1, hc.2.1, by rw [h2.len]; exact hc.2.2, fun p hp => new_lst s (h2.rep _) post hp⟩
    · cases e
  · cases e

/-! ### a + b -/
def itemsL : D → Sto → Option (List D)
  | .lst ds, _ => some ds
  | .ref n, S => match S.ob n with
    | some (.lst ds) => some ds
    | _ => none
  | _, _ => none
theorem itemsL_of {d : D} {x : V} {ds : List D} (s : Sim K ph S H) (r : Rep K ph S H d x) (h : itemsL d S = some ds) : ∃ a xs, x = .ref a ∧ H a = some (.lst xs) ∧ RepL K ph S H ds xs := by
  cases d with
  | lst es => rw [Rep] at r; obtain ⟨a, xs, rfl, h1, h2⟩ := r; cases h; exact ⟨a, xs, rfl, h1.1, h2⟩
  | ref n =>
    rw [Rep] at r; obtain ⟨_, rfl⟩ := r
    unfold itemsL at h
    simp only at h
    split at h
    · rename_i es e
      obtain ⟨xs, h1, h2⟩ := s.ok n _ e
      cases h
      exact ⟨_, xs, rfl, h1, h2⟩
    · cases h
  | _ => cases h
def addM (dx dy : D) : M D := fun S => match dx, dy with
  | .int i, .int j => some (.int (i + j), S)
  | .str i, .str j => if i.length + j.length ≤ lim then some (.str (i ++ j), S) else none
  | .tup a, .tup b => if a.length + b.length ≤ lim then some (.tup (a ++ b), S) else none
  | _, _ => match itemsL dx S, itemsL dy S with
    | some a, some b => if a.length + b.length ≤ lim then some (.lst (a ++ b), S) else none
    | _, _ => none
def rAddP (K : PySem.W.Frag) : R2 := fun x y H Q => (rI0 (fun i j => .int (i + j)) x y H Q ∨ (∃ i j, x = .str i ∧ y = .str j ∧ i.length + j.length ≤ sizeLine ∧ Q (.str (i ++ j)) H)) ∨ (rCatF K x y H Q ∨ rCat x y H Q)
theorem op_addP : OpR X (binaryOp .Add) (rAddP X.K) := (op_add.or op_add_str).or (op_catF.or op_cat)
theorem m_add : OpM K (rAddP K) addM := by
  intro ph S H x y dx dy d S' Q s rx ry e post
  unfold addM at e
  split at e
  · rename_i i j
    cases e
    rw [Rep] at rx ry
    exact .inl (.inl ⟨i, j, rx, ry, post.now s rint⟩)
  · rename_i i j
    split at e
    · cases e
      rw [Rep] at rx ry
      exact .inl (.inr ⟨i, j, rx, ry, by assumption, post.now s rstr⟩)
    · cases e
  · rename_i as bs
    split at e
    · rename_i hl
      cases e
      have rx0 := rx
      have ry0 := ry
      rw [Rep] at rx ry
      obtain ⟨a, xs, rfl, h1, h2⟩ := rx
      obtain ⟨b, ys, rfl, h3, h4⟩ := ry
      refine .inr (.inl ⟨a, b, xs, ys, rfl, rfl, h1.sq, h3.sq, by rw [h2.len, h4.len]; exact hl, fun e => ?_, fun e1 e2 => ?_, fun e1 e2 => new_tup s (h2.app h4) post⟩)
      · subst e
        have : as = [] := by have := h2.len; simpa using this.symm
        subst this
        exact post.now s ry0
      · subst e2
        have : bs = [] := by have := h4.len; simpa using this.symm
        subst this
        rw [List.append_nil] at post
        exact post.now s rx0
    · cases e
  · split at e
    · rename_i as bs h1 h2
      split at e
      · rename_i hl
        cases e
        obtain ⟨a, xs, rfl, k1, k2⟩ := itemsL_of s rx h1
        obtain ⟨b, ys, rfl, k3, k4⟩ := itemsL_of s ry h2
        exact .inr (.inr ⟨a, b, xs, ys, rfl, rfl, k1, k3, by rw [k2.len, k4.len]; exact hl, fun p hp => new_lst s (k2.app k4) post hp⟩)
      · cases e
    · cases e

/-! ### a[i] -/
def ixM (dx dy : D) : M D := fun S => match dy with
  | .int i => match dx with
    | .str z => if z.length ≤ lim then (atI z.cps.toList i).map fun c => (.str ⟨#[c]⟩, S) else none
    | _ => match items dx S with
      | some ds => (atI ds i).map fun d => (d, S)
      | none => none
  | _ => none
theorem atI_rep {ds : List D} {xs : List V} {i : Int} {d : D} (h : RepL K ph S H ds xs) (e : atI ds i = some d) : ∃ x, atI xs i = some x ∧ Rep K ph S H d x := by
  unfold atI at e ⊢
  rw [h.len]
  cases e1 : ixN ds.length i with
  | none => rw [e1] at e; cases e
  | some j =>
    rw [e1] at e
    exact h.get e
theorem m_ix : OpM K (rIx K) ixM := by
  intro ph S H x y dx dy d S' Q s rx ry e post
  unfold ixM at e
  split at e
  · rename_i i
    rw [Rep] at ry
    split at e
    · rename_i z
      split at e
      · rename_i hz
        rw [Rep] at rx
        cases e1 : atI z.cps.toList i with
        | none => rw [e1] at e; cases e
        | some c => rw [e1] at e; cases e; exact .inr (.inr ⟨z, i, c, rx, ry, hz, e1, post.now s rstr⟩)
      · cases e
    · split at e
      · rename_i ds hd
        cases e1 : atI ds i with
        | none => rw [e1] at e; cases e
        | some c =>
          rw [e1] at e; cases e
          obtain ⟨a, xs, rfl, h1, h2⟩ := items_of s rx hd
          obtain ⟨v, h3, h4⟩ := atI_rep h2 e1
          rcases h1 with h1 | h1
          · exact .inr (.inl ⟨a, xs, i, v, rfl, ry, h1, h3, post.now s h4⟩)
          · exact .inl ⟨a, xs, i, v, rfl, ry, h1, h3, post.now s h4⟩
      · cases e
  · cases e
theorem e_ix {a b : Expr} {ma mb : EM D} {pos : Pos} (ha : PE X a (rdE X.K ma)) (hb : PE X b (rdE X.K mb)) (hs : PlainIx b := by exact fun _ _ => rfl) : PE X (.Subscript a b pos) (rdE X.K (mBin ixM ma mb)) :=
  PE.weak (pe_ix ix_seq ha hb hs) fun _ _ _ h => rd_two m_ix h

/-! ### a[lo:hi] -/
def cutD {α : Type} (xs : List α) (lo hi : Option Int) : List α := (xs.drop (HT.sIx xs.length 0 lo)).take (HT.sIx xs.length xs.length hi - HT.sIx xs.length 0 lo)
theorem RepL.cut {ds : List D} {xs : List V} (h : RepL K ph S H ds xs) (lo hi : Option Int) : RepL K ph S H (cutD ds lo hi) (cutV xs lo hi) := by
  unfold cutD cutV
  rw [h.len]
  exact (h.drop _).take _
theorem o_none : PO X none (rdO X.K fun _ => ret none) := PO.weak po_none fun sg H Q h => by
  obtain ⟨ph, S, rho, d, S', s, en, e, post⟩ := h
  cases e
  exact post ph H Ext.refl s
def asI : D → M Int := fun d S => match d with
  | .int b => some (b, S)
  | _ => none
def mPart (ma : EM D) : EM (Option Int) := fun rho => bnd (ma rho) fun d => bnd (asI d) fun i => ret (some i)
theorem o_some {e : Expr} {ma : EM D} (h : PE X e (rdE X.K ma)) : PO X (some e) (rdO X.K (mPart ma)) := PO.weak (po_some h) fun sg H Q h => by
  obtain ⟨ph, S, rho, o, S', s, en, e, post⟩ := h
  obtain ⟨d, S1, e1, e2⟩ := bnd_inv e
  obtain ⟨i, S2, e3, e4⟩ := bnd_inv e2
  cases e4
  unfold asI at e3
  split at e3
  · cases e3
    exact ⟨ph, S, rho, .int i, _, s, en, e1, fun ph1 H1 x E1 s1 r1 => ⟨i, by rw [Rep] at r1; exact r1, post ph1 H1 E1 s1⟩⟩
  · cases e3
def slM (d : D) (lo hi : Option Int) : M D := fun S => match d with
  | .tup ds => some (.tup (cutD ds lo hi), S)
  | .lst ds => some (.lst (cutD ds lo hi), S)
  | .rol ds => some (.lst (cutD ds lo hi), S)
  | .ref n => match S.ob n with
    | some (.lst ds) => some (.lst (cutD ds lo hi), S)
    | _ => none
  | _ => none
def mSl (ma : EM D) (ml mh : EM (Option Int)) : EM D := fun rho => bnd (ma rho) fun a => bnd (ml rho) fun lo => bnd (mh rho) fun hi => slM a lo hi
theorem e_sl {e : Expr} {lo hi : Option Expr} {ma : EM D} {ml mh : EM (Option Int)} {pos p2 : Pos} (he : PE X e (rdE X.K ma)) (hl : PO X lo (rdO X.K ml)) (hu : PO X hi (rdO X.K mh)) : PE X (.Subscript e (.Slice lo hi none p2) pos) (rdE X.K (mSl ma ml mh)) :=
  PE.weak (pe_slice (sl_tupF.or sl_list) he hl hu) fun sg H Q h => by
    obtain ⟨ph, S, rho, d, S', s, en, e, post⟩ := h
    obtain ⟨a, S1, e1, eb⟩ := bnd_inv e
    obtain ⟨l, S2, e2, ec⟩ := bnd_inv eb
    obtain ⟨u, S3, e3, e4⟩ := bnd_inv ec
    refine ⟨ph, S, rho, a, S1, s, en, e1, fun ph1 H1 x E1 s1 r1 => ⟨ph1, S1, rho, l, S2, s1, en.ext E1, e2, fun ph2 H2 E2 s2 => ⟨ph2, S2, rho, u, S3, s2, (en.ext E1).ext E2, e3, fun ph3 H3 E3 s3 => ?_⟩⟩⟩
    have r := ((r1.ext E2).ext E3)
    have post' := post.of ((E1.trans E2).trans E3)
    unfold slM at e4
    split at e4
    · rename_i ds
      cases e4
      have r0 := r
      rw [Rep] at r
      obtain ⟨b, xs, rfl, h1, h2⟩ := r
      refine .inl ⟨b, xs, rfl, h1.sq, fun hw => ?_, fun hw => new_tup s3 (h2.cut l u) post'⟩
      have : cutD ds l u = ds := by
        unfold cutD
        rw [h2.len] at hw
        rw [hw.1, hw.2, List.drop_zero, Nat.sub_zero, List.take_length]
      rw [this] at post'
      exact post'.now s3 r0
    · cases e4
      rw [Rep] at r
      obtain ⟨b, xs, rfl, h1, h2⟩ := r
      exact .inr ⟨b, xs, rfl, .inl (.inl h1.1), fun p hp => new_lst s3 (h2.cut l u) post' hp⟩
    · cases e4
      rw [Rep] at r
      obtain ⟨b, xs, rfl, h1, h2⟩ := r
      exact .inr ⟨b, xs, rfl, h1.sq, fun p hp => new_lst s3 (h2.cut l u) post' hp⟩
    · rename_i n
      split at e4
      · rename_i ds hd
        cases e4
        rw [Rep] at r
        obtain ⟨_, rfl⟩ := r
        obtain ⟨xs, h1, h2⟩ := s3.ok n _ hd
        exact .inr ⟨_, xs, rfl, .inl (.inl h1), fun p hp => new_lst s3 (h2.cut l u) post' hp⟩
      · cases e4
    · cases e4

/-! ### calls of built-ins -/
def mCall (f : List D → M D) (mas : EM (List D)) : EM D := fun rho => bnd (mas rho) f
theorem rd_call {f : List D → M D} {mas : EM (List D)} {r : List V → Hp → VK → Prop} (hm : CaM K r f) {sg : L2.St} {H : Hp} {Q : VK} (h : rdE K (mCall f mas) sg H Q) : tCB r (rdA K mas) sg H Q := by
  obtain ⟨ph, S, rho, d, S', s, en, e, post⟩ := h
  obtain ⟨as, S1, e1, e2⟩ := bnd_inv e
  exact ⟨ph, S, rho, as, S1, s, en, e1, fun ph1 H1 xs E1 s1 r1 => hm ph1 S1 H1 xs as d S' Q s1 r1 e2 (post.of E1)⟩
theorem e_callB {id : String} {x : Str} {r : List V → Hp → VK → Prop} {f : List D → M D} {mas : EM (List D)} {e : Expr} {es : List Expr} {p pos : Pos} (hc : CallR X (.builtin id) r) (hm0 : CaM X.K r f) (hg : Gl X x) (hm : X.mg x = none) (hv : bootBuiltins x = some (.builtin id)) (ha : PA X (e :: es) (rdA X.K mas)) (hn : x ≠ "__name__" := by decide) (hdb : (x == ("__debug__" : Str)) = false := by decide)
    (he : starEach (e :: es) X.env = (false, eval e X.env) :: starEach es X.env := by rfl) (hpl : (backTo pos (starEach es X.env)).any (·.1) = false := by rfl) : PE X (.Call (.Name x p) (e :: es) [] pos) (rdE X.K (mCall f mas)) :=
  PE.weak (pe_callB hc hg hm hv ha hn hdb he hpl) fun _ _ _ h => rd_call hm0 h
theorem e_callT {T : String} {x : Str} {r : List V → Hp → VK → Prop} {f : List D → M D} {mas : EM (List D)} {e : Expr} {es : List Expr} {p pos : Pos} (hc : CallR X (.type T) r) (hm0 : CaM X.K r f) (hg : Gl X x) (hm : X.mg x = none) (hv : bootBuiltins x = some (.type T)) (ha : PA X (e :: es) (rdA X.K mas)) (hn : x ≠ "__name__" := by decide) (hdb : (x == ("__debug__" : Str)) = false := by decide)
    (he : starEach (e :: es) X.env = (false, eval e X.env) :: starEach es X.env := by rfl) (hpl : (backTo pos (starEach es X.env)).any (·.1) = false := by rfl) : PE X (.Call (.Name x p) (e :: es) [] pos) (rdE X.K (mCall f mas)) :=
  PE.weak (pe_callTy hc hg hm hv ha hn hdb he hpl) fun _ _ _ h => rd_call hm0 h
theorem RepL.one {d : D} {xs : List V} (h : RepL K ph S H [d] xs) : ∃ x, xs = [x] ∧ Rep K ph S H d x := by
  obtain ⟨x, r, rfl, h1, h2⟩ := h.cons_inv
  rw [h2.nil_inv]
  exact ⟨x, rfl, h1⟩
theorem RepL.two {d e : D} {xs : List V} (h : RepL K ph S H [d, e] xs) : ∃ x y, xs = [x, y] ∧ Rep K ph S H d x ∧ Rep K ph S H e y := by
  obtain ⟨x, r, rfl, h1, h2⟩ := h.cons_inv
  obtain ⟨y, rfl, h3⟩ := h2.one
  exact ⟨x, y, rfl, h1, h3⟩
/-- len -/
def lenM (ds : List D) : M D := fun S => match ds with
  | [.str z] => if z.length ≤ lim then some (.int z.length, S) else none
  | [.dic ks _] => some (.int ks.length, S)
  | [d] => match items d S with
    | some es => some (.int es.length, S)
    | none => none
  | _ => none
def rLenP (K : PySem.W.Frag) : List V → Hp → VK → Prop := fun xs H Q =>
  ((∃ p ys, xs = [.ref p] ∧ (SqL K H p ys ∨ SqT K H p ys) ∧ Q (.int ys.length) H) ∨ (∃ z, xs = [.str z] ∧ z.length ≤ sizeLine ∧ Q (.int z.length) H)) ∨ ∃ d kvs, xs = [.ref d] ∧ H d = some (.dK kvs) ∧ Q (.int kvs.length) H
end
end Mn

set_option maxRecDepth 100000
set_option maxHeartbeats 1000000
/-! Mn: built-ins. -/
namespace Mn
open PySem PySem.Spec PyProof.Rows L2
section
variable {K : PySem.W.Frag} {ph : Ph} {S : Sto} {H : Hp} {X : Cx}
theorem cr_len : CallR X (.builtin "len") (rLenP X.K) := (call_len_seq.or call_len_str).or call_lenD
theorem c_len : CaM K (rLenP K) lenM := by
  intro ph S H xs dxs d S' Q s rx e post
  unfold lenM at e
  split at e
  · rename_i z
    split at e
    · cases e
      obtain ⟨x, rfl, r⟩ := rx.one
      exact .inl (.inr ⟨z, by rw [r.strE], by assumption, post.now s rint⟩)
    · cases e
  · rename_i ks ds
    cases e
    obtain ⟨x, rfl, r⟩ := rx.one
    obtain ⟨a, kvs, rfl, h1, h2, h3⟩ := r.dicE
    have : ks.length = kvs.length := by rw [← h2, List.length_map]
    exact .inr ⟨a, kvs, rfl, h1.1, by rw [← this]; exact post.now s rint⟩
  · rename_i dd _ _
    split at e
    · rename_i es he
      cases e
      obtain ⟨x, rfl, r⟩ := rx.one
      obtain ⟨a, xs, rfl, h1, h2⟩ := items_of s r he
      exact .inl (.inl ⟨a, xs, rfl, h1.symm, by rw [h2.len]; exact post.now s rint⟩)
    · cases e
  · cases e
/-- tuple(x), list(x) -/
def tupleM (ds : List D) : M D := fun S => match ds with
  | [.tup es] => some (.tup es, S)
  | [d] => match items d S with
    | some es => some (.tup es, S)
    | none => none
  | _ => none
theorem c_tuple : CaM K (fun xs H Q => ∃ p ys, xs = [.ref p] ∧ ((SqL K H p ys ∧ newT H ys Q) ∨ (SqT K H p ys ∧ Q (.ref p) H))) tupleM := by
  intro ph S H xs dxs d S' Q s rx e post
  unfold tupleM at e
  split at e
  · rename_i es
    cases e
    obtain ⟨x, rfl, r⟩ := rx.one
    have r0 := r
    obtain ⟨a, ys, rfl, h1, h2⟩ := r.tupE
    exact ⟨a, ys, rfl, .inr ⟨h1.sq, post.now s r0⟩⟩
  · rename_i dd hd
    split at e
    · rename_i es he
      cases e
      obtain ⟨x, rfl, r⟩ := rx.one
      cases dd with
      | tup fs => exact absurd rfl (hd fs)
      | lst fs =>
        obtain ⟨a, ys, rfl, h1, h2⟩ := r.lstE
        cases he
        exact ⟨a, ys, rfl, .inl ⟨.inl (.inl h1.1), new_tup s h2 post⟩⟩
      | rol fs =>
        obtain ⟨a, ys, rfl, h1, h2⟩ := r.rolE
        cases he
        exact ⟨a, ys, rfl, .inl ⟨h1.sq, new_tup s h2 post⟩⟩
      | ref n =>
        obtain ⟨_, rfl⟩ := r.refE
        unfold items at he
        simp only at he
        split at he
        · rename_i fs hf
          cases he
          obtain ⟨ys, h1, h2⟩ := s.ok n _ hf
          exact ⟨_, ys, rfl, .inl ⟨.inl (.inl h1), new_tup s h2 post⟩⟩
        · cases he
      | _ => cases he
    · cases e
  · cases e
def listM (ds : List D) : M D := fun S => match ds with
  | [d] => match items d S with
    | some es => some (.lst es, S)
    | none => none
  | _ => none
def listN (ds : List D) : M D := fun S => match ds with
  | [d] => match items d S with
    | some es => some (.ref S.nx, S.new (.lst es))
    | none => none
  | _ => none
theorem c_list : CaM K (fun xs H Q => ∃ p ys, xs = [.ref p] ∧ (SqL K H p ys ∨ SqT K H p ys) ∧ ∀ l, H l = none → Q (.ref l) (upd H l (.lst ys))) listM := by
  intro ph S H xs dxs d S' Q s rx e post
  unfold listM at e
  split at e
  · split at e
    · rename_i es he
      cases e
      obtain ⟨x, rfl, r⟩ := rx.one
      obtain ⟨a, ys, rfl, h1, h2⟩ := items_of s r he
      exact ⟨a, ys, rfl, h1.symm, fun p hp => new_lst s h2 post hp⟩
    · cases e
  · cases e
theorem c_listN : CaM K (fun xs H Q => ∃ p ys, xs = [.ref p] ∧ (SqL K H p ys ∨ SqT K H p ys) ∧ ∀ l, H l = none → Q (.ref l) (upd H l (.lst ys))) listN := by
  intro ph S H xs dxs d S' Q s rx e post
  unfold listN at e
  split at e
  · split at e
    · rename_i es he
      cases e
      obtain ⟨x, rfl, r⟩ := rx.one
      obtain ⟨a, ys, rfl, h1, h2⟩ := items_of s r he
      exact ⟨a, ys, rfl, h1.symm, fun p hp => new_ref s h2 post hp⟩
    · cases e
  · cases e
/-- int(x), abs(x) -/
def toIntM (ds : List D) : M D := fun S => match ds with
  | [.int i] => some (.int i, S)
  | [.bl b] => some (.int (if b then 1 else 0), S)
  | _ => none
theorem c_int : CaM K (fun xs H Q => (∃ i, xs = [.int i] ∧ Q (.int i) H) ∨ ∃ k, xs = [.bl k] ∧ Q (.int (if k then 1 else 0)) H) toIntM := by
  intro ph S H xs dxs d S' Q s rx e post
  unfold toIntM at e
  split at e
  · cases e
    obtain ⟨x, rfl, r⟩ := rx.one
    exact .inl ⟨_, by rw [r.intE], post.now s rint⟩
  · cases e
    obtain ⟨x, rfl, r⟩ := rx.one
    exact .inr ⟨_, by rw [r.blE], post.now s rint⟩
  · cases e
def absM (ds : List D) : M D := fun S => match ds with
  | [.int i] => some (.int (if i < 0 then -i else i), S)
  | _ => none
theorem c_abs : CaM K (fun xs H Q => ∃ i, xs = [.int i] ∧ Q (.int (if i < 0 then -i else i)) H) absM := by
  intro ph S H xs dxs d S' Q s rx e post
  unfold absM at e
  split at e
  · cases e
    obtain ⟨x, rfl, r⟩ := rx.one
    exact ⟨_, by rw [r.intE], post.now s rint⟩
  · cases e
/-- any, all, of truths -/
def bools : List D → Option (List Bool)
  | [] => some []
  | .bl b :: r => (bools r).map (b :: ·)
  | _ => none
theorem bools_rep : ∀ {ds : List D} {bs : List Bool} {xs : List V}, bools ds = some bs → RepL K ph S H ds xs → xs = bs.map V.bl
  | [], bs, xs, h, r => by cases h; exact r.nil_inv
  | d :: ds, bs, xs, h, r => by
    cases d with
    | bl b =>
      rw [bools] at h
      cases e : bools ds with
      | none => rw [e] at h; cases h
      | some cs =>
        rw [e] at h; cases h
        obtain ⟨x, ys, rfl, h1, h2⟩ := r.cons_inv
        rw [h1.blE, bools_rep e h2]; rfl
    | _ => cases h
def anyM (ds : List D) : M D := fun S => match ds with
  | [d] => match itemsL d S with
    | some es => (bools es).map fun bs => (.bl (bs.any id), S)
    | none => none
  | _ => none
def allM (ds : List D) : M D := fun S => match ds with
  | [d] => match itemsL d S with
    | some es => (bools es).map fun bs => (.bl (bs.all id), S)
    | none => none
  | _ => none
theorem c_any : CaM K (rAny K) anyM := by
  intro ph S H xs dxs d S' Q s rx e post
  unfold anyM at e
  split at e
  · split at e
    · rename_i es he
      obtain ⟨x, rfl, r⟩ := rx.one
      obtain ⟨a, ys, rfl, h1, h2⟩ := itemsL_of s r he
      cases hb : bools es with
      | none => rw [hb] at e; cases e
      | some bs =>
        rw [hb] at e; cases e
        rw [bools_rep hb h2] at h1
        exact ⟨a, bs, rfl, .inl (.inl h1), post.now s rbl⟩
    · cases e
  · cases e
theorem c_all : CaM K (rAll K) allM := by
  intro ph S H xs dxs d S' Q s rx e post
  unfold allM at e
  split at e
  · split at e
    · rename_i es he
      obtain ⟨x, rfl, r⟩ := rx.one
      obtain ⟨a, ys, rfl, h1, h2⟩ := itemsL_of s r he
      cases hb : bools es with
      | none => rw [hb] at e; cases e
      | some bs =>
        rw [hb] at e; cases e
        rw [bools_rep hb h2] at h1
        exact ⟨a, bs, rfl, .inl (.inl h1), post.now s rbl⟩
    · cases e
  · cases e

/-! ### repr -/
def rRepr0 (K : PySem.W.Frag) : List V → Hp → VK → Prop := fun xs H Q => ∃ x d, xs = [x] ∧ Dp K H x d ∧ d.showable = true ∧ d.hasDict = false ∧ d.depth ≤ 100 ∧ d.shown.length ≤ sizeLine ∧ Q (.str d.shown) H
theorem cr_repr0 (hg : X.A.guards = some []) (hu : X.A.units + 200 < cLine) : CallR X (.builtin "repr") (rRepr0 X.K) := by
  intro pins s sg H xs us Q I r h
  obtain ⟨x, d, rfl, hd, hs, hn, hp, hz, q⟩ := h
  obtain ⟨u, rfl, ru⟩ := vals1 r
  obtain ⟨as, rd⟩ := Dp.reads I d x u hd ru
  have fin : ∀ h' t tk, (∀ b o, s.heap.get? b = some o → h'.get? b = some o) → EP X pins sg Q (.str d.shown t) { s with heap := h', toks := tk } := fun h' t tk k =>
    ⟨.str d.shown, H, I.kept k, ⟨t, rfl⟩, q⟩
  cases rd with
  | none => exact PySem.P.repr_of_none (by have := fin s.heap s.toks (s.toks + 1) (fun _ _ e => e); rw [PyData.shown] at this; exact this)
  | bool b => exact PySem.P.repr_of_bool (by have := fin s.heap s.toks (s.toks + 1) (fun _ _ e => e); rw [PyData.shown] at this; exact this)
  | int i t =>
    refine PySem.P.repr_of_int ?_ (by have := fin s.heap s.toks (s.toks + 1) (fun _ _ e => e); rw [PyData.shown] at this; exact this)
    rw [PyData.showable] at hs
    exact of_decide_eq_true hs
  | str y t => exact PySem.P.repr_of_str (by have := fin s.heap s.toks (s.toks + 1) (fun _ _ e => e); rw [PyData.shown] at this; exact this) (by rw [PyData.shown] at hz; exact hz)
  | list h1 h2 h3 h4 => exact repr_of_reads' (.list h1 h2 h3 h4) hs (by rw [hn]; intro z; cases z) hg (by omega) (fun _ _ e => e) fin hz
  | tuple h1 h2 h3 h4 => exact repr_of_reads' (.tuple h1 h2 h3 h4) hs (by rw [hn]; intro z; cases z) hg (by omega) (fun _ _ e => e) fin hz
  | dict h1 h2 h3 h4 h5 => rw [PyData.hasDict] at hn; cases hn
/-- what can be shown, and the empty dict -/
def rRepr (K : PySem.W.Frag) : List V → Hp → VK → Prop := fun xs H Q => rRepr0 K xs H Q ∨ ∃ a, xs = [.ref a] ∧ H a = some (.dK []) ∧ Q (.str (PyData.dict []).shown) H
theorem cr_repr (hg : X.A.guards = some []) (hu : X.A.units + 200 < cLine) : CallR X (.builtin "repr") (rRepr X.K) := by
  intro pins s sg H xs us Q I r h
  rcases h with h | ⟨a, rfl, ha, q⟩
  · exact cr_repr0 hg hu pins s sg H xs us Q I r h
  · obtain ⟨u, rfl, ru⟩ := vals1 r
    cases ru
    obtain ⟨_, hsm, vs, hkv, hd⟩ := dk_of I.hok ha
    cases hkv
    obtain ⟨o, es, ep, ho, hx, hdat, _, hp, _⟩ := hd
    have he : es.toList = [] := by
      have := hp.length
      exact List.eq_nil_of_length_eq_zero this
    refine repr_of_reads' (as := a :: [] ++ []) (.dict ho hx.1 hdat (by rw [he]; exact .nil) (by rw [he]; exact .nil)) rfl (fun _ z => ?_) hg (by show X.A.units + (1 + 1) < cLine; omega) (fun _ _ e => e) (fun h' t tk k => ⟨.str _, H, I.kept k, ⟨t, rfl⟩, q⟩) (by decide +kernel)
    have : a = sysModules := by simpa [eq_comm] using z
    rw [this] at hsm
    exact absurd hsm (by decide)
def dic0 : List D → Bool
  | [.dic [] []] => true
  | _ => false
def reprM0 (ds : List D) : M D := fun S => match ds with
  | [d] => match pds S d with
    | some p => if p.showable = true ∧ p.depth ≤ 100 ∧ p.shown.length ≤ lim then some (.str p.shown, S) else none
    | none => none
  | _ => none
def reprM (ds : List D) : M D := fun S => if dic0 ds then some (.str (PyData.dict []).shown, S) else reprM0 ds S
theorem c_repr0 : CaM K (rRepr0 K) reprM0 := by
  intro ph S H xs dxs d S' Q s rx e post
  unfold reprM0 at e
  split at e
  · split at e
    · rename_i p hp
      split at e
      · rename_i hc
        cases e
        obtain ⟨x, rfl, r⟩ := rx.one
        obtain ⟨h1, h2, h3⟩ := pds_of s r hp
        exact ⟨x, p, rfl, h1, hc.1, h3, hc.2.1, hc.2.2, post.now s rstr⟩
      · cases e
    · cases e
  · cases e
theorem c_repr : CaM K (rRepr K) reprM := by
  intro ph S H xs dxs d S' Q s rx e post
  unfold reprM at e
  split at e
  · rename_i hd
    cases e
    unfold dic0 at hd
    split at hd
    · obtain ⟨x, rfl, r⟩ := rx.one
      obtain ⟨a, kvs, rfl, h1, h2, h3⟩ := r.dicE
      cases kvs with
      | nil => exact .inr ⟨a, rfl, h1.1, post.now s rstr⟩
      | cons _ _ => cases h2
    · cases hd
  · exact .inl (c_repr0 _ _ _ _ _ _ _ _ s rx e post)

/-! ### sorted -/
open PySem.W in
theorem reads_lt {h : Heap} : ∀ {v : Value} {d : PyData} {as : List Addr}, Reads h v d as → ∀ a ∈ as, ∃ o, h.get? a = some o := by
  intro v d as r
  refine Reads.rec (motive_1 := fun v d as _ => ∀ a ∈ as, ∃ o, h.get? a = some o) (motive_2 := fun vs ds as _ => ∀ a ∈ as, ∃ o, h.get? a = some o) ?_ ?_ ?_ ?_ ?_ ?_ ?_ ?_ ?_ r
  · intro a ha; cases ha
  · intro b a ha; cases ha
  · intro i t a ha; cases ha
  · intro x t a ha; cases ha
  · intro a o vs n xs as h1 h2 h3 h4 ih b hb
    rcases List.mem_cons.mp hb with e | hb
    · rw [e]; exact ⟨o, h1⟩
    · exact ih b hb
  · intro a o vs n xs as h1 h2 h3 h4 ih b hb
    exact ih b hb
  · intro a o es n kvs as bs h1 h2 h3 h4 h5 ih1 ih2 b hb
    rcases List.mem_cons.mp hb with e | hb
    · rw [e]; exact ⟨o, h1⟩
    · rcases List.mem_append.mp hb with hb | hb
      · exact ih1 b hb
      · exact ih2 b hb
  · intro a ha; cases ha
  · intro v vs d ds as bs h1 h2 ih1 ih2 b hb
    rcases List.mem_append.mp hb with hb | hb
    · exact ih1 b hb
    · exact ih2 b hb
def sortBy {α : Type} (ps : List (α × PyData)) : List α := (ps.mergeSort (PySem.W.dataLe false (·.2))).map (·.1)
theorem eachIs_of {α : Type} (R : Value → α × PyData → Prop) : ∀ {vs : List Value} {xs : List α} {ps : List PyData}, vs.length = xs.length → xs.length = ps.length → (∀ (i : Nat) v x p, vs[i]? = some v → xs[i]? = some x → ps[i]? = some p → R v (x, p)) → PySem.W.EachIs R vs (xs.zip ps)
  | [], [], [], _, _, _ => .nil
  | v :: vs, x :: xs, p :: ps, h1, h2, k => .cons (k 0 v x p rfl rfl rfl) (eachIs_of R (by simpa using h1) (by simpa using h2) fun i v x p a b c => k (i + 1) v x p (by simpa using a) (by simpa using b) (by simpa using c))
  | [], _ :: _, _, h, _, _ => by simp at h
  | _ :: _, [], _, h, _, _ => by simp at h
  | [], [], _ :: _, _, h, _ => by simp at h
  | _ :: _, _ :: _, [], _, h, _ => by simp at h
theorem eachIs_vals {R : Value → V × PyData → Prop} (hR : ∀ v b, R v b → RelV b.1 v) : ∀ {vs : List Value} {bs : List (V × PyData)}, PySem.W.EachIs R vs bs → Vals (bs.map (·.1)) vs
  | _, _, .nil => .nil
  | _, _, .cons h t => .cons (hR _ _ h) (eachIs_vals hR t)
theorem readsAll_get {h : Heap} : ∀ {vs : List Value} {ps : List PyData} {as : List Addr}, ReadsAll h vs ps as → ∀ (i : Nat) v p, vs[i]? = some v → ps[i]? = some p → ∃ bs, Reads h v p bs
  | _, _, _, .nil, i, v, p, h1, _ => by simp at h1
  | _, _, _, .cons r rs, 0, v, p, h1, h2 => by
    simp at h1 h2
    subst h1; subst h2
    exact ⟨_, r⟩
  | _, _, _, .cons r rs, i + 1, v, p, h1, h2 => readsAll_get rs i v p (by simpa using h1) (by simpa using h2)
def rSortP (K : PySem.W.Frag) : List V → Hp → VK → Prop := fun vs H Q => ∃ (a : Addr) (xs : List V) (ps : List PyData), vs = [V.ref a] ∧ (SqT K H a xs ∨ SqL K H a xs) ∧ DpAll K H xs ps ∧ PySem.W.AllAlike ps ∧ PySem.W.Sortable ps ∧ (∀ p ∈ ps, p.depth ≤ 100) ∧
  ∀ p, H p = none → Q (.ref p) (upd H p (.lst (sortBy (xs.zip ps))))
theorem dpAll_len {xs : List V} {ps : List PyData} (h : DpAll K H xs ps) : xs.length = ps.length :=
  DpAll.rec (motive_1 := fun _ _ _ => True) (motive_2 := fun xs ps _ => xs.length = ps.length) trivial (fun _ => trivial) (fun _ => trivial) (fun _ => trivial) (fun _ _ _ => trivial) (fun _ _ _ => trivial) rfl (fun _ _ _ ih => by rw [List.length_cons, List.length_cons, ih]) h
theorem cr_sortP (hu : X.A.units + 200 < cLine) : CallR X (.builtin "sorted") (rSortP X.K) := by
  intro pins s sg H vs us Q I r h
  obtain ⟨a, xs, ps, rfl, hq, hd, hal, hk, hdep, q⟩ := h
  rw [Vals.ref1 r]
  -- the items, as they stand
  have it : ∃ (T : String) (o : Obj) (its : List Value) (n : Nat), (T = "list" ∨ T = "tuple") ∧ s.heap.get? a = some o ∧ o.cls = .type T ∧ o.data = .seq its.toArray n ∧ Vals xs its ∧ xs.length ≤ sizeLine := by
    rcases hq with hq | hq
    · obtain ⟨its, rv, ⟨o, ho, hc, n, hdt⟩, hz⟩ := I.tuple hq
      exact ⟨"tuple", o, its, n, .inr rfl, ho, hc, hdt, rv, hz⟩
    · obtain ⟨its, rv, pl, hz⟩ := I.list hq
      obtain ⟨o, ho, hc, n, hdt⟩ := pl.isList
      exact ⟨"list", o, its, n, .inl rfl, ho, hc, hdt, rv, hz⟩
  obtain ⟨T, o, its, n, hT, ho, hc, hdt, rv, hz⟩ := it
  obtain ⟨as, rds⟩ := Dp.readsAll I ps xs its hd rv
  have hlx : xs.length = ps.length := dpAll_len hd
  have hli : its.length = xs.length := rv.length.symm
  refine Calls.call_function_entry kind_sorted plain_sorted entry_sorted (args_sorted1 _) ?_
  unfold Builtin.«sorted»
  refine wpAny_bind (m := checkCount "sorted" 1 1 _) (wpAny_pure ?_)
  refine wpAny_bind (wpAny_collect_seq a hT ho hc hdt (fun h' k1 => ?_) (by rw [List.size_toArray]; omega))
  refine wpAny_bind (wpAny_newList ?_ (by simp only [List.toList_toArray]; omega))
  have e0 : (its.toArray).toList = its := by simp
  rw [e0]
  have hoL : (h'.push (seqObj "list" its.toArray 0)).get? h'.objs.size = some (seqObj "list" its.toArray 0) := Heap.get?_push_size _ rfl
  have k2 : ∀ b u, s.heap.get? b = some u → (h'.push (seqObj "list" its.toArray 0)).get? b = some u := fun b u e => Heap.get?_push_of_some _ (k1 b u e)
  have I1 : Inv X pins sg H { s with heap := h' } := I.kept (t' := s.toks) k1
  have hp : H h'.objs.size = none := I1.hok.fresh (Nat.le_refl _)
  have e : PySem.W.EachIs (fun v (b : V × PyData) => RelV b.1 v) its (xs.zip ps) := eachIs_of _ hli hlx fun i v x p h1 h2 _ => by
    obtain ⟨u, hu', ru⟩ := rv.get h2
    rw [h1] at hu'; cases hu'
    exact ru
  have er : PySem.W.EachIs (fun v (b : V × PyData) => ∃ as, Reads (h'.push (seqObj "list" its.toArray 0)) v b.2 as ∧ h'.objs.size ∉ as) its (xs.zip ps) := eachIs_of _ hli hlx fun i v x p h1 _ h3 => by
    obtain ⟨bs, hb⟩ := readsAll_get rds i v p h1 h3
    refine ⟨bs, PyProof.Rows.Reads.keeps k2 hb, fun hm => ?_⟩
    obtain ⟨u, hu'⟩ := reads_lt hb _ hm
    exact absurd (Heap.lt_size (k1 _ _ hu')) (Nat.lt_irrefl _)
  have emap : (xs.zip ps).map (·.2) = ps := List.map_snd_zip (by omega)
  have hzl : (xs.zip ps).length = xs.length := by rw [List.length_zip]; omega
  refine wpAny_bind (wpAny_holding (PySem.W.list_sort_data (s := { s with heap := h'.push (seqObj "list" its.toArray 0) }) (enc := fun b : V × PyData => b.2) (R := fun v (b : V × PyData) => RelV b.1 v) hoL e er (by rw [emap]; exact hal) (by rw [emap]; exact hk) (by omega) (fun b hb => ?_) fun out hlen hout => ?_))
  · have hb2 : b.2 ∈ ps := (List.of_mem_zip (a := b.1) (b := b.2) hb).2
    have := hdep _ hb2
    show X.A.units + 1 + 1 + _ < cLine
    omega
  · obtain ⟨c, hc'⟩ := sortedHeap_at (vs := its) (out := out.toArray) hoL
    have hv : Vals (sortBy (xs.zip ps)) out := by
      have := eachIs_vals (fun v b hb => hb) hout
      exact this
    have k3 : ∀ b u, h'.get? b = some u → (sortedHeap (h'.push (seqObj "list" its.toArray 0)) h'.objs.size its out.toArray).get? b = some u := fun b u eb => by
      have hlt := Heap.lt_size eb
      rw [sortedHeap_old (Nat.ne_of_lt hlt) (by rw [size_push']; exact Nat.lt_succ_of_lt hlt)]
      exact Heap.get?_push_of_some _ eb
    refine wpAny_pure ⟨_, rfl, .ref h'.objs.size, upd H h'.objs.size (.lst (sortBy (xs.zip ps))), I1.laid (t' := s.toks) k3 (Nat.le_refl _) ⟨?_, out, c, hv, hc'⟩, rfl, q _ hp⟩
    have : (sortBy (xs.zip ps)).length = out.length := hv.length
    omega
end
end Mn

set_option maxRecDepth 100000
set_option maxHeartbeats 3200000
/-! Mn: sorted(set(a list)). -/
namespace Mn
open PySem PySem.Spec PyProof.Rows L2
section
variable {P : Program} {w : World} {A : Around} {E : Value → Shared → Prop} {s : Shared}
/-- the set that set(..) begins with -/
abbrev noSet (w : World) : Obj := { cls := .type "set", dict := none, data := .set #[] 0 (.fresh 0 0 (!w.params.followText "set-order")) }
/-- set(l) of a list: what is made of the items is told by the update's loop alone -/
theorem set_of_list {l : Addr} {items : Array Value} {Z : Heap → Nat → Prop} {Q : Value → Shared → Prop} (hl : s.heap.IsList l items)
    (loop : ∀ R : Result → Shared → Prop, (∀ h' tk, Z h' tk → R (.ok (.ret .none)) { s with heap := h', toks := tk }) →
      codeAny (model P w) A.in1.in1 (.builtin "set.update.loop" ⟨[.ref s.heap.objs.size, .ref (s.heap.push (noSet w)).objs.size], []⟩) R
        { s with heap := (s.heap.push (noSet w)).push { cls := .type "list_iterator", data := .fields #[.ref l, .int 0 0] } })
    (h : ∀ h' tk, Z h' tk → Q (.ref s.heap.objs.size) { s with heap := h', toks := tk }) : wpAny (model P w) A (call (.type "set") [.ref l]) Q E s := by
  obtain ⟨c, tl, hmro⟩ := PySem.F.called_set.mro
  have made := PySem.F.called_set.made
  have sub := PySem.F.called_set.sub
  have nt := PySem.F.called_set.notType
  have cc := PySem.F.called_set.canCreate
  have tc := PySem.F.typeCall_set_1 (.ref l)
  refine wpAny_call (codeAny_of_tree ?_)
  show wpAny _ _ (callAny (.type "set") _) _ _ _
  refine wpAny_pure ⟨Code.quiet_builtin _ (by decide +kernel), codeAny_builtin PySem.F.entry_type_call ?_⟩
  rw [Around.under_plain (weight_type_call_type "set" [.ref l] []) rfl]
  repeat (any_goals (first | assumption | wp_step))
  refine codeAny_mono (code_set_led1 (.ref l) (E := E) (Q₁ := fun o t => o = .ref s.heap.objs.size ∧ t = { s with heap := s.heap.push (noSet w) }) ⟨rfl, rfl⟩) fun r t hr => ?_
  cases r with
  | error e => exact hr
  | ok fl =>
    cases fl with
    | next => exact hr.elim
    | brk => exact hr.elim
    | cont => exact hr.elim
    | ret o =>
      obtain ⟨rfl, rfl⟩ := hr
      have hS : (s.heap.push (noSet w)).get? s.heap.objs.size = some (noSet w) := Heap.get?_push_size _ rfl
      have hT : Shared.TypeIs { s with heap := s.heap.push (noSet w) } (.ref s.heap.objs.size) "set" := ⟨_, hS, rfl⟩
      have il := PySem.F.called_set.init.lookup
      have ib := PySem.F.called_set.init.bind (.ref s.heap.objs.size)
      repeat (any_goals (first | assumption | wp_step))
      refine codeAny_mono (codeAny_call_builtin (R := wants (fun r t => r = .none ∧ ∃ h' tk, t = { s with heap := h', toks := tk } ∧ Z h' tk) E) PySem.F.called_set.init.plain PySem.F.entry_set_init (check_set_init_1 hT ?_)) fun r2 t2 hr2 => ?_
      · obtain ⟨ol, hol, hcl, nl, hdl⟩ := hl
        obtain ⟨ocls, odict, odata, oslots⟩ := ol
        simp only at hcl hdl
        subst hcl; subst hdl
        have hol2 : (s.heap.push (noSet w)).get? l = some { cls := .type "list", dict := odict, data := .seq items nl, slots := oslots } := Heap.get?_push_of_some _ hol
        have s1 := PySem.F.sub_list_set
        have s2 := PySem.F.sub_list_frozenset
        have ne : (Value.type "list" == Value.type "dict") = false := by decide
        have hl2 : (s.heap.push (noSet w)).IsList l items := ⟨_, hol2, rfl, nl, rfl⟩
        unfold Builtin.«set.__init__» noKeywords Builtin.Frozenset.updateFrom
        generalize hPI : pyIter = PI
        wp_walk
        subst hPI
        refine wpAny_pyIter_list hl2 (wpAny_bind (wpAny_runValue ?_))
        refine loop _ fun h' tk z => ?_
        show wpAny _ _ _ _ _ _
        refine wpAny_pure ?_
        show wpAny _ _ (PySem.ret Value.none) _ _ _
        exact wpAny_pure ⟨rfl, h', tk, rfl, z⟩
      · cases r2 with
        | error e => exact hr2
        | ok fl2 =>
          cases fl2 with
          | next => exact hr2.elim
          | brk => exact hr2.elim
          | cont => exact hr2.elim
          | ret r =>
            obtain ⟨rfl, h', tk, rfl, z⟩ := hr2
            repeat (any_goals (first | assumption | wp_step))
            exact h _ _ z
end
end Mn

set_option maxRecDepth 100000
set_option maxHeartbeats 1000000
/-! Mn: sorted(set(a list)), of ints, of tuples of ints. -/
namespace Mn
open PySem PySem.Spec PyProof.Rows L2
section
variable {P : Program} {w : World} {A : Around} {E : Value → Shared → Prop} {s : Shared}
theorem set_ints {l : Addr} {items : Array Value} (ns : List Int) {Q : Value → Shared → Prop} (hh : A.handled = none) (hl : s.heap.IsList l items) (hi : IntsAre items.toList ns) (hb : ns.length + 1 < scanBound)
    (h : ∀ (h' : Heap) (tk c : Nat), SetR w h' s.heap.objs.size (fun j => decide (j ∈ ns)) c → c ≤ ns.length → (∀ b o, s.heap.get? b = some o → h'.get? b = some o) → Q (.ref s.heap.objs.size) { s with heap := h', toks := tk }) :
    wpAny (model P w) A (call (.type "set") [.ref l]) Q E s := by
  have hsz : items.size = ns.length := by
    have := hi.length
    rwa [Array.length_toList] at this
  have hlS : l < s.heap.objs.size := by
    obtain ⟨o, ho, _⟩ := hl
    exact Heap.lt_size ho
  have hz : (s.heap.push (noSet w)).objs.size = s.heap.objs.size + 1 := Heap.size_push ..
  refine set_of_list (Z := fun h' tk => ∃ c, SetR w h' s.heap.objs.size (fun j => decide (j ∈ ns)) c ∧ c ≤ ns.length ∧ ∀ b o, s.heap.get? b = some o → h'.get? b = some o) hl (fun R hR => ?_) fun h' tk ⟨c, z1, z2, z3⟩ => h h' tk c z1 z2 z3
  have hS : (s.heap.push (noSet w)).get? s.heap.objs.size = some (noSet w) := Heap.get?_push_size _ rfl
  have hne : l ≠ (s.heap.push (noSet w)).objs.size := by rw [hz]; exact Nat.ne_of_lt (Nat.lt_succ_of_lt hlS)
  have hSf : s.heap.objs.size ∉ [(s.heap.push (noSet w)).objs.size, l] := by
    rw [hz]
    intro hm
    rcases List.mem_cons.mp hm with e | hm
    · exact absurd e (Nat.ne_of_lt (Nat.lt_succ_self _))
    · exact absurd (List.mem_singleton.mp hm) (Nat.ne_of_gt hlS)
  have hv : ∀ (i : Nat) (v : Value), items[i]? = some v → ∃ k t, ns[i]? = some k ∧ v = .int k t := fun i v e => by
    have hlt : i < ns.length := by rw [← hsz]; exact (Array.getElem?_eq_some_iff.mp e).1
    obtain ⟨t, e2⟩ := IntsAre.int_at hi i v (by rw [Array.getElem?_toList]; exact e)
    refine ⟨ns[i], t, List.getElem?_eq_getElem hlt, ?_⟩
    rw [e2, List.getD_eq_getElem?_getD, List.getElem?_eq_getElem hlt]; rfl
  have hh3 : A.in1.in1.in1.handled = none := hh
  have hl2 : (s.heap.push (noSet w)).IsList l items := by
    obtain ⟨o, ho, r⟩ := hl
    exact ⟨o, Heap.get?_push_of_some _ ho, r⟩
  refine set_update_ints ((Walks.list hh3 _ l hne items).toS) s.heap.objs.size hSf ns hsz hb hv (items.size - 0) 0 _ (by omega) (Nat.zero_le _) ⟨⟨_, Heap.get?_push_size _ rfl, rfl, rfl⟩, ?_⟩ ⟨0, Nat.le_refl 0, setR_new_at (Heap.get?_push_of_some _ hS)⟩ fun s' c hm hc hS' => ?_
  · obtain ⟨o, ho, r⟩ := hl2
    exact ⟨o, Heap.get?_push_of_some _ ho, r⟩
  · obtain ⟨h', g2, d', tk', os'⟩ := s'
    have eg : g2 = s.gens := hm.gens
    have ed : d' = s.drawn := hm.drawn
    have eo : os' = s.os := hm.os
    subst eg; subst ed; subst eo
    refine hR h' tk' ⟨c, hS', by rw [← hsz]; exact hc, fun b o e => ?_⟩
    have hb0 : b < s.heap.objs.size := Heap.lt_size e
    refine hm.heap b o (fun hx => ?_) (Heap.get?_push_of_some _ (Heap.get?_push_of_some _ e))
    rcases List.mem_cons.mp hx with q | hx
    · exact absurd q (Nat.ne_of_lt hb0)
    · have q := List.mem_singleton.mp hx
      rw [hz] at q
      exact absurd q (Nat.ne_of_lt (Nat.lt_succ_of_lt hb0))
end
section
variable {X : Cx} {K : PySem.W.Frag}
def rSetI (K : PySem.W.Frag) (w : World) : List V → Hp → VK → Prop := fun xs H Q => ∃ (l : Addr) (ns : List Int), xs = [V.ref l] ∧ SqL K H l (ns.map V.int) ∧ ns.length < 64 ∧ ∀ a c, H a = none → c < 64 → Q (.ref a) (upd H a (SetO w a (fun j => decide (j ∈ ns)) c))
theorem cr_setI (hc : X.calm = true) : CallR X (.type "set") (rSetI X.K X.w) := by
  intro pins s sg H xs us Q I r h
  obtain ⟨l, ns, rfl, hl, hf, q⟩ := h
  rw [Vals.ref1 r]
  obtain ⟨its, rv, pl, hz⟩ := I.list hl
  refine set_ints ns (I.ok.hd hc) pl.isList (by simpa using rv.ints) (by unfold scanBound; omega) fun h' tk c R hcn k => ?_
  exact ⟨.ref s.heap.objs.size, upd H s.heap.objs.size (SetO X.w s.heap.objs.size (fun j => decide (j ∈ ns)) c), I.laid (t' := tk) k (Nat.le_refl _) (setO_new R), rfl, q _ c (I.hok.fresh (Nat.le_refl _)) (by omega)⟩

/-! ### rows -/
def rowP (r : List Int) : PyData := .tuple (r.map .int)
def rowLe (x y : List Int) : Bool := PySem.W.dataLe false rowP x y
theorem rowLe_iff (x y : List Int) : rowLe x y = decide (x ≤ y) := by
  have h := PySem.W.dataLt_ints y x
  have e : PySem.W.dataLt (rowP y) (rowP x) = decide (y < x) := by
    unfold rowP PySem.W.dataLt
    rw [PySem.W.keyToks, PySem.W.keyToks]
    exact h
  unfold rowLe
  rw [PySem.W.dataLe_eq]
  show (!PySem.W.dataLt (rowP y) (rowP x)) = _
  rw [e]
  by_cases hx : y < x
  · have : ¬ x ≤ y := fun q => q hx
    simp [hx, this]
  · have : x ≤ y := hx
    simp [hx, this]
theorem rowLe_tr (a b c : List Int) (h1 : rowLe a b = true) (h2 : rowLe b c = true) : rowLe a c = true := by
  rw [rowLe_iff, decide_eq_true_eq] at *
  exact List.le_trans h1 h2
theorem rowLe_tot (a b : List Int) : (rowLe a b || rowLe b a) = true := by
  rw [rowLe_iff, rowLe_iff, Bool.or_eq_true, decide_eq_true_eq, decide_eq_true_eq]
  exact List.le_total a b
theorem rowLe_anti (a b : List Int) (h1 : rowLe a b = true) (h2 : rowLe b a = true) : a = b := by
  rw [rowLe_iff, decide_eq_true_eq] at h1 h2
  exact List.le_antisymm h1 h2
def sortRows (l : List (List Int)) : List (List Int) := l.mergeSort rowLe
theorem sortRows_perm (l : List (List Int)) : (sortRows l).Perm l := List.mergeSort_perm _ _
theorem sortRows_pw (l : List (List Int)) : (sortRows l).Pairwise (fun a b => rowLe a b = true) := List.pairwise_mergeSort rowLe_tr rowLe_tot l
theorem rows_one {l m : List (List Int)} (h1 : l.Pairwise (fun a b => rowLe a b = true)) (h2 : m.Pairwise (fun a b => rowLe a b = true)) (p : l.Perm m) : l = m :=
  List.Perm.eq_of_pairwise (fun a b _ _ => rowLe_anti a b) h1 h2 p
def dedup {α : Type} [DecidableEq α] : List α → List α
  | [] => []
  | x :: r => if x ∈ r then dedup r else x :: dedup r
theorem mem_dedup {α : Type} [DecidableEq α] {x : α} : ∀ {l : List α}, x ∈ dedup l ↔ x ∈ l
  | [] => Iff.rfl
  | y :: r => by
    unfold dedup
    split
    · rw [mem_dedup, List.mem_cons]
      constructor
      · exact .inr
      · rintro (rfl | h)
        · assumption
        · exact h
    · rw [List.mem_cons, List.mem_cons, mem_dedup]
theorem nodup_dedup {α : Type} [DecidableEq α] : ∀ l : List α, (dedup l).Nodup
  | [] => List.Pairwise.nil
  | y :: r => by
    unfold dedup
    split
    · exact nodup_dedup r
    · rename_i h
      exact List.nodup_cons.mpr ⟨fun q => h (mem_dedup.mp q), nodup_dedup r⟩
theorem nodup_perm {α : Type} [DecidableEq α] {l m : List α} (h1 : l.Nodup) (h2 : m.Nodup) (h : ∀ x, x ∈ l ↔ x ∈ m) : l.Perm m := (List.perm_ext_iff_of_nodup h1 h2).mpr h
/-- sorted(set), of rows of ints -/
def rSortTS (K : PySem.W.Frag) (P : Program) (w : World) : List V → Hp → VK → Prop := fun vs H Q => ∃ (a : Addr) (L : List (Addr × List Int)), vs = [V.ref a] ∧ H a = some (SetTO P w a L) ∧ (∀ p ∈ L, SqT K H p.1 (p.2.map V.int)) ∧ (∀ p ∈ L, p.2 ≠ []) ∧
  ∀ (L' : List (Addr × List Int)) (p : Addr), L'.Perm L → (L.map (·.2)).Nodup → L'.Pairwise (fun q r => rowLe q.2 r.2 = true) → H p = none → Q (.ref p) (upd H p (.lst (L'.map fun q => V.ref q.1)))
theorem refs_perm {L : List (Addr × List Int)} : ∀ {vs : List Value}, vs.Perm (L.map fun q => Value.ref q.1) → ∃ L1 : List (Addr × List Int), vs = L1.map (fun q => Value.ref q.1) ∧ L1.Perm L := by
  intro vs h
  generalize hm : L.map (fun q => Value.ref q.1) = m at h
  induction h generalizing L with
  | nil =>
    cases L with
    | nil => exact ⟨[], rfl, .refl _⟩
    | cons q L => cases hm
  | cons x _ ih =>
    cases L with
    | nil => cases hm
    | cons q L =>
      rw [List.map_cons] at hm
      injection hm with e1 e2
      obtain ⟨L1, h1, h2⟩ := ih e2
      exact ⟨q :: L1, by rw [h1, ← e1]; rfl, h2.cons q⟩
  | swap x y l =>
    match L, hm with
    | q :: r :: L, hm =>
      rw [List.map_cons, List.map_cons] at hm
      injection hm with e1 e2
      injection e2 with e3 e4
      exact ⟨r :: q :: L, by rw [← e1, ← e3, ← e4]; rfl, List.Perm.swap q r L⟩
  | trans _ _ ih1 ih2 =>
    obtain ⟨L2, h1, h2⟩ := ih2 hm
    obtain ⟨L1, h3, h4⟩ := ih1 h1.symm
    exact ⟨L1, h3, h4.trans h2⟩
theorem cr_sortTS (hc : X.calm = true) (hu : X.A.units + 200 < cLine) : CallR X (.builtin "sorted") (rSortTS X.K X.prog X.w) := by
  intro pins s sg H vs us Q I r h
  obtain ⟨a, L, rfl, ha, hk, hne, q⟩ := h
  have R0 : SetT0 X.prog X.w s.heap a L := (I.hok a _ ha).1
  obtain ⟨es, ep, t, R⟩ := R0.full fun p hp => I.isT (hk p hp)
  rw [Vals.ref1 r]
  obtain ⟨o, ho, hex, hd⟩ := R.ob
  have hsz := R.size
  have few := R.few
  refine Calls.call_function_entry kind_sorted plain_sorted entry_sorted (args_sorted1 _) ?_
  unfold Builtin.«sorted»
  refine wpAny_bind (m := checkCount "sorted" 1 1 _) (wpAny_pure ?_)
  refine wpAny_bind (collect_set (A := X.A.in1) (I.ok.hd hc) ⟨o, ho, hex.1, hd⟩ R.fits (by unfold scanBound; omega) R.tab.ris R.led fun s1 vs k1 z1 g1 o1 pm => ?_)
  have hes : es.toList.map (·.2) = L.map fun q => Value.ref q.1 := by
    rw [R.rows]; unfold rowsOf; rw [List.map_map]; rfl
  rw [hes] at pm
  obtain ⟨L1, rfl, p1⟩ := refs_perm pm
  have hl1 : L1.length < 64 := by rw [p1.length_eq]; exact few
  refine wpAny_bind (wpAny_newList ?_ (by rw [List.length_map, sizeLine_eq]; omega))
  have hoL : (s1.heap.push (seqObj "list" (L1.map fun q => Value.ref q.1).toArray 0)).get? s1.heap.objs.size = some (seqObj "list" (L1.map fun q => Value.ref q.1).toArray 0) := Heap.get?_push_size _ rfl
  have rd : ∀ p ∈ L1, ∃ bs, Reads s.heap (.ref p.1) (rowP p.2) bs := fun p hp => by
    obtain ⟨o2, its, n2, h1, h2, h3, h4⟩ := R.tup p (p1.mem_iff.mp hp)
    have hi := ints_of_items h4
    have : ∃ bs, ReadsAll s.heap its.toList (p.2.map PyData.int) bs := by
      clear h4 h3
      generalize its.toList = vs at hi
      generalize p.2 = k at hi
      induction hi with
      | nil => exact ⟨_, .nil⟩
      | cons n t _ ih => obtain ⟨bs, hb⟩ := ih; exact ⟨_, .cons (.int n t) hb⟩
    obtain ⟨bs, hb⟩ := this
    exact ⟨bs, .tuple h1 h2 h3 hb⟩
  have e : PySem.W.EachIs (fun v (b : Addr × List Int) => v = Value.ref b.1) (L1.map fun q => Value.ref q.1) L1 := by
    clear rd hoL hl1 p1 pm
    induction L1 with
    | nil => exact .nil
    | cons b L1 ih => exact .cons rfl ih
  have er : PySem.W.EachIs (fun v (b : Addr × List Int) => ∃ as, Reads (s1.heap.push (seqObj "list" (L1.map fun q => Value.ref q.1).toArray 0)) v (rowP b.2) as ∧ s1.heap.objs.size ∉ as) (L1.map fun q => Value.ref q.1) L1 := by
    have key : ∀ M : List (Addr × List Int), (∀ p ∈ M, p ∈ L1) → PySem.W.EachIs (fun v (b : Addr × List Int) => ∃ as, Reads (s1.heap.push (seqObj "list" (L1.map fun q => Value.ref q.1).toArray 0)) v (rowP b.2) as ∧ s1.heap.objs.size ∉ as) (M.map fun q => Value.ref q.1) M := by
      intro M
      induction M with
      | nil => intro _; exact .nil
      | cons b M ih =>
        intro hs
        refine .cons ?_ (ih fun p hp => hs p (List.mem_cons_of_mem _ hp))
        obtain ⟨bs, hb⟩ := rd b (hs b List.mem_cons_self)
        refine ⟨bs, PyProof.Rows.Reads.keeps (fun c u eu => Heap.get?_push_of_some _ (k1 c u eu)) hb, fun hm => ?_⟩
        obtain ⟨u, hu'⟩ := reads_lt hb _ hm
        exact absurd (Heap.lt_size (k1 _ _ hu')) (Nat.lt_irrefl _)
    exact key L1 fun _ h => h
  have hal : PySem.W.AllAlike (L1.map fun b => rowP b.2) := PySem.W.AllAlike.of fun b b' => by
    show PySem.W.alike (rowP b.2) (rowP b'.2) = true
    unfold rowP
    rw [PySem.W.alike]
    exact PySem.W.alike_ints _ _
  have hsr : PySem.W.Sortable (L1.map fun b => rowP b.2) := .inl fun d hd => by
    obtain ⟨b, hb, rfl⟩ := List.mem_map.mp hd
    have nb := hne b (p1.mem_iff.mp hb)
    cases hb2 : b.2 with
    | nil => exact absurd hb2 nb
    | cons x r => exact ⟨.int x, r.map .int, by unfold rowP; rfl⟩
  refine wpAny_bind (wpAny_holding (PySem.W.list_sort_data (s := { s1 with heap := s1.heap.push (seqObj "list" (L1.map fun q => Value.ref q.1).toArray 0) }) (enc := fun b : Addr × List Int => rowP b.2) (R := fun v (b : Addr × List Int) => v = Value.ref b.1) hoL e er hal hsr (by rw [sizeLine_eq]; omega) (fun b hb => ?_) fun out hlen hout => ?_))
  · show X.A.units + 1 + 1 + PyData.depth (rowP b.2) < cLine
    have : PyData.depth (rowP b.2) = 1 := by unfold rowP; rw [PyData.depth, PySem.W.depth_ints]
    omega
  · obtain ⟨c, hc'⟩ := sortedHeap_at (vs := L1.map fun q => Value.ref q.1) (out := out.toArray) hoL
    have hout2 : out = (L1.mergeSort (PySem.W.dataLe false fun b : Addr × List Int => rowP b.2)).map fun q => Value.ref q.1 := by
      clear hc' hlen
      generalize L1.mergeSort (PySem.W.dataLe false fun b : Addr × List Int => rowP b.2) = M at hout
      induction hout with
      | nil => rfl
      | cons h _ ih => rw [h, ih]; rfl
    have pL : (L1.mergeSort (PySem.W.dataLe false fun b : Addr × List Int => rowP b.2)).Perm L := (List.mergeSort_perm _ _).trans p1
    have pw : (L1.mergeSort (PySem.W.dataLe false fun b : Addr × List Int => rowP b.2)).Pairwise (fun q r => rowLe q.2 r.2 = true) :=
      List.pairwise_mergeSort (le := PySem.W.dataLe false fun b : Addr × List Int => rowP b.2) (fun a b c h1 h2 => rowLe_tr a.2 b.2 c.2 h1 h2) (fun a b => rowLe_tot a.2 b.2) L1
    generalize L1.mergeSort (PySem.W.dataLe false fun b : Addr × List Int => rowP b.2) = M at hout2 pL pw
    have hn : H s1.heap.objs.size = none := I.hok.fresh z1
    have k3 : ∀ b u, s.heap.get? b = some u → (sortedHeap (s1.heap.push (seqObj "list" (L1.map fun q => Value.ref q.1).toArray 0)) s1.heap.objs.size (L1.map fun q => Value.ref q.1) out.toArray).get? b = some u := fun b u eb => by
      have q := k1 b u eb
      have hlt := Heap.lt_size q
      rw [sortedHeap_old (Nat.ne_of_lt hlt) (by rw [size_push']; exact Nat.lt_succ_of_lt hlt)]
      exact Heap.get?_push_of_some _ q
    have hlM : (M.map fun q => V.ref q.1).length ≤ sizeLine := by rw [List.length_map, pL.length_eq, sizeLine_eq]; omega
    have hv : Vals (M.map fun q => V.ref q.1) out := by rw [hout2]; exact vals_of_refs M
    have J : Inv X pins sg (upd H s1.heap.objs.size (.lst (M.map fun q => V.ref q.1))) { s with heap := sortedHeap (s1.heap.push (seqObj "list" (L1.map fun q => Value.ref q.1).toArray 0)) s1.heap.objs.size (L1.map fun q => Value.ref q.1) out.toArray, gens := s1.gens, drawn := s1.drawn, toks := s1.toks } :=
      I.call (ch := []) (Un.laid k3 z1 hn) (I.hok.laid k3 z1 ⟨hlM, out, c, hv, hc'⟩) (by rw [g1]; exact I.bare) (fun _ z => nomatch z)
    refine wpAny_pure ⟨_, rfl, ?_⟩
    have es1 : s1.os = s.os := o1
    refine ⟨.ref s1.heap.objs.size, _, ?_, rfl, q M s1.heap.objs.size pL R.nd pw hn⟩
    rw [← es1] at J
    exact J
end
end Mn

set_option maxRecDepth 100000
set_option maxHeartbeats 1000000
/-! Mn: sorted(x), sorted(set(x)) over data. -/
namespace Mn
open PySem PySem.Spec PyProof.Rows L2
section
variable {K : PySem.W.Frag} {ph : Ph} {S : Sto} {H : Hp} {X : Cx}
theorem RepL.maps {α : Type} {f : α → D} {g : α → V} : ∀ {l : List α}, (∀ x ∈ l, Rep K ph S H (f x) (g x)) → RepL K ph S H (l.map f) (l.map g)
  | [], _ => .nil
  | x :: l, h => .cons (h x List.mem_cons_self) (RepL.maps fun y hy => h y (List.mem_cons_of_mem _ hy))
theorem RepL.zip {ds : List D} {xs : List V} (h : RepL K ph S H ds xs) : ∀ p ∈ ds.zip xs, Rep K ph S H p.1 p.2 := by
  induction ds generalizing xs with
  | nil => intro p hp; simp at hp
  | cons d ds ih =>
    obtain ⟨x, r, rfl, h1, h2⟩ := h.cons_inv
    intro p hp
    rw [List.zip_cons_cons] at hp
    rcases List.mem_cons.mp hp with rfl | hp
    · exact h1
    · exact ih h2 p hp
theorem sortBy_rep {ds : List D} {xs : List V} {ps : List PyData} (h : RepL K ph S H ds xs) (hl : xs.length = ps.length) : RepL K ph S H (sortBy (ds.zip ps)) (sortBy (xs.zip ps)) := by
  have hd : ds.length = xs.length := h.len.symm
  let T : List ((D × V) × PyData) := (ds.zip xs).zip ps
  have e1 : T.map (fun t => (t.1.1, t.2)) = ds.zip ps := by
    show ((ds.zip xs).zip ps).map (fun t => (t.1.1, t.2)) = ds.zip ps
    have : (fun t : (D × V) × PyData => (t.1.1, t.2)) = Prod.map Prod.fst id := rfl
    rw [this, ← List.zip_map, List.map_fst_zip (by omega), List.map_id]
  have e2 : T.map (fun t => (t.1.2, t.2)) = xs.zip ps := by
    show ((ds.zip xs).zip ps).map (fun t => (t.1.2, t.2)) = xs.zip ps
    have : (fun t : (D × V) × PyData => (t.1.2, t.2)) = Prod.map Prod.snd id := rfl
    rw [this, ← List.zip_map, List.map_snd_zip (by omega), List.map_id]
  have k1 : sortBy (ds.zip ps) = (T.mergeSort (PySem.W.dataLe false (·.2))).map (fun t => t.1.1) := by
    unfold sortBy
    rw [← e1, ← List.map_mergeSort (l := T) (f := fun t : (D × V) × PyData => (t.1.1, t.2)) (r := PySem.W.dataLe false (fun t : (D × V) × PyData => t.2)) (fun a _ b _ => rfl), List.map_map]; rfl
  have k2 : sortBy (xs.zip ps) = (T.mergeSort (PySem.W.dataLe false (·.2))).map (fun t => t.1.2) := by
    unfold sortBy
    rw [← e2, ← List.map_mergeSort (l := T) (f := fun t : (D × V) × PyData => (t.1.2, t.2)) (r := PySem.W.dataLe false (fun t : (D × V) × PyData => t.2)) (fun a _ b _ => rfl), List.map_map]; rfl
  rw [k1, k2]
  refine RepL.maps fun t ht => ?_
  have ht2 : t ∈ (ds.zip xs).zip ps := (List.mergeSort_perm _ _).mem_iff.mp ht
  exact h.zip t.1 (List.of_mem_zip (a := t.1) (b := t.2) ht2).1
def alikeB (ps : List PyData) : Bool := ps.all fun p => ps.all fun q => PySem.W.alike p q
def sortB (ps : List PyData) : Bool := (ps.all fun p => match p with | .tuple (_ :: _) => true | _ => false) || (ps.all fun p => match p with | .none => false | .tuple _ => false | _ => true)
theorem alikeB_of {ps : List PyData} (h : alikeB ps = true) : PySem.W.AllAlike ps := fun d hd d' hd' => List.all_eq_true.mp (List.all_eq_true.mp h d hd) d' hd'
theorem sortB_of {ps : List PyData} (h : sortB ps = true) : PySem.W.Sortable ps := by
  unfold sortB at h
  rw [Bool.or_eq_true] at h
  rcases h with h | h
  · refine .inl fun d hd => ?_
    have := List.all_eq_true.mp h d hd
    split at this
    · exact ⟨_, _, rfl⟩
    · cases this
  · refine .inr fun d hd => ?_
    have := List.all_eq_true.mp h d hd
    split at this
    · cases this
    · cases this
    · rename_i h1 h2
      exact ⟨h1, h2⟩
def sortL (es : List D) : Option (List D) := match pdL es with
  | some ps => if alikeB ps && sortB ps && ps.all (fun p => decide (p.depth ≤ 100)) then some (sortBy (es.zip ps)) else none
  | none => none
def sortM (ds : List D) : M D := fun S => match ds with
  | [d] => match items d S with
    | some es => (sortL es).map fun r => (.lst r, S)
    | none => none
  | _ => none
def sortN (ds : List D) : M D := fun S => match ds with
  | [d] => match items d S with
    | some es => (sortL es).map fun r => (.ref S.nx, S.new (.lst r))
    | none => none
  | _ => none
theorem c_sort : CaM K (rSortP K) sortM := by
  intro ph S H xs dxs d S' Q s rx e post
  unfold sortM at e
  split at e
  · split at e
    · rename_i es he
      obtain ⟨x, rfl, r⟩ := rx.one
      obtain ⟨a, ys, rfl, h1, h2⟩ := items_of s r he
      unfold sortL at e
      split at e
      · rename_i ps hps
        split at e
        · rename_i hc
          cases e
          simp only [Bool.and_eq_true] at hc
          have dp := dps_of es ys ps h2 hps
          refine ⟨a, ys, ps, rfl, h1, dp, alikeB_of hc.1.1, sortB_of hc.1.2, fun p hp => of_decide_eq_true (List.all_eq_true.mp hc.2 p hp), fun p hp => new_lst s (sortBy_rep h2 (dpAll_len dp)) post hp⟩
        · cases e
      · cases e
    · cases e
  · cases e
theorem c_sortN : CaM K (rSortP K) sortN := by
  intro ph S H xs dxs d S' Q s rx e post
  unfold sortN at e
  split at e
  · split at e
    · rename_i es he
      obtain ⟨x, rfl, r⟩ := rx.one
      obtain ⟨a, ys, rfl, h1, h2⟩ := items_of s r he
      unfold sortL at e
      split at e
      · rename_i ps hps
        split at e
        · rename_i hc
          cases e
          simp only [Bool.and_eq_true] at hc
          have dp := dps_of es ys ps h2 hps
          refine ⟨a, ys, ps, rfl, h1, dp, alikeB_of hc.1.1, sortB_of hc.1.2, fun p hp => of_decide_eq_true (List.all_eq_true.mp hc.2 p hp), fun p hp => new_ref s (sortBy_rep h2 (dpAll_len dp)) post hp⟩
        · cases e
      · cases e
    · cases e
  · cases e

/-! ### sorted(set(..)) -/
def intsD : List D → Option (List Int)
  | [] => some []
  | .int i :: r => (intsD r).map (i :: ·)
  | _ => none
def rowsD : List D → Option (List (List Int))
  | [] => some []
  | .tup es :: r => match intsD es, rowsD r with
    | some k, some ks => some (k :: ks)
    | _, _ => none
  | _ => none
theorem intsD_map : ∀ ns : List Int, intsD (ns.map D.int) = some ns
  | [] => rfl
  | n :: ns => by rw [List.map_cons, intsD, intsD_map ns]; rfl
theorem intsD_inv : ∀ {es : List D} {ns : List Int}, intsD es = some ns → es = ns.map D.int
  | [], ns, h => by cases h; rfl
  | e :: es, ns, h => by
    cases e with
    | int i =>
      rw [intsD] at h
      cases q : intsD es with
      | none => rw [q] at h; cases h
      | some ks => rw [q] at h; cases h; rw [intsD_inv q]; rfl
    | _ => cases h
def rowD (r : List Int) : D := .tup (r.map D.int)
theorem rowsD_map : ∀ rs : List (List Int), rowsD (rs.map rowD) = some rs
  | [] => rfl
  | r :: rs => by
    rw [List.map_cons]
    unfold rowD
    rw [rowsD, intsD_map]
    have := rowsD_map rs
    unfold rowD at this
    rw [this]
theorem rowsD_inv : ∀ {es : List D} {rs : List (List Int)}, rowsD es = some rs → es = rs.map rowD
  | [], ns, h => by cases h; rfl
  | e :: es, ns, h => by
    cases e with
    | tup fs =>
      rw [rowsD] at h
      cases q1 : intsD fs with
      | none => rw [q1] at h; cases h
      | some k =>
        cases q : rowsD es with
        | none => rw [q1, q] at h; cases h
        | some ks => rw [q1, q] at h; cases h; rw [rowsD_inv q, intsD_inv q1]; rfl
    | _ => cases h
theorem RepL.intsV : ∀ {ns : List Int} {xs : List V}, RepL K ph S H (ns.map D.int) xs → xs = ns.map V.int
  | [], xs, h => h.nil_inv
  | n :: ns, xs, h => by
    obtain ⟨x, r, rfl, h1, h2⟩ := h.cons_inv
    rw [h1.intE, h2.intsV]; rfl
theorem repL_ints : ∀ ns : List Int, RepL K ph S H (ns.map D.int) (ns.map V.int)
  | [] => .nil
  | n :: ns => .cons rint (repL_ints ns)
theorem RepL.rowsV : ∀ {rs : List (List Int)} {xs : List V}, RepL K ph S H (rs.map rowD) xs → ∃ L : List (Addr × List Int), xs = L.map (fun p => V.ref p.1) ∧ L.map (·.2) = rs ∧ ∀ p ∈ L, TAt K ph S H p.1 (p.2.map V.int)
  | [], xs, h => ⟨[], h.nil_inv, rfl, fun p hp => by cases hp⟩
  | r :: rs, xs, h => by
    obtain ⟨x, t, rfl, h1, h2⟩ := h.cons_inv
    obtain ⟨L, e1, e2, e3⟩ := h2.rowsV
    unfold rowD at h1
    obtain ⟨a, ys, rfl, k1, k2⟩ := h1.tupE
    rw [k2.intsV] at k1
    exact ⟨(a, r) :: L, by rw [e1]; rfl, by rw [← e2]; rfl, fun p hp => by
      rcases List.mem_cons.mp hp with rfl | hp
      · exact k1
      · exact e3 p hp⟩
def intLe (a b : Int) : Bool := decide (a ≤ b)
def sortInts (l : List Int) : List Int := l.mergeSort intLe
theorem sortInts_perm (l : List Int) : (sortInts l).Perm l := List.mergeSort_perm _ _
theorem sortInts_pw (l : List Int) : (sortInts l).Pairwise (· ≤ ·) := by
  have := List.pairwise_mergeSort (le := intLe) (fun a b c h1 h2 => by unfold intLe at *; rw [decide_eq_true_eq] at *; omega) (fun a b => by unfold intLe; rw [Bool.or_eq_true, decide_eq_true_eq, decide_eq_true_eq]; omega) l
  exact this.imp fun h => by unfold intLe at h; exact of_decide_eq_true h
theorem ints_uniq {l m : List Int} (h1 : l.Pairwise (· ≤ ·)) (h2 : m.Pairwise (· ≤ ·)) (p : l.Perm m) : l = m :=
  List.Perm.eq_of_pairwise (le := fun a b : Int => a ≤ b) (fun a b _ _ x y => Int.le_antisymm x y) h1 h2 p
def ssetL (es : List D) : Option (List D) := match intsD es with
  | some ns => if ns.length < 64 then some ((sortInts (dedup ns)).map D.int) else none
  | none => match rowsD es with
    | some rs => if rs.length < 64 ∧ rs.all (fun r => !r.isEmpty) = true then some ((sortRows (dedup rs)).map rowD) else none
    | none => none
def ssetM (d : D) : M D := fun S => match itemsL d S with
  | some es => (ssetL es).map fun r => (.lst r, S)
  | none => none
theorem e_sset {a : Expr} {ma : EM D} {p p2 q pos : Pos} (hc : X.calm = true) (hu : X.A.units + 200 < cLine) (hg : Gl X "sorted") (hm : X.mg "sorted" = none) (hg2 : Gl X "set") (hm2 : X.mg "set" = none) (ha : PE X a (rdE X.K ma))
    (na : starEach [a] X.env = (false, eval a X.env) :: starEach [] X.env := by rfl) :
    PE X (.Call (.Name "sorted" p) [.Call (.Name "set" p2) [a] [] q] [] pos) (rdE X.K (mUn ssetM ma)) := by
  refine PE.weak (pe_callB (id := "sorted") ((cr_sortedSet hc).or (cr_sortTS hc hu)) hg hm (by decide +kernel) (pa_cons (pe_callTy (T := "set") ((cr_setI hc).or (cr_setOfT hc (by omega))) hg2 hm2 (by decide +kernel) (pa_cons ha pa_nil na) (by decide) (by decide) na (by rfl)) pa_nil) (by decide) (by decide) (by rfl) (by rfl)) fun sg H Q h => ?_
  obtain ⟨ph, S, rho, d, S', s, en, e, post⟩ := h
  obtain ⟨dd, S1, e1, e2⟩ := bnd_inv e
  refine ⟨ph, S, rho, dd, S1, s, en, e1, fun ph1 H1 x E1 s1 r1 => ?_⟩
  unfold ssetM at e2
  split at e2
  · rename_i es he
    obtain ⟨b, xs, rfl, k1, k2⟩ := itemsL_of s1 r1 he
    unfold ssetL at e2
    split at e2
    · rename_i ns hns
      split at e2
      · rename_i hlt
        cases e2
        rw [intsD_inv hns] at k2
        rw [k2.intsV] at k1
        refine .inl ⟨b, ns, rfl, .inl (.inl k1), hlt, fun a' c hna hc64 => ?_⟩
        refine .inl ⟨a', _, c, rfl, upd_same, hc64, fun ms p' pw mem ml hp => ?_⟩
        have eq : ms = sortInts (dedup ns) := by
          refine ints_uniq (pw.imp fun h => Int.le_of_lt h) (sortInts_pw _) ?_
          refine (nodup_perm (pw.imp fun h => Int.ne_of_lt h) (nodup_dedup ns) fun k => ?_).trans (sortInts_perm _).symm
          rw [mem k, mem_dedup, decide_eq_true_eq]
        rw [eq]
        have E2 := Ext.tree (o := SetO X.w a' (fun j => decide (j ∈ ns)) c) s1 hna
        exact new_lst (s1.tree hna) (repL_ints _) (post.of (E1.trans E2)) hp
      · cases e2
    · split at e2
      · rename_i rs hrs
        split at e2
        · rename_i hlt
          cases e2
          rw [rowsD_inv hrs] at k2
          obtain ⟨L, rfl, f2, f3⟩ := k2.rowsV
          have hL : L.length < 64 := by
            have := congrArg List.length f2
            rw [List.length_map] at this
            omega
          refine .inr ⟨b, L, rfl, .inl (.inl k1), fun p hp => (f3 p hp).sq, hL, fun a' L2 hna sub all => ?_⟩
          have E2 := Ext.tree (o := SetTO X.prog X.w a' L2) s1 hna
          refine .inr ⟨a', L2, rfl, upd_same, fun p hp => ((f3 p (sub p hp)).ext E2).sq, fun p hp => ?_, fun L' p' pm nd pw hp => ?_⟩
          · have hm : p.2 ∈ rs := by rw [← f2]; exact List.mem_map.mpr ⟨p, sub p hp, rfl⟩
            have := List.all_eq_true.mp hlt.2 _ hm
            intro q
            rw [q] at this
            cases this
          · have eq : L'.map (·.2) = sortRows (dedup rs) := by
              refine rows_one (List.pairwise_map.mpr pw) (sortRows_pw _) ?_
              refine (pm.map (·.2)).trans ((nodup_perm nd (nodup_dedup rs) fun k => ?_).trans (sortRows_perm _).symm)
              rw [mem_dedup, ← f2]
              constructor
              · intro hk
                obtain ⟨p, hp, rfl⟩ := List.mem_map.mp hk
                exact List.mem_map.mpr ⟨p, sub p hp, rfl⟩
              · intro hk
                obtain ⟨p, hp, rfl⟩ := List.mem_map.mp hk
                exact all p hp
            have rl : RepL X.K ph1 S' (upd H1 a' (SetTO X.prog X.w a' L2)) ((sortRows (dedup rs)).map rowD) (L'.map fun q => V.ref q.1) := by
              rw [← eq, List.map_map]
              refine RepL.maps fun p hp => ?_
              show Rep X.K ph1 S' _ (rowD p.2) (V.ref p.1)
              unfold rowD
              rw [Rep]
              exact ⟨p.1, p.2.map V.int, rfl, (f3 p (sub p (pm.mem_iff.mp hp))).ext E2, repL_ints _⟩
            exact new_lst (s1.tree hna) rl (post.of (E1.trans E2)) hp
        · cases e2
      · cases e2
  · cases e2
end
end Mn

set_option maxRecDepth 100000
set_option maxHeartbeats 1000000
/-! Mn: what a loop walks, targets, comprehensions, statements. -/
namespace Mn
open PySem PySem.Spec PyProof.Rows L2

/-- what is walked: its items, and the object whose list they are -/
structure Src where
  ds : List D
  n : List (Nat × List D)
def srcOk (src : Src) (S : Sto) : Prop := ∀ p ∈ src.n, S.ob p.1 = some (.lst p.2)
theorem srcOk_nil {ds : List D} {S : Sto} : srcOk ⟨ds, []⟩ S := fun p h => nomatch h
theorem srcOk_one {ds es : List D} {n : Nat} {S : Sto} : srcOk ⟨ds, [(n, es)]⟩ S ↔ S.ob n = some (.lst es) := ⟨fun h => h (n, es) (List.mem_singleton.mpr rfl), fun h p hp => by rw [List.mem_singleton.mp hp]; exact h⟩

structure ItOk (K : PySem.W.Frag) (ph : Ph) (S : Sto) (H : Hp) (J : It) (src : Src) : Prop where
  go : ∀ ph1 S1 H1, Ext0 ph S H ph1 S1 H1 → Sim K ph1 S1 H1 → srcOk src S1 → ∀ i d, src.ds[i]? = some d → J.go i H1 ∧ ∀ x H2, J.yld i H1 x H2 → Ext ph1 S1 H1 ph1 S1 H2 ∧ Sim K ph1 S1 H2 ∧ Rep K ph1 S1 H2 d x
  stop : ∀ ph1 S1 H1, Ext0 ph S H ph1 S1 H1 → Sim K ph1 S1 H1 → srcOk src S1 → ∀ i, src.ds.length ≤ i → J.stop i H1

def rdI (K : PySem.W.Frag) (m : EM Src) : TI := fun sg H R => ∃ ph S rho src S', Sim K ph S H ∧ REnv K ph S H rho sg ∧ m rho S = some (src, S') ∧
  ∀ ph1 H1 J, Ext ph S H ph1 S' H1 → Sim K ph1 S' H1 → ItOk K ph1 S' H1 J src → R J H1

theorem PI.weak {X : Cx} {tg e : Expr} {t t' : TI} (h : PI X tg e t) (k : ∀ sg H R, t' sg H R → t sg H R) : PI X tg e t' := ⟨fun pins s sg H R I q => h.run pins s sg H R I (k sg H R q)⟩

/-! ### lists and tuples -/
def Itb (K : PySem.W.Frag) (a : Addr) : It := Itl K a
/-- a list, or a tuple -/
def iSeq (K : PySem.W.Frag) (tl : TE) : TI := fun σ H R => tl σ H fun x H1 => ∃ a, x = .ref a ∧ (((∃ xs, SqL K H1 a xs) ∧ R (Itl K a) H1) ∨ ((∃ xs, SqT K H1 a xs) ∧ R (Itt K a) H1))
section
variable {X : Cx} {tg : Expr}
theorem pi_seq {l : Expr} {tl : TE} (hl : PE X l tl) : PI X tg l (iSeq X.K tl) := by
  refine ⟨fun pins s σ H R I h => ?_⟩
  refine thn (hl.run pins s σ H _ I h) fun v s1 ⟨x, H1, I1, r1, q1⟩ => ?_
  obtain ⟨a, e, q⟩ := q1
  subst e
  cases r1
  rcases q with ⟨⟨xs, hq⟩, q⟩ | ⟨⟨xs, hq⟩, q⟩
  · obtain ⟨its, rv, p, hz⟩ := I1.list hq
    refine wpAny_pyIter_list p.isList ?_
    refine ⟨s1.heap.objs.size, [s1.heap.objs.size], _, _, H1, rfl, I1.kept (t' := s1.toks) fun b o e => Heap.get?_push_of_some _ e, turn_list a _, ⟨_, Heap.get?_push_size _ rfl, rfl, rfl⟩, fun b hb => ?_, q⟩
    have e : b = s1.heap.objs.size := by simpa using hb
    subst e
    exact I1.fpOk (Nat.le_refl _) (I1.hok.fresh (Nat.le_refl _))
  · obtain ⟨its, rv, p, hz⟩ := I1.tuple hq
    refine wpAny_pyIter_tuple (show s1.heap.IsTuple a its.toArray from p) ?_
    refine ⟨s1.heap.objs.size, [s1.heap.objs.size], _, _, H1, rfl, I1.kept (t' := s1.toks) fun b o e => Heap.get?_push_of_some _ e, turn_tuple a _, ⟨_, Heap.get?_push_size _ rfl, rfl, rfl⟩, fun b hb => ?_, q⟩
    have e : b = s1.heap.objs.size := by simpa using hb
    subst e
    exact I1.fpOk (Nat.le_refl _) (I1.hok.fresh (Nat.le_refl _))
end

/-- the items of a value -/
def srcOf (d : D) (S : Sto) : Option Src := match d with
  | .tup ds => some ⟨ds, []⟩
  | .lst ds => some ⟨ds, []⟩
  | .rol ds => some ⟨ds, []⟩
  | .ref n => match S.ob n with
    | some (.lst ds) => some ⟨ds, [(n, ds)]⟩
    | _ => none
  | _ => none
def mISeq (m : EM D) : EM Src := fun rho => bnd (m rho) fun d S => (srcOf d S).map fun s => (s, S)

section
variable {K : PySem.W.Frag} {ph : Ph} {S : Sto} {H : Hp}
theorem itok_list {a : Addr} {src : Src} (h : ∀ ph1 S1 H1, Ext0 ph S H ph1 S1 H1 → Sim K ph1 S1 H1 → srcOk src S1 → ∃ xs, SqL K H1 a xs ∧ RepL K ph1 S1 H1 src.ds xs)
    (inj : ∀ H1 xs ys, SqL K H1 a xs → SqL K H1 a ys → True := by intros; trivial) :
    ItOk K ph S H ⟨fun i H => ∃ xs x, SqL K H a xs ∧ xs[i]? = some x, fun i H x H' => H' = H ∧ ∀ xs, SqL K H a xs → xs[i]? = some x, fun i H => ∃ xs, SqL K H a xs ∧ xs.length ≤ i⟩ src where
  go := fun ph1 S1 H1 E s ok i d hd => by
    obtain ⟨xs, hq, r⟩ := h ph1 S1 H1 E s ok
    obtain ⟨x, hx, rx⟩ := r.get hd
    refine ⟨⟨xs, x, hq, hx⟩, fun y H2 ⟨e, k⟩ => ?_⟩
    subst e
    have := k xs hq
    rw [hx] at this; cases this
    exact ⟨Ext.refl, s, rx⟩
  stop := fun ph1 S1 H1 E s ok i hi => by
    obtain ⟨xs, hq, r⟩ := h ph1 S1 H1 E s ok
    exact ⟨xs, hq, by rw [r.len]; exact hi⟩
theorem itok_tup {a : Addr} {src : Src} (h : ∀ ph1 S1 H1, Ext0 ph S H ph1 S1 H1 → Sim K ph1 S1 H1 → srcOk src S1 → ∃ xs, SqT K H1 a xs ∧ RepL K ph1 S1 H1 src.ds xs) : ItOk K ph S H (Itt K a) src where
  go := fun ph1 S1 H1 E s ok i d hd => by
    obtain ⟨xs, hq, r⟩ := h ph1 S1 H1 E s ok
    obtain ⟨x, hx, rx⟩ := r.get hd
    refine ⟨⟨xs, x, hq, hx⟩, fun y H2 ⟨e, k⟩ => ?_⟩
    subst e
    have := k xs hq
    rw [hx] at this; cases this
    exact ⟨Ext.refl, s, rx⟩
  stop := fun ph1 S1 H1 E s ok i hi => by
    obtain ⟨xs, hq, r⟩ := h ph1 S1 H1 E s ok
    exact ⟨xs, hq, by rw [r.len]; exact hi⟩
/-- a list stands at a, whatever comes -/
theorem listAt {d : D} {src : Src} {v : V} (s : Sim K ph S H) (r : Rep K ph S H d v) (e : srcOf d S = some src) :
    ∃ a, v = .ref a ∧ ((∀ ph1 S1 H1, Ext0 ph S H ph1 S1 H1 → Sim K ph1 S1 H1 → srcOk src S1 → ∃ xs, SqL K H1 a xs ∧ RepL K ph1 S1 H1 src.ds xs) ∨
      (∀ ph1 S1 H1, Ext0 ph S H ph1 S1 H1 → Sim K ph1 S1 H1 → srcOk src S1 → ∃ xs, SqT K H1 a xs ∧ RepL K ph1 S1 H1 src.ds xs)) ∧ srcOk src S := by
  unfold srcOf at e
  split at e
  · cases e
    obtain ⟨a, xs, h1, h2, h3⟩ := r.tupE
    exact ⟨a, h1, .inr fun ph1 S1 H1 E _ _ => ⟨xs, (h2.ext0 E).sq, RepL.ext0 E _ _ h3⟩, srcOk_nil⟩
  · cases e
    obtain ⟨a, xs, h1, h2, h3⟩ := r.lstE
    exact ⟨a, h1, .inl fun ph1 S1 H1 E _ _ => ⟨xs, .inl (.inl (E.kp _ _ h2.1 (fun _ z => nomatch z) h2.2).1), RepL.ext0 E _ _ h3⟩, srcOk_nil⟩
  · cases e
    obtain ⟨a, xs, h1, h2, h3⟩ := r.rolE
    exact ⟨a, h1, .inl fun ph1 S1 H1 E _ _ => ⟨xs, (h2.ext0 E).sq, RepL.ext0 E _ _ h3⟩, srcOk_nil⟩
  · rename_i n
    obtain ⟨hn, rfl⟩ := r.refE
    split at e
    · rename_i ds hd
      cases e
      refine ⟨ph.f n, rfl, .inl fun ph1 S1 H1 E s1 ok => ?_, srcOk_one.mpr hd⟩
      obtain ⟨xs, h1, h2⟩ := s1.ok n _ (srcOk_one.mp ok)
      rw [E.pe n hn] at h1
      exact ⟨xs, .inl (.inl h1), h2⟩
    · cases e
  · cases e
end
section
variable {X : Cx} {tg : Expr}
theorem i_seq {l : Expr} {m : EM D} (hl : PE X l (rdE X.K m)) : PI X tg l (rdI X.K (mISeq m)) := PI.weak (pi_seq hl) fun sg H R h => by
  obtain ⟨ph, S, rho, src, S', s, en, e, post⟩ := h
  obtain ⟨d, S1, e1, e2⟩ := bnd_inv e
  cases e3 : srcOf d S1 with
  | none => rw [e3] at e2; cases e2
  | some sr =>
    rw [e3] at e2; cases e2
    refine ⟨ph, S, rho, d, _, s, en, e1, fun ph1 H1 x E1 s1 r1 => ?_⟩
    obtain ⟨a, rfl, k, ok⟩ := listAt s1 r1 e3
    refine ⟨a, rfl, ?_⟩
    rcases k with k | k
    · obtain ⟨xs, hq, _⟩ := k ph1 _ H1 Ext.refl.toExt0 s1 ok
      exact .inl ⟨⟨xs, hq⟩, post ph1 H1 _ E1 s1 (itok_list k)⟩
    · obtain ⟨xs, hq, _⟩ := k ph1 _ H1 Ext.refl.toExt0 s1 ok
      exact .inr ⟨⟨xs, hq⟩, post ph1 H1 _ E1 s1 (itok_tup k)⟩

/-! ### range -/
def rngD (lo : Int) (n : Nat) : List D := (List.range n).map fun (i : Nat) => D.int (lo + i)
theorem itok_rng {K : PySem.W.Frag} {ph : Ph} {S : Sto} {H : Hp} {lo : Int} {n : Nat} : ItOk K ph S H (Itr lo n) ⟨rngD lo n, []⟩ where
  go := fun ph1 S1 H1 E s ok i d hd => by
    unfold rngD at hd
    rw [List.getElem?_map] at hd
    by_cases hi : i < n
    · rw [List.getElem?_range hi] at hd
      cases hd
      exact ⟨hi, fun x H2 ⟨e1, e2⟩ => by subst e1 e2; exact ⟨Ext.refl, s, by rw [Rep]⟩⟩
    · rw [List.getElem?_eq_none (by rw [List.length_range]; omega)] at hd; cases hd
  stop := fun ph1 S1 H1 E s ok i hi => by
    have : (rngD lo n).length = n := by unfold rngD; rw [List.length_map, List.length_range]
    have hi' : (rngD lo n).length ≤ i := hi
    show n ≤ i
    omega
def rngOk (j : Int) : Bool := decide (-(2 ^ 62) ≤ j) && decide (j < 2 ^ 62)
def rng1M (ds : List D) : Option Src := match ds with
  | [.int j] => if rngOk j then some ⟨rngD 0 j.toNat, []⟩ else none
  | _ => none
def rng2M (ds : List D) : Option Src := match ds with
  | [.int i, .int j] => if rngOk i && rngOk j then some ⟨rngD i (j - i).toNat, []⟩ else none
  | _ => none
def mIR (f : List D → Option Src) (m : EM (List D)) : EM Src := fun rho => bnd (m rho) fun ds S => (f ds).map fun s => (s, S)
theorem rngOk_iff {j : Int} (h : rngOk j = true) : -(2 ^ 62) ≤ j ∧ j < 2 ^ 62 := by
  unfold rngOk at h
  simpa using h
theorem i_rng1 {a : Expr} {m : EM (List D)} {p pos : Pos} (hm : X.mg "range" = none) (ha : PA X [a] (rdA X.K m)) (hg : Gl X "range" := by rfl) (hs : starEach [a] X.env = [(false, eval a X.env)] := by rfl) : PI X tg (.Call (.Name "range" p) [a] [] pos) (rdI X.K (mIR rng1M m)) :=
  PI.weak (pi_range1 hg hm ha hs) fun sg H R h => by
    obtain ⟨ph, S, rho, src, S', s, en, e, post⟩ := h
    obtain ⟨ds, S1, e1, e2⟩ := bnd_inv e
    refine ⟨ph, S, rho, ds, S1, s, en, e1, fun ph1 H1 xs E1 s1 r1 => ?_⟩
    unfold rng1M at e2
    split at e2
    · rename_i j
      obtain ⟨x, rfl, rx⟩ := RepL.one r1
      obtain rfl := rx.intE
      split at e2
      · rename_i hj
        obtain ⟨h1, h2⟩ := rngOk_iff hj
        cases e2
        exact ⟨j, rfl, h1, h2, post ph1 H1 _ E1 s1 itok_rng⟩
      · cases e2
    · cases e2
theorem i_rng2 {a b : Expr} {m : EM (List D)} {p pos : Pos} (hm : X.mg "range" = none) (ha : PA X [a, b] (rdA X.K m)) (hg : Gl X "range" := by rfl) (hs : starEach [a, b] X.env = [(false, eval a X.env), (false, eval b X.env)] := by rfl) (hs2 : starEach [b] X.env = [(false, eval b X.env)] := by rfl) :
    PI X tg (.Call (.Name "range" p) [a, b] [] pos) (rdI X.K (mIR rng2M m)) :=
  PI.weak (pi_range2 hg hm ha hs hs2) fun sg H R h => by
    obtain ⟨ph, S, rho, src, S', s, en, e, post⟩ := h
    obtain ⟨ds, S1, e1, e2⟩ := bnd_inv e
    refine ⟨ph, S, rho, ds, S1, s, en, e1, fun ph1 H1 xs E1 s1 r1 => ?_⟩
    unfold rng2M at e2
    split at e2
    · rename_i i j
      obtain ⟨x, y, rfl, rx, ry⟩ := RepL.two r1
      obtain rfl := rx.intE
      obtain rfl := ry.intE
      split at e2
      · rename_i hj
        rw [Bool.and_eq_true] at hj
        obtain ⟨h1, h2⟩ := rngOk_iff hj.1
        obtain ⟨h3, h4⟩ := rngOk_iff hj.2
        cases e2
        exact ⟨i, j, rfl, ⟨h1, h2, h3, h4⟩, post ph1 H1 _ E1 s1 itok_rng⟩
      · cases e2
    · cases e2

end

/-! ### targets -/
abbrev GM := D → Env → Option Env
def rdG (K : PySem.W.Frag) (vs : List Nat) (m : GM) : TG := fun v sg H Q => ∃ ph S rho d rho', Sim K ph S H ∧ REnv K ph S H rho sg ∧ Rep K ph S H d v ∧ m d rho = some rho' ∧
  ∀ sg', REnv K ph S H rho' sg' → wipe sg' vs = wipe sg vs → Q sg' H
abbrev GLM := List D → Env → Option Env
def rdGs (K : PySem.W.Frag) (vs : List Nat) (m : GLM) : TGs := fun xs sg H Q => ∃ ph S rho ds rho', Sim K ph S H ∧ REnv K ph S H rho sg ∧ RepL K ph S H ds xs ∧ m ds rho = some rho' ∧
  ∀ sg', REnv K ph S H rho' sg' → wipe sg' vs = wipe sg vs → Q sg' H
theorem PG.weak {X : Cx} {tg : Expr} {t t' : TG} (h : PG X tg t) (k : ∀ v sg H Q, t' v sg H Q → t v sg H Q) : PG X tg t' := ⟨fun pins s sg H v u Q I r q => h.run pins s sg H v u Q I r (k v sg H Q q)⟩
theorem PGs.weak {X : Cx} {tg : List Expr} {t t' : TGs} (h : PGs X tg t) (k : ∀ v sg H Q, t' v sg H Q → t v sg H Q) : PGs X tg t' := ⟨fun pins s sg H v u Q I r q => h.run pins s sg H v u Q I r (k v sg H Q q)⟩
theorem wipe_set {sg : L2.St} {i : Nat} {o : Option V} : ∀ {vs : List Nat}, i ∈ vs → wipe (sg.set i o) vs = wipe sg vs
  | [], h => by simp at h
  | v :: vs, h => by
    by_cases hv : i ∈ vs
    · show (wipe (sg.set i o) vs).set v none = (wipe sg vs).set v none
      rw [wipe_set hv]
    · have e : i = v := by
        rcases List.mem_cons.mp h with q | q
        · exact q
        · exact absurd q hv
      subst e
      have comm : ∀ vs : List Nat, i ∉ vs → wipe (sg.set i o) vs = (wipe sg vs).set i o := by
        intro vs
        induction vs with
        | nil => intro _; rfl
        | cons w ws ih =>
          intro hw
          show (wipe (sg.set i o) ws).set w none = ((wipe sg ws).set w none).set i o
          rw [ih (fun q => hw (List.mem_cons_of_mem _ q)), List.set_comm _ _ (fun q => hw (by rw [q]; exact List.mem_cons_self))]
      show (wipe (sg.set i o) vs).set i none = (wipe sg vs).set i none
      rw [comm vs hv, List.set_set]
section
variable {X : Cx} {pos : Pos} {vs : List Nat}
def gV (i : Nat) : GM := fun d rho => some (rho.set i (some d))
theorem g_v {i : Nat} {x : Str} (hN : X.N.Nodup) (hi : X.N[i]? = some x := by rfl) (hx : Loc X.env.scope x := by first | exact .inl rfl | exact .inr rfl) (hm : i ∈ vs := by decide) (hf : X.fn x = true ∨ X.env.scope.names.lookup x = some .local := by first | exact .inl rfl | exact .inr rfl | assumption) : PG X (.Name x pos) (rdG X.K vs (gV i)) :=
  PG.weak (pg_name hN hi hx hf) fun v sg H Q h => by
    obtain ⟨ph, S, rho, d, rho', s, en, r, e, post⟩ := h
    cases e
    exact post _ (en.set i r) (wipe_set hm)
def gsNil : GLM := fun ds rho => match ds with
  | [] => some rho
  | _ => none
def gsCons (g : GM) (gs : GLM) : GLM := fun ds rho => match ds with
  | d :: ds => (g d rho).bind fun rho1 => gs ds rho1
  | [] => none
theorem gs_nil : PGs X [] (rdGs X.K vs gsNil) := PGs.weak pgs_nil fun xs sg H Q h => by
  obtain ⟨ph, S, rho, ds, rho', s, en, r, e, post⟩ := h
  unfold gsNil at e
  split at e
  · cases e
    exact ⟨r.nil_inv, post sg en rfl⟩
  · cases e
theorem gs_cons {e : Expr} {es : List Expr} {g : GM} {gs : GLM} (h1 : PG X e (rdG X.K vs g)) (h2 : PGs X es (rdGs X.K vs gs))
    (hs : (assignEach (e :: es) X.env).map (·.2) = assign e X.env :: (assignEach es X.env).map (·.2) := by rfl) : PGs X (e :: es) (rdGs X.K vs (gsCons g gs)) := PGs.weak (pgs_cons h1 h2 hs) fun xs sg H Q h => by
  obtain ⟨ph, S, rho, ds, rho', s, en, r, e, post⟩ := h
  unfold gsCons at e
  split at e
  · rename_i d ds
    obtain ⟨x, xr, rfl, rx, rr⟩ := r.cons_inv
    cases e1 : g d rho with
    | none => rw [e1] at e; cases e
    | some rho1 =>
      rw [e1] at e
      exact ⟨x, xr, rfl, ph, S, rho, d, rho1, s, en, rx, e1, fun sg1 en1 w1 => ⟨ph, S, rho1, ds, rho', s, en1, rr, e, fun sg2 en2 w2 => post sg2 en2 (w2.trans w1)⟩⟩
  · cases e
def gT (n : Nat) (gs : GLM) : GM := fun d rho => match d with
  | .tup ds => if ds.length = n then gs ds rho else none
  | _ => none
theorem g_tup {es : List Expr} {k : Nat} {gs : GLM} {n : Nat} (h : PGs X es (rdGs X.K vs gs)) (hc : X.calm = true := by rfl)
    (hn : (assignEach es X.env).length = n := by rfl) (hst : (assignEach es X.env).findIdx? (·.1) = none := by rfl) : PG X (.Tuple es k pos) (rdG X.K vs (gT n gs)) := PG.weak (pg_tup hc h hn hst) fun v sg H Q h => by
  obtain ⟨ph, S, rho, d, rho', s, en, r, e, post⟩ := h
  unfold gT at e
  split at e
  · rename_i ds
    split at e
    · rename_i hl
      obtain ⟨a, xs, rfl, h1, h2⟩ := r.tupE
      exact ⟨a, xs, rfl, h1.sq, by rw [h2.len]; exact hl, ph, S, rho, ds, rho', s, en, h2, e, post⟩
    · cases e
  · cases e
end

/-! ### list comprehensions -/
open Classical in
noncomputable def lcGo (src : Src) (mg : GM) (mt : EM Bool) (me : EM D) (rho : Env) : List D → M (List D)
  | [], S => if srcOk src S then some ([], S) else none
  | d :: ds, S => if srcOk src S then (mg d rho).bind fun rho1 => bnd (mt rho1) (fun b => if b = true then bnd (me rho1) fun y => bnd (lcGo src mg mt me rho ds) fun r => ret (y :: r) else lcGo src mg mt me rho ds) S else none
/-- what a comprehension makes: a tree, or an object -/
noncomputable def mLc (mi : EM Src) (own : List Nat) (mg : GM) (mt : EM Bool) (me : EM D) : EM D := fun rho => bnd (mi rho) fun src => bnd (lcGo src mg mt me (wipeR rho own) src.ds) fun r S => if r.length ≤ lim then some (.lst r, S) else none
noncomputable def mLcN (mi : EM Src) (own : List Nat) (mg : GM) (mt : EM Bool) (me : EM D) : EM D := fun rho => bnd (mi rho) fun src => bnd (lcGo src mg mt me (wipeR rho own) src.ds) fun r S => if r.length ≤ lim then some (.ref S.nx, S.new (.lst r)) else none

section
variable {K : PySem.W.Frag}
/-- from the begin of a comprehension to one of its turns; Dd is its list -/
structure LcAt (K : PySem.W.Frag) (Dd : Addr) (ph0 : Ph) (S0 : Sto) (H0 : Hp) (ph : Ph) (S : Sto) (H : Hp) (xs : List V) : Prop where
  ex : Ext0 ph0 S0 H0 ph S H
  rs : ph.rs = Dd :: ph0.rs
  kp : ∀ q ∈ ph0.rs, H q = H0 q
  s : Sim K ph S H
  at_ : H Dd = some (.lst xs)
section
variable {Dd : Addr} {ph0 ph ph1 : Ph} {S0 S S1 : Sto} {H0 H H1 : Hp} {xs : List V}
theorem LcAt.start (s : Sim K ph0 S0 H0) (h : H0 Dd = none) : LcAt K Dd ph0 S0 H0 (ph0.res Dd) S0 (upd H0 Dd (.lst [])) [] :=
  ⟨Ext0.res h, rfl, fun q hq => upd_ne (s.rs_ne h hq), s.res h, upd_same⟩
theorem LcAt.ext (a : LcAt K Dd ph0 S0 H0 ph S H xs) (E : Ext ph S H ph1 S1 H1) (s : Sim K ph1 S1 H1) : LcAt K Dd ph0 S0 H0 ph1 S1 H1 xs :=
  ⟨a.ex.trans E.toExt0, E.rs.1.trans a.rs, fun q hq => (E.rs.2 q (by rw [a.rs]; exact List.mem_cons_of_mem _ hq)).trans (a.kp q hq), s, (E.rs.2 Dd (by rw [a.rs]; exact List.mem_cons_self)).trans a.at_⟩
theorem LcAt.mem (a : LcAt K Dd ph0 S0 H0 ph S H xs) : Dd ∈ ph.rs := by rw [a.rs]; exact List.mem_cons_self
theorem LcAt.put (a : LcAt K Dd ph0 S0 H0 ph S H xs) (s0 : Sim K ph0 S0 H0) (h0 : H0 Dd = none) (ys : List V) : LcAt K Dd ph0 S0 H0 ph S (upd H Dd (.lst ys)) ys :=
  ⟨a.ex.trans (Ext0.wr a.mem), a.rs, fun q hq => by rw [upd_ne (s0.rs_ne h0 hq)]; exact a.kp q hq, a.s.wr a.mem, upd_same⟩
theorem LcAt.fin (a : LcAt K Dd ph0 S0 H0 ph S H xs) : Ext ph0 S0 H0 (ph.free ph0.rs) S H ∧ Sim K (ph.free ph0.rs) S H :=
  ⟨⟨a.ex.trans (Ext0.free a.rs), rfl, a.kp⟩, a.s.free a.rs⟩
theorem LcAt.not_own (a : LcAt K Dd ph0 S0 H0 ph S H xs) (s0 : Sim K ph0 S0 H0) (h0 : H0 Dd = none) : ¬ Own (ph.free ph0.rs) S Dd := by
  rintro (q | ⟨n, h1, h2⟩)
  · exact s0.rs_ne h0 q rfl
  · exact (a.s.rsv Dd a.mem).2 n h1 h2
/-- a tree that stands at Dd becomes an object: nothing else stands there -/
theorem LcAt.finN (a : LcAt K Dd ph0 S0 H0 ph S H xs) (s0 : Sim K ph0 S0 H0) (h0 : H0 Dd = none) {ds : List D} (r : RepL K ph S H ds xs) :
    ∃ ph', Ext ph0 S0 H0 ph' (S.new (.lst ds)) H ∧ Sim K ph' (S.new (.lst ds)) H ∧ ph'.f S.nx = Dd := by
  have mp : ∀ b, Own ph S b ∨ b = Dd → Own ph S b := fun b h => h.elim id fun h => .inl (by rw [h]; exact a.mem)
  have E1 : Ext0 ph S H (phN (ph.free ph0.rs) S Dd) (S.new (.lst ds)) H :=
    ⟨Nat.le_succ _, fun n hn => phN_old (S := S) (ph := ph.free ph0.rs) (Nat.ne_of_lt hn), fun b v e _ n => ⟨e, by
      rintro (q | ⟨m, h1, h2⟩)
      · exact n (.inl (by rw [a.rs]; exact List.mem_cons_of_mem _ q))
      · rw [Sto.new_ob] at h1
        by_cases hm : m = S.nx
        · subst hm
          rw [phN_new] at h2
          exact n (.inl (by rw [← h2]; exact a.mem))
        · rw [if_neg hm] at h1
          rw [phN_old hm] at h2
          exact n (.inr ⟨m, h1, h2⟩)⟩⟩
  refine ⟨phN (ph.free ph0.rs) S Dd, ⟨a.ex.trans E1, rfl, a.kp⟩, ⟨fun n v e => ?_, fun m n h1 h2 e => ?_, fun n v e => ?_, fun q hq => ⟨(a.s.rsv q (by rw [a.rs]; exact List.mem_cons_of_mem _ hq)).1, fun n hn => ?_⟩⟩, phN_new⟩
  · rw [Sto.new_ob] at e
    by_cases hn : n = S.nx
    · rw [hn]; exact Nat.lt_succ_self _
    · rw [if_neg hn] at e; exact Nat.lt_succ_of_lt (a.s.lt n v e)
  · rw [Sto.new_ob] at h1 h2
    by_cases hm : m = S.nx <;> by_cases hn : n = S.nx
    · rw [hm, hn]
    · exfalso
      rw [hm, phN_new, phN_old hn] at e
      rw [if_neg hn] at h2
      exact (a.s.rsv Dd a.mem).2 n h2 e.symm
    · exfalso
      rw [hn, phN_new, phN_old hm] at e
      rw [if_neg hm] at h1
      exact (a.s.rsv Dd a.mem).2 m h1 e
    · rw [phN_old hm, phN_old hn] at e
      rw [if_neg hm] at h1
      rw [if_neg hn] at h2
      exact a.s.inj m n h1 h2 e
  · rw [Sto.new_ob] at e
    by_cases hn : n = S.nx
    · rw [if_pos hn] at e; cases e
      rw [hn, phN_new]
      exact ⟨xs, a.at_, RepL.ext0 E1 _ _ r⟩
    · rw [if_neg hn] at e
      rw [phN_old hn]
      exact (a.s.ok n v e).ext0 E1 rfl
  · rw [Sto.new_ob] at hn
    by_cases hm : n = S.nx
    · rw [hm, phN_new]; exact (s0.rs_ne h0 hq).symm
    · rw [if_neg hm] at hn
      rw [phN_old hm]; exact (a.s.rsv q (by rw [a.rs]; exact List.mem_cons_of_mem _ hq)).2 n hn
end
/-- the loop of a comprehension over any iterator -/
theorem lc_run {J : It} {src : Src} {mg : GM} {mt : EM Bool} {me : EM D} {g : TG} {tt : TT} {te : TE} {own : List Nat} {ph0 : Ph} {S0 S' : Sto} {H0 : Hp} {rho : Env} {sg : L2.St} {r : List D} {Dd : Addr} {Qd : Hp → Prop}
    (gw : ∀ v sg H Q, rdG K own mg v sg H Q → g v sg H Q) (tw : ∀ sg H Q, rdT K mt sg H Q → tt sg H Q) (ew : ∀ sg H Q, rdE K me sg H Q → te sg H Q)
    (s0 : Sim K ph0 S0 H0) (en0 : REnv K ph0 S0 H0 rho sg) (ok : ItOk K ph0 S0 H0 J src) (h0 : H0 Dd = none)
    (e : lcGo src mg mt me (wipeR rho own) src.ds S0 = some (r, S')) (hl : r.length ≤ lim)
    (fin : ∀ ph H xs, LcAt K Dd ph0 S0 H0 ph S' H xs → RepL K ph S' H r xs → Qd H) :
    ∃ W : Nat → Nat → Hp → Prop, (∃ m, W 0 m (upd H0 Dd (.lst []))) ∧ ∀ i m H, W i m H →
      (J.stop i H ∧ Qd H) ∨ (J.go i H ∧ ∃ Nx : Hp → Prop, (∀ H', Nx H' → ∃ m', m' < m ∧ W (i + 1) m' H') ∧ ∀ x H', J.yld i H x H' → g x (wipe sg own) H' fun sg2 H2 => wipe sg2 own = wipe sg own ∧ tt sg2 H2 fun b H3 =>
        if b = true then te sg2 H3 fun y H4 => ∃ acc, H4 Dd = some (.lst acc) ∧ acc.length < sizeLine ∧ Nx (upd H4 Dd (.lst (acc ++ [y]))) else Nx H3) := by
  let R : Nat → Hp → Prop := fun i H => ∃ ph S xs ds r', LcAt K Dd ph0 S0 H0 ph S H xs ∧ RepL K ph S H ds xs ∧ lcGo src mg mt me (wipeR rho own) (src.ds.drop i) S = some (r', S') ∧ r = ds ++ r'
  refine ⟨fun i m H => m = src.ds.length - i ∧ R i H, ⟨src.ds.length, rfl, ph0.res Dd, S0, [], [], r, .start s0 h0, .nil, e, rfl⟩, ?_⟩
  rintro i m H ⟨rfl, ph, S, xs, ds, r', a, rr, eg, rfl⟩
  by_cases hi : i < src.ds.length
  · have hd : src.ds[i]? = some src.ds[i] := List.getElem?_eq_getElem hi
    generalize hdd : src.ds[i] = d at hd
    rw [List.drop_eq_getElem_cons hi, hdd] at eg
    unfold lcGo at eg
    split at eg
    · rename_i hok
      obtain ⟨hgo, hy⟩ := ok.go ph S H a.ex a.s hok i d hd
      refine .inr ⟨hgo, R (i + 1), fun H' q => ⟨src.ds.length - (i + 1), by omega, rfl, q⟩, fun x H' y => gw _ _ _ _ ?_⟩
      obtain ⟨E1, s1, rx⟩ := hy x H' y
      cases eG : mg d (wipeR rho own) with
      | none => rw [eG] at eg; cases eg
      | some rho1 =>
        rw [eG, Option.bind_some] at eg
        obtain ⟨b, S2, eT, eg⟩ := bnd_inv eg
        have a1 := a.ext E1 s1
        refine ⟨ph, S, _, d, rho1, s1, (en0.wipe own).ext0 a1.ex, rx, eG, fun sg2 en2 w2 => ⟨?_, tw _ _ _ ⟨ph, S, rho1, b, S2, s1, en2, eT, fun ph3 H3 E3 s3 => ?_⟩⟩⟩
        · rw [w2]
          have idem : ∀ vs : List Nat, wipe (wipe sg own) vs = wipe (wipe sg own) vs := fun _ => rfl
          have sub : ∀ vs : List Nat, (∀ v ∈ vs, v ∈ own) → wipe (wipe sg own) vs = wipe sg own := by
            intro vs
            induction vs with
            | nil => intro _; rfl
            | cons v vs ih =>
              intro hv
              show (wipe (wipe sg own) vs).set v none = _
              rw [ih fun u hu => hv u (List.mem_cons_of_mem _ hu)]
              have hm := hv v List.mem_cons_self
              have key : ∀ ws : List Nat, v ∈ ws → (wipe sg ws).set v none = wipe sg ws := by
                intro ws
                induction ws with
                | nil => intro h; simp at h
                | cons w ws ih2 =>
                  intro h
                  show ((wipe sg ws).set w none).set v none = (wipe sg ws).set w none
                  by_cases hw : v = w
                  · rw [hw, List.set_set]
                  · rw [List.set_comm _ _ (Ne.symm hw), ih2 ((List.mem_cons.mp h).resolve_left hw)]
              exact key own hm
          exact sub own fun _ h => h
        · have a3 := a1.ext E3 s3
          cases b with
          | false =>
            rw [if_neg Bool.false_ne_true] at eg
            show R (i + 1) H3
            exact ⟨ph3, S2, xs, ds, r', a3, (rr.ext E1).ext E3, eg, rfl⟩
          | true =>
            rw [if_pos rfl] at eg
            show te sg2 H3 _
            obtain ⟨y, S4, eE, eg⟩ := bnd_inv eg
            obtain ⟨r2, S5, eR, eg⟩ := bnd_inv eg
            cases eg
            refine ew _ _ _ ⟨ph3, S2, rho1, y, S4, s3, en2.ext E3, eE, fun ph4 H4 v E4 s4 r4 => ?_⟩
            have a4 := a3.ext E4 s4
            have r5 : RepL K ph4 S4 H4 ds xs := ((rr.ext E1).ext E3).ext E4
            refine ⟨xs, a4.at_, ?_, ph4, S4, xs ++ [v], ds ++ [y], r2, a4.put s0 h0 _, ?_, eR, by simp⟩
            · rw [r5.len]
              have hl' : (ds ++ y :: r2).length ≤ sizeLine := hl
              rw [List.length_append, List.length_cons] at hl'
              omega
            · exact RepL.ext0 (Ext0.wr a4.mem) _ _ (r5.app (.cons r4 .nil))
    · cases eg
  · rw [List.drop_eq_nil_of_le (by omega)] at eg
    unfold lcGo at eg
    split at eg
    · rename_i hok
      obtain ⟨rfl, rfl⟩ : [] = r' ∧ S = S' := by simpa using eg
      refine .inl ⟨ok.stop _ _ H a.ex a.s hok i (by omega), fin ph H xs a (by rw [List.append_nil]; exact rr)⟩
    · cases eg
end

/-! ### comprehensions as expressions -/
section
variable {X : Cx}
/-- what a comprehension's block asks -/
theorem tLc_tree {wi : TI} {g : TG} {tt : TT} {te : TE} {own : List Nat} {mi : EM Src} {mg : GM} {mt : EM Bool} {me : EM D} {K : PySem.W.Frag} (iw : ∀ sg H R, rdI K mi sg H R → wi sg H R)
    (gw : ∀ v sg H Q, rdG K own mg v sg H Q → g v sg H Q) (tw : ∀ sg H Q, rdT K mt sg H Q → tt sg H Q) (ew : ∀ sg H Q, rdE K me sg H Q → te sg H Q) (sg : L2.St) (H : Hp) (Q : VK) (h : rdE K (mLc mi own mg mt me) sg H Q) : tLc wi g tt te own sg H Q := by
  obtain ⟨ph, S, rho, d, S', s, en, e, post⟩ := h
  obtain ⟨src, S1, e1, e⟩ := bnd_inv e
  obtain ⟨r, S2, e2, e⟩ := bnd_inv e
  split at e
  · rename_i hl
    cases e
    refine iw _ _ _ ⟨ph, S, rho, src, S1, s, en, e1, fun ph1 H1 J E1 s1 ok Dd hD => lc_run gw tw ew s1 (en.ext E1) ok hD e2 hl fun ph2 H2 xs a rr => ?_⟩
    obtain ⟨E2, s2⟩ := a.fin
    refine post _ _ _ (E1.trans E2) s2 ?_
    rw [Rep]
    exact ⟨Dd, xs, rfl, ⟨a.at_, a.not_own s1 hD⟩, RepL.ext0 (Ext0.free a.rs) _ _ rr⟩
  · cases e
theorem tLc_obj {wi : TI} {g : TG} {tt : TT} {te : TE} {own : List Nat} {mi : EM Src} {mg : GM} {mt : EM Bool} {me : EM D} {K : PySem.W.Frag} (iw : ∀ sg H R, rdI K mi sg H R → wi sg H R)
    (gw : ∀ v sg H Q, rdG K own mg v sg H Q → g v sg H Q) (tw : ∀ sg H Q, rdT K mt sg H Q → tt sg H Q) (ew : ∀ sg H Q, rdE K me sg H Q → te sg H Q) (sg : L2.St) (H : Hp) (Q : VK) (h : rdE K (mLcN mi own mg mt me) sg H Q) : tLc wi g tt te own sg H Q := by
  obtain ⟨ph, S, rho, d, S', s, en, e, post⟩ := h
  obtain ⟨src, S1, e1, e⟩ := bnd_inv e
  obtain ⟨r, S2, e2, e⟩ := bnd_inv e
  split at e
  · rename_i hl
    cases e
    refine iw _ _ _ ⟨ph, S, rho, src, S1, s, en, e1, fun ph1 H1 J E1 s1 ok Dd hD => lc_run gw tw ew s1 (en.ext E1) ok hD e2 hl fun ph2 H2 xs a rr => ?_⟩
    obtain ⟨ph3, E2, s2, hn⟩ := a.finN s1 hD rr
    refine post _ _ _ (E1.trans E2) s2 ?_
    rw [Rep]
    exact ⟨Nat.lt_succ_self _, by rw [hn]⟩
  · cases e
def mYes : EM Bool := fun _ => ret true
theorem tYes_w {K : PySem.W.Frag} (sg : L2.St) (H : Hp) (Q : Bool → Hp → Prop) (h : rdT K mYes sg H Q) : tYes sg H Q := by
  obtain ⟨ph, S, rho, b, S', s, en, e, post⟩ := h
  cases e
  exact post ph H Ext.refl s
theorem PTs.weak {e : List Expr} {t t' : TT} (h : PTs X e t) (k : ∀ sg H Q, t' sg H Q → t sg H Q) : PTs X e t' := ⟨fun pins s sg H Q I q => h.run pins s sg H Q I (k sg H Q q)⟩
theorem ts_nil : PTs X [] (rdT X.K mYes) := PTs.weak pts_nil tYes_w
theorem ts_one {c : Expr} {m : EM Bool} (h : PT X c (rdT X.K m)) : PTs X [c] (rdT X.K m) := pts_one h
theorem e_lc {elt tg iter : Expr} {ifs : List Expr} {scope : Scope} {own : List (Str × Nat)} {pos : Pos} {mi : EM Src} {mg : GM} {mt : EM Bool} {me : EM D} (hc : X.calm = true) (hN : X.N.Nodup) (ok : BlkOk X.N X.env.scope scope own) (hi : PI X tg iter (rdI X.K mi))
    (hg : ∀ (s : Shared) (H : Hp) (C : Addr) (cl : List (Str × Addr)) (fp : List Addr), PG (X.blk s H scope (compEnvC scope cl C X.env) fp) tg (rdG X.K (own.map (·.2)) mg))
    (ht : ∀ (s : Shared) (H : Hp) (C : Addr) (cl : List (Str × Addr)) (fp : List Addr), PTs (X.blk s H scope (compEnvC scope cl C X.env) fp) ifs (rdT X.K mt))
    (he : ∀ (s : Shared) (H : Hp) (C : Addr) (cl : List (Str × Addr)) (fp : List Addr), PE (X.blk s H scope (compEnvC scope cl C X.env) fp) elt (rdE X.K me)) (hs : ∀ x, foldedSetIterable iter X.env x = pure x := by intro _; rfl) :
    PE X (.ListComp elt [⟨tg, iter, ifs, 0⟩] scope pos) (rdE X.K (mLc mi (own.map (·.2)) mg mt me)) :=
  PE.weak (pe_lc hc hN hi ok hg ht he hs) (tLc_tree (fun _ _ _ h => h) (fun _ _ _ _ h => h) (fun _ _ _ h => h) fun _ _ _ h => h)
theorem e_lcN {elt tg iter : Expr} {ifs : List Expr} {scope : Scope} {own : List (Str × Nat)} {pos : Pos} {mi : EM Src} {mg : GM} {mt : EM Bool} {me : EM D} (hc : X.calm = true) (hN : X.N.Nodup) (ok : BlkOk X.N X.env.scope scope own) (hi : PI X tg iter (rdI X.K mi))
    (hg : ∀ (s : Shared) (H : Hp) (C : Addr) (cl : List (Str × Addr)) (fp : List Addr), PG (X.blk s H scope (compEnvC scope cl C X.env) fp) tg (rdG X.K (own.map (·.2)) mg))
    (ht : ∀ (s : Shared) (H : Hp) (C : Addr) (cl : List (Str × Addr)) (fp : List Addr), PTs (X.blk s H scope (compEnvC scope cl C X.env) fp) ifs (rdT X.K mt))
    (he : ∀ (s : Shared) (H : Hp) (C : Addr) (cl : List (Str × Addr)) (fp : List Addr), PE (X.blk s H scope (compEnvC scope cl C X.env) fp) elt (rdE X.K me)) (hs : ∀ x, foldedSetIterable iter X.env x = pure x := by intro _; rfl) :
    PE X (.ListComp elt [⟨tg, iter, ifs, 0⟩] scope pos) (rdE X.K (mLcN mi (own.map (·.2)) mg mt me)) :=
  PE.weak (pe_lc hc hN hi ok hg ht he hs) (tLc_obj (fun _ _ _ h => h) (fun _ _ _ _ h => h) (fun _ _ _ h => h) fun _ _ _ h => h)
end
end Mn

set_option maxRecDepth 100000
set_option maxHeartbeats 1000000
/-! Mn: statements. -/
namespace Mn
open PySem PySem.Spec PyProof.Rows L2

inductive Fl where
  | nx | bk | ct | rt (d : D)
abbrev SM := Env → M (Fl × Env)
def PostS (K : PySem.W.Frag) (ph : Ph) (S : Sto) (H : Hp) (N : Ends) (fl : Fl) (rho : Env) (S' : Sto) : Prop := match fl with
  | .nx => ∀ ph' H' sg', Ext ph S H ph' S' H' → Sim K ph' S' H' → REnv K ph' S' H' rho sg' → N.nx sg' H'
  | .bk => ∀ ph' H' sg', Ext ph S H ph' S' H' → Sim K ph' S' H' → REnv K ph' S' H' rho sg' → N.bk sg' H'
  | .ct => ∀ ph' H' sg', Ext ph S H ph' S' H' → Sim K ph' S' H' → REnv K ph' S' H' rho sg' → N.ct sg' H'
  | .rt d => ∀ ph' H' v, Ext ph S H ph' S' H' → Sim K ph' S' H' → Rep K ph' S' H' d v → N.rt v H'
def rdS (K : PySem.W.Frag) (m : SM) : TS := fun N sg H => ∃ ph S rho fl rho' S', Sim K ph S H ∧ REnv K ph S H rho sg ∧ m rho S = some ((fl, rho'), S') ∧ PostS K ph S H N fl rho' S'
theorem PostS.of {K : PySem.W.Frag} {ph ph1 : Ph} {S S1 S' : Sto} {H H1 : Hp} {N : Ends} {fl : Fl} {rho : Env} (p : PostS K ph S H N fl rho S') (E : Ext ph S H ph1 S1 H1) : PostS K ph1 S1 H1 N fl rho S' := by
  cases fl with
  | nx => exact fun a b c e => p a b c (E.trans e)
  | bk => exact fun a b c e => p a b c (E.trans e)
  | ct => exact fun a b c e => p a b c (E.trans e)
  | rt d => exact fun a b c e => p a b c (E.trans e)
section
variable {X : Cx}
theorem PS.weak {st : Stmt} {t t' : TS} (h : PS X st t) (k : ∀ N sg H, t' N sg H → t N sg H) : PS X st t' := ⟨fun pins s sg H N I q => h.run pins s sg H N I (k N sg H q)⟩
theorem PSs.weak {st : List Stmt} {t t' : TS} (h : PSs X st t) (k : ∀ N sg H, t' N sg H → t N sg H) : PSs X st t' := ⟨fun pins s sg H N I q => h.run pins s sg H N I (k N sg H q)⟩

/-! ### blocks -/
def mNx : SM := fun rho => ret (.nx, rho)
def mSeq (a b : SM) : SM := fun rho => bnd (a rho) fun p => match p.1 with
  | .nx => b p.2
  | _ => ret p
theorem seq_w {K : PySem.W.Frag} {a b : SM} (N : Ends) (sg : L2.St) (H : Hp) (h : rdS K (mSeq a b) N sg H) : tSeq (rdS K a) (rdS K b) N sg H := by
  obtain ⟨ph, S, rho, fl, rho', S', s, en, e, post⟩ := h
  obtain ⟨⟨f1, r1⟩, S1, e1, e2⟩ := bnd_inv e
  refine ⟨ph, S, rho, f1, r1, S1, s, en, e1, ?_⟩
  cases f1 with
  | nx => exact fun ph1 H1 sg1 E1 s1 en1 => ⟨ph1, S1, r1, fl, rho', S', s1, en1, e2, post.of E1⟩
  | bk => cases e2; exact post
  | ct => cases e2; exact post
  | rt d => cases e2; exact post
theorem s_nil : PSs X [] (rdS X.K mNx) := PSs.weak pss_nil fun N sg H h => by
  obtain ⟨ph, S, rho, fl, rho', S', s, en, e, post⟩ := h
  cases e
  exact post ph H sg Ext.refl s en
theorem s_cons {st : Stmt} {rest : List Stmt} {a b : SM} (h1 : PS X st (rdS X.K a)) (h2 : PSs X rest (rdS X.K b)) : PSs X (st :: rest) (rdS X.K (mSeq a b)) := PSs.weak (pss_cons h1 h2) seq_w
theorem s_one {st : Stmt} {a : SM} (h1 : PS X st (rdS X.K a)) : PSs X [st] (rdS X.K a) := pss_one h1
variable {pos : Pos}
theorem s_pass : PS X (.Pass pos) (rdS X.K mNx) := PS.weak ps_pass fun N sg H h => by
  obtain ⟨ph, S, rho, fl, rho', S', s, en, e, post⟩ := h
  cases e
  exact post ph H sg Ext.refl s en
theorem s_doc {x j pos pos'} : PS X (.Expr (.Constant (.str x) j pos) pos') (rdS X.K mNx) := PS.weak ps_doc fun N sg H h => by
  obtain ⟨ph, S, rho, fl, rho', S', s, en, e, post⟩ := h
  cases e
  exact post ph H sg Ext.refl s en
def mBk : SM := fun rho => ret (.bk, rho)
def mCt : SM := fun rho => ret (.ct, rho)
theorem s_break : PS X (.Break pos) (rdS X.K mBk) := PS.weak ps_break fun N sg H h => by
  obtain ⟨ph, S, rho, fl, rho', S', s, en, e, post⟩ := h
  cases e
  exact post ph H sg Ext.refl s en
theorem s_cont : PS X (.Continue pos) (rdS X.K mCt) := PS.weak ps_continue fun N sg H h => by
  obtain ⟨ph, S, rho, fl, rho', S', s, en, e, post⟩ := h
  cases e
  exact post ph H sg Ext.refl s en
def mRet (me : EM D) : SM := fun rho => bnd (me rho) fun d => ret (.rt d, rho)
theorem s_ret {e : Expr} {me : EM D} (he : PE X e (rdE X.K me)) : PS X (.Return (some e) pos) (rdS X.K (mRet me)) := PS.weak (ps_ret he) fun N sg H h => by
  obtain ⟨ph, S, rho, fl, rho', S', s, en, e, post⟩ := h
  obtain ⟨d, S1, e1, e2⟩ := bnd_inv e
  cases e2
  exact ⟨ph, S, rho, d, _, s, en, e1, fun ph1 H1 v E1 s1 r1 => post ph1 H1 v E1 s1 r1⟩
def mRetN : SM := fun rho => ret (.rt .non, rho)
theorem s_retN : PS X (.Return none pos) (rdS X.K mRetN) := PS.weak ps_retN fun N sg H h => by
  obtain ⟨ph, S, rho, fl, rho', S', s, en, e, post⟩ := h
  cases e
  exact post ph H .non Ext.refl s (by rw [Rep])
def mDrop (me : EM D) : SM := fun rho => bnd (me rho) fun _ => ret (.nx, rho)
theorem s_expr {e : Expr} {me : EM D} (he : PE X e (rdE X.K me)) (hs : swapsWith e none pos.line X.env = pure false := by rfl) : PS X (.Expr e pos) (rdS X.K (mDrop me)) := PS.weak (ps_expr he hs) fun N sg H h => by
  obtain ⟨ph, S, rho, fl, rho', S', s, en, e, post⟩ := h
  obtain ⟨d, S1, e1, e2⟩ := bnd_inv e
  cases e2
  exact ⟨ph, S, rho, d, _, s, en, e1, fun ph1 H1 v E1 s1 r1 => post ph1 H1 sg E1 s1 (en.ext E1)⟩
def mIfS (c : EM Bool) (a b : SM) : SM := fun rho => bnd (c rho) fun t => if t = true then a rho else b rho
theorem s_if {c : Expr} {a b : List Stmt} {mc : EM Bool} {ma mb : SM} (hc : PT X c (rdT X.K mc)) (ha : PSs X a (rdS X.K ma)) (hb : PSs X b (rdS X.K mb)) : PS X (.If c a b pos) (rdS X.K (mIfS mc ma mb)) := PS.weak (ps_if hc ha hb) fun N sg H h => by
  obtain ⟨ph, S, rho, fl, rho', S', s, en, e, post⟩ := h
  obtain ⟨t, S1, e1, e2⟩ := bnd_inv e
  refine ⟨ph, S, rho, t, S1, s, en, e1, fun ph1 H1 E1 s1 => ?_⟩
  cases t with
  | true => exact ⟨ph1, S1, rho, fl, rho', S', s1, en.ext E1, e2, post.of E1⟩
  | false => exact ⟨ph1, S1, rho, fl, rho', S', s1, en.ext E1, e2, post.of E1⟩

/-! ### assignments -/
def mSet (i : Nat) (me : EM D) : SM := fun rho => bnd (me rho) fun d => ret (.nx, rho.set i (some d))
theorem set_w {K : PySem.W.Frag} {i : Nat} {me : EM D} {te : TE} (ew : ∀ sg H Q, rdE K me sg H Q → te sg H Q) (N : Ends) (sg : L2.St) (H : Hp) (h : rdS K (mSet i me) N sg H) : tAsg te (gName i) N sg H := by
  obtain ⟨ph, S, rho, fl, rho', S', s, en, e, post⟩ := h
  obtain ⟨d, S1, e1, e2⟩ := bnd_inv e
  cases e2
  exact ew _ _ _ ⟨ph, S, rho, d, _, s, en, e1, fun ph1 H1 v E1 s1 r1 => post ph1 H1 _ E1 s1 ((en.ext E1).set i r1)⟩
theorem s_set {i : Nat} {x : Str} {e : Expr} {me : EM D} {pos' : Pos} (hN : X.N.Nodup) (he : PE X e (rdE X.K me)) (hi : X.N[i]? = some x := by rfl) (hx : Loc X.env.scope x := by first | exact .inl rfl | exact .inr rfl) (hs : swapsWith e (some (.Name x pos')) pos.line X.env = pure false := by rfl) (hf : X.fn x = true ∨ X.env.scope.names.lookup x = some .local := by first | exact .inl rfl | exact .inr rfl | assumption) :
    PS X (.Assign [.Name x pos'] e pos) (rdS X.K (mSet i me)) := PS.weak (ps_set hN hi hx he hs hf) (set_w fun _ _ _ h => h)
/-- name = [..] on one line -/
theorem s_setLc {i : Nat} {y : Str} {py : Pos} {elt tg iter : Expr} {ifs : List Expr} {scope : Scope} {own : List (Str × Nat)} {pos spos : Pos} {mi : EM Src} {mg : GM} {mt : EM Bool} {me : EM D} (hc : X.calm = true) (hN : X.N.Nodup) (ok : BlkOk X.N X.env.scope scope own) (hi : PI X tg iter (rdI X.K mi))
    (hg : ∀ (s : Shared) (H : Hp) (C : Addr) (cl : List (Str × Addr)) (fp : List Addr), PG (X.blk s H scope (compEnvC scope cl C X.env) fp) tg (rdG X.K (own.map (·.2)) mg))
    (ht : ∀ (s : Shared) (H : Hp) (C : Addr) (cl : List (Str × Addr)) (fp : List Addr), PTs (X.blk s H scope (compEnvC scope cl C X.env) fp) ifs (rdT X.K mt))
    (he : ∀ (s : Shared) (H : Hp) (C : Addr) (cl : List (Str × Addr)) (fp : List Addr), PE (X.blk s H scope (compEnvC scope cl C X.env) fp) elt (rdE X.K me))
    (hsw : swapsWith (.ListComp elt [⟨tg, iter, ifs, 0⟩] scope pos) (some (.Name y py)) spos.line X.env = pure true) (hy : X.N[i]? = some y := by rfl) (hyl : X.env.scope.names.lookup y = some .local := by rfl) (hs : ∀ x, foldedSetIterable iter X.env x = pure x := by intro _; rfl) :
    PS X (.Assign [.Name y py] (.ListComp elt [⟨tg, iter, ifs, 0⟩] scope pos) spos) (rdS X.K (mSet i (mLc mi (own.map (·.2)) mg mt me))) :=
  PS.weak (ps_setLc hc hN hy hyl hsw hi ok hg ht he hs) (set_w (tLc_tree (fun _ _ _ h => h) (fun _ _ _ _ h => h) (fun _ _ _ h => h) fun _ _ _ h => h))
theorem s_setLcN {i : Nat} {y : Str} {py : Pos} {elt tg iter : Expr} {ifs : List Expr} {scope : Scope} {own : List (Str × Nat)} {pos spos : Pos} {mi : EM Src} {mg : GM} {mt : EM Bool} {me : EM D} (hc : X.calm = true) (hN : X.N.Nodup) (ok : BlkOk X.N X.env.scope scope own) (hi : PI X tg iter (rdI X.K mi))
    (hg : ∀ (s : Shared) (H : Hp) (C : Addr) (cl : List (Str × Addr)) (fp : List Addr), PG (X.blk s H scope (compEnvC scope cl C X.env) fp) tg (rdG X.K (own.map (·.2)) mg))
    (ht : ∀ (s : Shared) (H : Hp) (C : Addr) (cl : List (Str × Addr)) (fp : List Addr), PTs (X.blk s H scope (compEnvC scope cl C X.env) fp) ifs (rdT X.K mt))
    (he : ∀ (s : Shared) (H : Hp) (C : Addr) (cl : List (Str × Addr)) (fp : List Addr), PE (X.blk s H scope (compEnvC scope cl C X.env) fp) elt (rdE X.K me))
    (hsw : swapsWith (.ListComp elt [⟨tg, iter, ifs, 0⟩] scope pos) (some (.Name y py)) spos.line X.env = pure true) (hy : X.N[i]? = some y := by rfl) (hyl : X.env.scope.names.lookup y = some .local := by rfl) (hs : ∀ x, foldedSetIterable iter X.env x = pure x := by intro _; rfl) :
    PS X (.Assign [.Name y py] (.ListComp elt [⟨tg, iter, ifs, 0⟩] scope pos) spos) (rdS X.K (mSet i (mLcN mi (own.map (·.2)) mg mt me))) :=
  PS.weak (ps_setLc hc hN hy hyl hsw hi ok hg ht he hs) (set_w (tLc_obj (fun _ _ _ h => h) (fun _ _ _ _ h => h) (fun _ _ _ h => h) fun _ _ _ h => h))
/-- a target of names = a value -/
def mAsg (me : EM D) (mg : GM) : SM := fun rho => bnd (me rho) fun d S => (mg d rho).map fun rho' => ((.nx, rho'), S)
theorem s_asg {vs : List Nat} {tg e : Expr} {me : EM D} {mg : GM} (he : PE X e (rdE X.K me)) (hg : PG X tg (rdG X.K vs mg)) (hs : swapsWithSole [tg] e pos.line X.env = pure false := by rfl) (hw : swappedStores [tg] e X.env = pure none := by rfl)
    (h1 : (assignEach [tg] X.env).map (·.2) = [assign tg X.env] := by rfl) : PS X (.Assign [tg] e pos) (rdS X.K (mAsg me mg)) := PS.weak (ps_asg he hg hs hw h1) fun N sg H h => by
  obtain ⟨ph, S, rho, fl, rho', S', s, en, e, post⟩ := h
  obtain ⟨d, S1, e1, e2⟩ := bnd_inv e
  cases e3 : mg d rho with
  | none => rw [e3] at e2; cases e2
  | some r =>
    rw [e3] at e2; cases e2
    exact ⟨ph, S, rho, d, _, s, en, e1, fun ph1 H1 v E1 s1 r1 => ⟨ph1, _, rho, d, rho', s1, en.ext E1, r1, e3, fun sg' en' _ => post ph1 H1 sg' E1 s1 en'⟩⟩
/-- a, b = x, y -/
def parF (i j : Nat) (rho : Env) (ds : List D) : M (Fl × Env) := fun S => match ds with
  | [c, d] => some ((.nx, (rho.set i (some c)).set j (some d)), S)
  | _ => none
def mPar (i j : Nat) (ma : EM (List D)) : SM := fun rho => bnd (ma rho) (parF i j rho)
theorem s_par {i j : Nat} {x y : Str} {a b : Expr} {ma : EM (List D)} {px py pt : Pos} {kt k2 pt2} (hN : X.N.Nodup) (ha : PA X [a, b] (rdA X.K ma)) (hw : swappedStores [.Tuple [.Name x px, .Name y py] kt pt] (.Tuple [a, b] k2 pt2) X.env = pure (some [x, y]))
    (hc : X.calm = true := by rfl) (hi : X.N[i]? = some x := by rfl) (hj : X.N[j]? = some y := by rfl) (hij : i ≠ j := by decide) (hx : X.env.scope.names.lookup x = some .local := by rfl) (hy : X.env.scope.names.lookup y = some .local := by rfl)
    (hs : swapsWithSole [.Tuple [.Name x px, .Name y py] kt pt] (.Tuple [a, b] k2 pt2) pos.line X.env = pure false := by rfl) :
    PS X (.Assign [.Tuple [.Name x px, .Name y py] kt pt] (.Tuple [a, b] k2 pt2) pos) (rdS X.K (mPar i j ma)) := PS.weak (ps_par hc hN hi hj hij hx hy ha hw hs) fun N sg H h => by
  obtain ⟨ph, S, rho, fl, rho', S', s, en, e, post⟩ := h
  obtain ⟨ds, S1, e1, e2⟩ := bnd_inv e
  unfold parF at e2
  split at e2
  · rename_i c d
    cases e2
    refine ⟨ph, S, rho, _, _, s, en, e1, fun ph1 H1 vs E1 s1 r1 => ?_⟩
    obtain ⟨v, w, rfl, rv, rw'⟩ := RepL.two r1
    exact ⟨v, w, rfl, post ph1 H1 _ E1 s1 (((en.ext E1).set i rv).set j rw')⟩
  · cases e2

/-! ### augmented assignments -/
def IpM (K : PySem.W.Frag) (r : TIp) (f : D → D → M D) : Prop := OpM K r f
def intF (f : Int → Int → Int) : D → D → M D := fun a b S => match a, b with
  | .int i, .int j => some (.int (f i j), S)
  | _, _ => none
theorem ip_int {K : PySem.W.Frag} {f : Int → Int → Int} : OpM K (ipI f) (intF f) := by
  intro ph S H x y dx dy d S' Q s rx ry e post
  unfold intF at e
  split at e
  · cases e
    obtain rfl := rx.intE
    obtain rfl := ry.intE
    exact ⟨_, _, rfl, rfl, post.now s (by rw [Rep])⟩
  · cases e
def mAug (i : Nat) (me : EM D) (f : D → D → M D) : SM := fun rho => match rho[i]? with
  | some (some a) => bnd (me rho) fun b => bnd (f a b) fun c => ret (.nx, rho.set i (some c))
  | _ => fail
theorem s_aug {i : Nat} {x : Str} {e : Expr} {me : EM D} {op : Operator} {ti : TIp} {f : D → D → M D} {pos' : Pos} (hN : X.N.Nodup) (ho : PIp X op ti) (hf' : OpM X.K ti f) (he : PE X e (rdE X.K me)) (hi : X.N[i]? = some x := by rfl) (hx : Loc X.env.scope x := by first | exact .inl rfl | exact .inr rfl) (hf : X.fn x = true ∨ X.env.scope.names.lookup x = some .local := by first | exact .inl rfl | exact .inr rfl | assumption) :
    PS X (.AugAssign (.Name x pos') op e pos) (rdS X.K (mAug i me f)) := PS.weak (ps_aug hN hi hx he ho hf) fun N sg H h => by
  obtain ⟨ph, S, rho, fl, rho', S', s, en, e, post⟩ := h
  unfold mAug at e
  rcases ha : rho[i]? with _ | (_ | a)
  · rw [ha] at e; cases e
  · rw [ha] at e; cases e
  · rw [ha] at e
    obtain ⟨b, S1, e1, e2⟩ := bnd_inv e
    obtain ⟨c, S2, e2, e3⟩ := bnd_inv e2
    cases e3
    obtain ⟨x, hx1, rx⟩ := en.2 i a ha
    exact ⟨x, hx1, ph, S, rho, b, S1, s, en, e1, fun ph1 H1 y E1 s1 r1 => hf' ph1 S1 H1 x y a b c _ _ s1 (rx.ext E1) r1 e2 fun ph2 H2 v E2 s2 r2 => post ph2 H2 _ (E1.trans E2) s2 (((en.ext E1).ext E2).set i r2)⟩
/-- o[i] op= e, of a list that may be changed -/
def putM (a i c : D) : M Unit := fun S => match a, i with
  | .ref n, .int k => match S.ob n with
    | some (.lst ds) => match ixN ds.length k with
      | some j => some ((), S.set n (.lst (ds.set j c)))
      | none => none
    | _ => none
  | _, _ => none
def getM (a i : D) : M D := fun S => match a, i with
  | .ref n, .int k => match S.ob n with
    | some (.lst ds) => match ixN ds.length k with
      | some j => (ds[j]?).map fun d => (d, S)
      | none => none
    | _ => none
  | _, _ => none
def rGetL : V → V → Hp → VK → Prop := fun o i H Q => ∃ p xs k j x, o = .ref p ∧ i = .int k ∧ H p = some (.lst xs) ∧ ixN xs.length k = some j ∧ xs[j]? = some x ∧ Q x H
theorem set_ref {K : PySem.W.Frag} {ph : Ph} {S S' : Sto} {H : Hp} {o i v : V} {da di dv : D} {Q : Hp → Prop} {u : Unit} (s : Sim K ph S H) (ra : Rep K ph S H da o) (ri : Rep K ph S H di i) (rv : Rep K ph S H dv v) (e : putM da di dv S = some (u, S'))
    (post : ∀ H', Ext ph S H ph S' H' → Sim K ph S' H' → Q H') : rSetL o i v H Q := by
  unfold putM at e
  split at e
  · rename_i n k
    split at e
    · rename_i ds hd
      split at e
      · rename_i j hj
        cases e
        obtain ⟨hn, rfl⟩ := ra.refE
        obtain rfl := ri.intE
        obtain ⟨xs, h1, h2⟩ := s.ok n _ hd
        have hs : (S.ob n).isSome = true := by rw [hd]; rfl
        have E : Ext ph S H ph (S.set n (.lst (ds.set j dv))) (upd H (ph.f n) (.lst (xs.set j v))) := Ext.setO s hs
        exact ⟨ph.f n, xs, k, j, rfl, rfl, h1, by rw [h2.len]; exact hj, post _ E (s.setO hs ⟨_, upd_same, (h2.ext E).set j (rv.ext E)⟩)⟩
      · cases e
    · cases e
  · cases e
theorem get_ref {K : PySem.W.Frag} {ph : Ph} {S S' : Sto} {H : Hp} {o i : V} {da di d : D} {Q : VK} (s : Sim K ph S H) (ra : Rep K ph S H da o) (ri : Rep K ph S H di i) (e : getM da di S = some (d, S'))
    (post : ∀ v, S' = S → Rep K ph S H d v → Q v H) : rGetL o i H Q := by
  unfold getM at e
  split at e
  · rename_i n k
    split at e
    · rename_i ds hd
      split at e
      · rename_i j hj
        cases hx : ds[j]? with
        | none => rw [hx] at e; cases e
        | some c =>
          rw [hx] at e; cases e
          obtain ⟨hn, rfl⟩ := ra.refE
          obtain rfl := ri.intE
          obtain ⟨xs, h1, h2⟩ := s.ok n _ hd
          obtain ⟨x, h3, h4⟩ := h2.get hx
          exact ⟨ph.f n, xs, k, j, x, rfl, rfl, h1, by rw [h2.len]; exact hj, h3, post x rfl h4⟩
      · cases e
    · cases e
  · cases e
theorem get_listG : PGet X rGetL := by
  intro pins s sg H o i ov iv Q I ro ri h
  obtain ⟨p, xs, k, j, x, rfl, rfl, hp, hj, hx, q⟩ := h
  cases ro
  obtain ⟨t, rfl⟩ := ri
  obtain ⟨its, r, pl, hz⟩ := I.list (.inl (.inl hp))
  obtain ⟨h1, h2, h3, h4⟩ := ixN_seq hj
  obtain ⟨w, ew, rw'⟩ := r.get hx
  have hl := r.length
  have hn := line63
  have fin : EP X pins sg Q w s := ⟨x, H, I, rw', q⟩
  by_cases h0 : 0 ≤ k
  · have hk : k.toNat = j := by
      rw [seqIndex_of h0 h4] at h1
      exact Option.some.inj h1
    exact wpAny_getItem_list pl.isList h0 (by omega) (by rw [hk]; simpa using ew) fin
  · have hk : (k + (its.toArray.size : Int)).toNat = j := by
      rw [seqIndex_neg (by omega) h3] at h1
      rw [List.size_toArray, ← hl]
      exact Option.some.inj h1
    exact wpAny_getItem_list_neg pl.isList (by omega) (by rw [List.size_toArray] <;> omega) (by omega) (by rw [hk]; simpa using ew) fin
/-- o[i] = v -/
def mPut (mo mi mv : EM D) : SM := fun rho => bnd (mv rho) fun v => bnd (mo rho) fun o => bnd (mi rho) fun i => bnd (putM o i v) fun _ => ret (.nx, rho)
theorem s_put {o i e : Expr} {mo mi mv : EM D} {spos : Pos} (he : PE X e (rdE X.K mv)) (ho : PE X o (rdE X.K mo)) (hi : PE X i (rdE X.K mi))
    (ha : ∀ v, assign (.Subscript o i pos) X.env v = (do
      let ov ← holding [v] (eval o X.env)
      let iv ← holding [v, ov] (eval i X.env)
      standAt pos
      holding [v, ov, iv] (setItem ov iv v)
      release [v, ov, iv] []) := by intro _; rfl)
    (hs : swapsWithSole [.Subscript o i pos] e spos.line X.env = pure false := by rfl) (hw : swappedStores [.Subscript o i pos] e X.env = pure none := by rfl)
    (h1 : (assignEach [.Subscript o i pos] X.env).map (·.2) = [assign (.Subscript o i pos) X.env] := by rfl) :
    PS X (.Assign [.Subscript o i pos] e spos) (rdS X.K (mPut mo mi mv)) := PS.weak (ps_asg he (pg_sub ho hi set_list ha) hs hw h1) fun N sg H h => by
  obtain ⟨ph, S, rho, fl, rho', S', s, en, e, post⟩ := h
  obtain ⟨dv, S1, e1, q2⟩ := bnd_inv e
  obtain ⟨da, S2, e2, q3⟩ := bnd_inv q2
  obtain ⟨di, S3, e3, q4⟩ := bnd_inv q3
  obtain ⟨u, S4, e4, q5⟩ := bnd_inv q4
  cases q5
  exact ⟨ph, S, rho, dv, S1, s, en, e1, fun ph1 H1 v E1 s1 r1 => ⟨ph1, S1, rho, da, S2, s1, en.ext E1, e2, fun ph2 H2 o E2 s2 r2 => ⟨ph2, S2, rho, di, S3, s2, (en.ext E1).ext E2, e3, fun ph3 H3 i E3 s3 r3 =>
    set_ref s3 (r2.ext E3) r3 ((r1.ext E2).ext E3) e4 fun H4 E4 s4 => post ph3 H4 sg (((E1.trans E2).trans E3).trans E4) s4 ((((en.ext E1).ext E2).ext E3).ext E4)⟩⟩⟩
/-- o[i] op= e -/
def mAugS (mo mi me : EM D) (f : D → D → M D) : SM := fun rho => bnd (mo rho) fun o => bnd (mi rho) fun i => bnd (getM o i) fun x => bnd (me rho) fun y => bnd (f x y) fun z => bnd (putM o i z) fun _ => ret (.nx, rho)
theorem s_augS {o i e : Expr} {mo mi me : EM D} {op : Operator} {ti : TIp} {f : D → D → M D} {tpos : Pos} (hp : PIp X op ti) (hf : OpM X.K ti f) (ho : PE X o (rdE X.K mo)) (hi : PE X i (rdE X.K mi)) (he : PE X e (rdE X.K me))
    (ha : ∀ ov iv new, augStore i ov iv new = (do holding [new, ov, iv] (setItem ov iv new); release [new, ov, iv] []; pure .next) := by intros; rfl) : PS X (.AugAssign (.Subscript o i tpos) op e pos) (rdS X.K (mAugS mo mi me f)) :=
  PS.weak (ps_augS ho hi get_listG he hp set_list ha) fun N sg H h => by
  obtain ⟨ph, S, rho, fl, rho', S', s, en, e, post⟩ := h
  obtain ⟨da, S2, e2, q3⟩ := bnd_inv e
  obtain ⟨di, S3, e3, q4⟩ := bnd_inv q3
  obtain ⟨dx, S4, e4, q5⟩ := bnd_inv q4
  obtain ⟨dy, S5, e5, q6⟩ := bnd_inv q5
  obtain ⟨dz, S6, e6, q7⟩ := bnd_inv q6
  obtain ⟨u, S7, e7, q8⟩ := bnd_inv q7
  cases q8
  refine ⟨ph, S, rho, da, S2, s, en, e2, fun ph2 H2 o E2 s2 r2 => ⟨ph2, S2, rho, di, S3, s2, en.ext E2, e3, fun ph3 H3 i E3 s3 r3 => get_ref s3 (r2.ext E3) r3 e4 fun x hS rx => ?_⟩⟩
  subst hS
  refine ⟨ph3, _, rho, dy, S5, s3, (en.ext E2).ext E3, e5, fun ph5 H5 y E5 s5 r5 => hf ph5 S5 H5 x y dx dy dz _ _ s5 (rx.ext E5) r5 e6 fun ph6 H6 z E6 s6 r6 => ?_⟩
  exact set_ref s6 (((r2.ext E3).ext E5).ext E6) ((r3.ext E5).ext E6) r6 e7 fun H7 E7 s7 => post ph6 H7 sg ((((E2.trans E3).trans E5).trans E6).trans E7) s7 (((((en.ext E2).ext E3).ext E5).ext E6).ext E7)

/-! ### for -/
open Classical in
noncomputable def loopGo (src : Src) (mg : GM) (mb : SM) : List D → Env → M (Fl × Env)
  | [], rho, S => if srcOk src S then some ((.nx, rho), S) else none
  | d :: ds, rho, S => if srcOk src S then (mg d rho).bind fun rho1 => bnd (mb rho1) (fun p => match p.1 with
    | .nx => loopGo src mg mb ds p.2
    | .ct => loopGo src mg mb ds p.2
    | .bk => ret (.nx, p.2)
    | .rt r => ret (.rt r, p.2)) S else none
noncomputable def mFor (mi : EM Src) (mg : GM) (mb : SM) : SM := fun rho => bnd (mi rho) fun src => loopGo src mg mb src.ds rho
theorem s_for {vs : List Nat} {tg iter : Expr} {body : List Stmt} {mi : EM Src} {mg : GM} {mb : SM} (hp : PassesOwn (model X.prog X.w) X.A X.env X.xe) (hi : PI X tg iter (rdI X.K mi)) (hg : PG X tg (rdG X.K vs mg)) (hb : PSs X body (rdS X.K mb)) (hc : X.calm = true := by rfl)
    (hs : ∀ x, foldedSetIterable iter X.env x = pure x := by intro _; rfl) : PS X (.For tg iter body [] pos) (rdS X.K (mFor mi mg mb)) := PS.weak (ps_for hp hc hi hg hb hs) fun N sg H h => by
  obtain ⟨ph, S, rho, fl, rho', S', s, en, e, post⟩ := h
  obtain ⟨src, S1, e1, e2⟩ := bnd_inv e
  refine ⟨ph, S, rho, src, S1, s, en, e1, fun ph1 H1 J E1 s1 ok => ?_⟩
  let W : Nat → L2.St → Hp → Prop := fun i sg H => ∃ ph2 S2 rho2, Ext ph1 S1 H1 ph2 S2 H ∧ Sim X.K ph2 S2 H ∧ REnv X.K ph2 S2 H rho2 sg ∧ loopGo src mg mb (src.ds.drop i) rho2 S2 = some ((fl, rho'), S')
  refine ⟨fun i m sg H => m = src.ds.length - i ∧ W i sg H, ⟨_, rfl, ph1, S1, rho, Ext.refl, s1, en.ext E1, e2⟩, ?_⟩
  rintro i m sg2 H2 ⟨rfl, ph2, S2, rho2, E2, s2, en2, eg⟩
  by_cases hlt : i < src.ds.length
  · have hd : src.ds[i]? = some src.ds[i] := List.getElem?_eq_getElem hlt
    generalize hdd : src.ds[i] = d at hd
    rw [List.drop_eq_getElem_cons hlt, hdd] at eg
    unfold loopGo at eg
    split at eg
    · rename_i hok
      obtain ⟨hgo, hy⟩ := ok.go ph2 S2 H2 E2.toExt0 s2 hok i d hd
      refine .inr ⟨hgo, W (i + 1), fun sg' H' w => ⟨_, by omega, rfl, w⟩, fun x H3 y => ?_⟩
      obtain ⟨E3, s3, rx⟩ := hy x H3 y
      cases eG : mg d rho2 with
      | none => rw [eG] at eg; cases eg
      | some rho3 =>
        rw [eG, Option.bind_some] at eg
        obtain ⟨⟨f4, rho4⟩, S4, e4, eg⟩ := bnd_inv eg
        refine ⟨ph2, S2, rho2, d, rho3, s3, en2.ext E3, rx, eG, fun sg3 en3 _ => ⟨ph2, S2, rho3, f4, rho4, S4, s3, en3, e4, ?_⟩⟩
        cases f4 with
        | nx => exact fun ph4 H4 sg4 E4 s4 en4 => ⟨ph4, S4, rho4, (E2.trans E3).trans E4, s4, en4, eg⟩
        | ct => exact fun ph4 H4 sg4 E4 s4 en4 => ⟨ph4, S4, rho4, (E2.trans E3).trans E4, s4, en4, eg⟩
        | bk =>
          cases eg
          exact fun ph4 H4 sg4 E4 s4 en4 => post ph4 H4 sg4 (((E1.trans E2).trans E3).trans E4) s4 en4
        | rt r =>
          cases eg
          exact fun ph4 H4 v E4 s4 r4 => post ph4 H4 v (((E1.trans E2).trans E3).trans E4) s4 r4
    · cases eg
  · rw [List.drop_eq_nil_of_le (by omega)] at eg
    unfold loopGo at eg
    split at eg
    · rename_i hok
      cases eg
      exact .inl ⟨ok.stop _ _ H2 E2.toExt0 s2 hok i (by omega), post ph2 H2 sg2 (E1.trans E2) s2 en2⟩
    · cases eg

/-! ### while -/
def whileN (c : EM Bool) (b : SM) : Nat → Env → M (Fl × Env)
  | 0, _, _ => none
  | n + 1, rho, S => bnd (c rho) (fun t => if t = true then bnd (b rho) fun p => match p.1 with
    | .nx => whileN c b n p.2
    | .ct => whileN c b n p.2
    | .bk => ret (.nx, p.2)
    | .rt r => ret (.rt r, p.2) else ret (.nx, rho)) S
open Classical in
noncomputable def mWhile (c : EM Bool) (b : SM) : SM := fun rho S => if h : ∃ n r, whileN c b n rho S = some r then some (Classical.choose (Classical.choose_spec h)) else none
theorem s_while {c : Expr} {body : List Stmt} {mc : EM Bool} {mb : SM} (hp : PassesOwn (model X.prog X.w) X.A X.env X.xe) (hc : PT X c (rdT X.K mc)) (hb : PSs X body (rdS X.K mb)) : PS X (.While c body [] pos) (rdS X.K (mWhile mc mb)) := PS.weak (ps_while hp hc hb) fun N sg H h => by
  obtain ⟨ph, S, rho, fl, rho', S', s, en, e, post⟩ := h
  unfold mWhile at e
  split at e
  · rename_i hex
    have hn := Classical.choose_spec (Classical.choose_spec hex)
    have e' : Classical.choose (Classical.choose_spec hex) = ((fl, rho'), S') := Option.some.inj e
    rw [e'] at hn
    refine ⟨fun m sg H => ∃ ph2 S2 rho2, Ext ph S _ ph2 S2 H ∧ Sim X.K ph2 S2 H ∧ REnv X.K ph2 S2 H rho2 sg ∧ whileN mc mb m rho2 S2 = some ((fl, rho'), S'), ⟨_, ph, S, rho, Ext.refl, s, en, hn⟩, ?_⟩
    rintro m sg2 H2 ⟨ph2, S2, rho2, E2, s2, en2, eg⟩
    cases m with
    | zero => cases eg
    | succ m =>
      unfold whileN at eg
      obtain ⟨t, S3, e3, eg⟩ := bnd_inv eg
      refine ⟨ph2, S2, rho2, t, S3, s2, en2, e3, fun ph3 H3 E3 s3 => ?_⟩
      cases t with
      | false =>
        cases eg
        exact post ph3 H3 sg2 (E2.trans E3) s3 (en2.ext E3)
      | true =>
        rw [if_pos rfl] at eg
        obtain ⟨⟨f4, rho4⟩, S4, e4, eg⟩ := bnd_inv eg
        refine ⟨fun sg H => ∃ ph2 S2 rho2, Ext ph S _ ph2 S2 H ∧ Sim X.K ph2 S2 H ∧ REnv X.K ph2 S2 H rho2 sg ∧ whileN mc mb m rho2 S2 = some ((fl, rho'), S'), fun sg' H' w => ⟨m, by omega, w⟩, ph3, S3, rho2, f4, rho4, S4, s3, en2.ext E3, e4, ?_⟩
        cases f4 with
        | nx => exact fun ph4 H4 sg4 E4 s4 en4 => ⟨ph4, S4, rho4, (E2.trans E3).trans E4, s4, en4, eg⟩
        | ct => exact fun ph4 H4 sg4 E4 s4 en4 => ⟨ph4, S4, rho4, (E2.trans E3).trans E4, s4, en4, eg⟩
        | bk =>
          cases eg
          exact fun ph4 H4 sg4 E4 s4 en4 => post ph4 H4 sg4 ((E2.trans E3).trans E4) s4 en4
        | rt r =>
          cases eg
          exact fun ph4 H4 v E4 s4 r4 => post ph4 H4 v ((E2.trans E3).trans E4) s4 r4
  · cases e
end
end Mn

set_option maxRecDepth 100000
set_option maxHeartbeats 1000000
/-! Mn: defs. -/
namespace Mn
open PySem PySem.Spec PyProof.Rows L2

/-- a def's promise, told by a plain function of its arguments; no representation of a value is going on around it -/
def spM (K : PySem.W.Frag) (n : Nat) (f : List D → M D) : Sp := fun vs H Q _ => vs.length = n ∧ ∃ ph S ds d S', Sim K ph S H ∧ RepL K ph S H ds vs ∧ f ds S = some (d, S') ∧ PostE K ph S H Q d S'
structure FnG (P : Program) (w : World) (K : PySem.W.Frag) (mg : Str → Option Value) (base : Heap) (k : Nat) (f : Addr) (fd : FuncData) (ps : List Str) (m : List D → M D) : Prop where
  run : ∀ (A : Around) (outer : List PySem.Env) (s : Shared) (H : Hp) (args : Args) (us : List Value) (vs : List V) (Q : VK), Room k A → A.guards = some [] → Env0 P w K mg base A outer s H → BindsTo s fd args (ps.zip us) → Vals vs us → spM K ps.length m vs H Q E0 →
    codeAny (model P w) A (.call (.ref f) args) (CR CX0 outer P w H s Q E0) s
theorem FnG.mono {P : Program} {w : World} {K : PySem.W.Frag} {mg : Str → Option Value} {base : Heap} {j k : Nat} {f : Addr} {fd : FuncData} {ps : List Str} {m : List D → M D} (F : FnG P w K mg base j f fd ps m) (h : j ≤ k) : FnG P w K mg base k f fd ps m :=
  ⟨fun A outer s H args us vs Q hr => F.run A outer s H args us vs Q (hr.mono h)⟩

def startR (n : Nat) (ds : List D) : Mn.Env := ds.map some ++ List.replicate (n - ds.length) none
theorem REnv.start {K : PySem.W.Frag} {ph : Ph} {S : Sto} {H : Hp} {ds : List D} {vs : List V} (N : List Str) (r : RepL K ph S H ds vs) : REnv K ph S H (startR N.length ds) (L2.start N vs) := by
  have hl := r.len
  unfold startR L2.start
  refine ⟨by simp [hl], fun i d h => ?_⟩
  by_cases hi : i < ds.length
  · rw [List.getElem?_append_left (by simpa using hi), List.getElem?_map] at h
    cases e : ds[i]? with
    | none => rw [e] at h; cases h
    | some c =>
      rw [e] at h
      obtain rfl : c = d := by simpa using h
      obtain ⟨x, h1, h2⟩ := r.get e
      exact ⟨x, by rw [List.getElem?_append_left (by simp [hl, hi]), List.getElem?_map, h1]; rfl, h2⟩
  · rw [List.getElem?_append_right (by simpa using hi), List.getElem?_replicate] at h
    split at h <;> cases h
/-- a def by its body -/
def mDef (n : Nat) (m : SM) : List D → M D := fun ds => bnd (m (startR n ds)) fun p => match p.1 with
  | .rt d => ret d
  | .nx => ret .non
  | _ => fail
section
variable {P : Program} {w : World} {K : PySem.W.Frag} {mg : Str → Option Value} {base : Heap} {k : Nat} {f : Addr} {fd : FuncData} {ps N : List Str}
theorem body_w {m : SM} {ds : List D} {d : D} {vs : List V} {ph : Ph} {S S' : Sto} {H : Hp} {Q : VK} (s : Sim K ph S H) (r : RepL K ph S H ds vs) (e : mDef N.length m ds S = some (d, S')) (post : PostE K ph S H Q d S') :
    rdS K m { nx := fun _ H' => Q .non H', rt := Q } (L2.start N vs) H := by
  obtain ⟨⟨fl, rho⟩, S1, e1, e2⟩ := bnd_inv e
  refine ⟨ph, S, _, fl, rho, S1, s, REnv.start N r, e1, ?_⟩
  cases fl with
  | rt c => cases e2; exact fun ph1 H1 v E1 s1 r1 => post ph1 H1 v E1 s1 r1
  | nx => cases e2; exact fun ph1 H1 sg E1 s1 _ => post ph1 H1 .non E1 s1 (by rw [Rep])
  | bk => cases e2
  | ct => cases e2
theorem fnT_of {x qual : Str} {st : Stmt} (m : SM) (F : Fun K x qual st f fd) (Sc : FnScope N ps (defScope st))
    (hbody : ∀ (cdv : Value), fd.code = cdv → ∀ (A : Around) (outer : List PySem.Env) (s : Shared) (H : Hp) (E : XK), Room k (A.deeper (envOfC qual (defScope st) s.heap.objs.size f cdv)) → A.guards = some [] →
      PSs (cxOf CX0 P w K mg base N qual (defScope st) f cdv A outer s H E).nox (defBody st) (rdS K m)) : FnG P w K mg base (k + 1) f fd ps (mDef N.length m) := by
  obtain ⟨oc, od, kV, doc, pm, an, cdv, ct, osl, rfl, lk, hcd⟩ := F.ex
  refine ⟨fun A outer s H args us vs Q hr hg e0 hb r hsp => ?_⟩
  obtain ⟨hl, ph, S, ds, d, S', sim, rl, e, post⟩ := hsp
  have KX : K.In s.heap := e0.mod.kin.keeps fun b o z => (e0.bs b o z).1
  have lims : s.heap.NoLimit := e0.mod.nolimit.keeps fun b o z => (e0.bs b o z).1
  refine codeAny_call_function hr.depth (KX _ _ lk) rfl Sc.co Sc.gen rfl (PySem.W.codeRec_of KX hcd) (hb _ _ _ _ ?_)
  refine wpAny_newFunctionEnv_cells Sc.kind (fun ⟨n, v⟩ hy => (Sc.par n (List.of_mem_zip hy).1).imp id fun q => ⟨q, PySem.W.cellsFrom_some _ _ _ (.inl q)⟩) fun env he s1 x => ?_
  subst he
  refine ⟨lims.keeps x.toInCall.keep, codeAny_func ?_⟩
  have I : Inv (cxOf CX0 P w K mg base N qual (defScope st) f cdv A outer s H E0) [] (L2.start N vs) H s1 := inv_start Sc hr.hd e0 hl r x
  refine wpAny_mono ((hbody cdv rfl A outer s H E0 (hr.deeper _) hg).nox.run [] s1 (L2.start N vs) H _ I (body_w sim rl e post)) (fun fl s' hs => ?_) fun _ _ z => z
  cases fl with
  | ret u =>
    obtain ⟨v, _, H', J, rv, q⟩ := hs
    exact ⟨v, H', J.os, J.bare, J.base, J.hok, rv, q⟩
  | next =>
    obtain ⟨_, H', J, q⟩ := hs
    exact ⟨.non, H', J.os, J.bare, J.base, J.hok, rfl, q⟩
  | brk =>
    obtain ⟨_, _, _, q⟩ := hs
    exact False.elim q
  | cont =>
    obtain ⟨_, _, _, q⟩ := hs
    exact False.elim q
theorem fnG_of {x qual : Str} {st : Stmt} (m : SM) (F : Fun K x qual st f fd) (Sc : FnScope N ps (defScope st))
    (hbody : ∀ (cdv : Value) (A : Around) (outer : List PySem.Env) (s : Shared) (H : Hp) (E : XK), Room k (A.deeper (envOfC qual (defScope st) s.heap.objs.size f cdv)) → A.guards = some [] →
      PSs (cxOf CX0 P w K mg base N qual (defScope st) f cdv A outer s H E).nox (defBody st) (rdS K m)) : FnG P w K mg base (k + 1) f fd ps (mDef N.length m) := fnT_of m F Sc fun cdv _ => hbody cdv
end

/-! ### calls -/
section
variable {X : Cx} {k : Nat} {f : Addr} {fd : FuncData} {ps : List Str}
def mFn (n : Nat) (g : List D → M D) (ma : EM (List D)) : EM D := fun rho => bnd (ma rho) fun ds => if ds.length = n then g ds else fail
theorem runG {m : List D → M D} {pins : List (Addr × Obj)} {sg : L2.St} {H : Hp} {s : Shared} {Q : VK} {us : List Value} {vs : List V} (F : FnG X.prog X.w X.K X.mg X.base k f fd ps m) (hr : Room k X.A) (hg : X.A.guards = some []) (hb : Binds X.K fd ps []) (I : Inv X pins sg H s) (r : Vals vs us)
    (h : spM X.K ps.length m vs H Q E0) : wpAny (model X.prog X.w) X.A (call (.ref f) us) (EP X pins sg Q) X.xe s := by
  have hl : (us ++ []).length = ps.length := by rw [List.append_nil, ← r.length]; exact h.1
  have hb' := hb s us I.kIn hl
  rw [List.append_nil] at hb'
  refine wpAny_call (codeAny_mono (F.run X.A X.stack s H ⟨us, []⟩ us vs Q hr hg I.env0 hb' r h) fun q s' hq => ?_)
  cases q with
  | error e => exact False.elim hq
  | ok fl =>
    cases fl with
    | ret u => exact I.after hq
    | next => exact False.elim hq
    | brk => exact False.elim hq
    | cont => exact False.elim hq
theorem call_w {K : PySem.W.Frag} {n : Nat} {g : List D → M D} {ma : EM (List D)} {sg : L2.St} {H : Hp} {Q : VK} (h : rdE K (mFn n g ma) sg H Q) : tCB (fun vs H Q => spM K n g vs H Q E0) (rdA K ma) sg H Q := by
  obtain ⟨ph, S, rho, d, S', s, en, e, post⟩ := h
  obtain ⟨ds, S1, e1, e2⟩ := bnd_inv e
  split at e2
  · rename_i hl
    exact ⟨ph, S, rho, ds, S1, s, en, e1, fun ph1 H1 vs E1 s1 r1 => ⟨by rw [r1.len]; exact hl, ph1, S1, ds, d, S', s1, r1, e2, post.of E1⟩⟩
  · cases e2
theorem e_call {x : Str} {p pos : Pos} {e : Expr} {es : List Expr} {m : List D → M D} {ma : EM (List D)} (F : FnG X.prog X.w X.K X.mg X.base k f fd ps m) (hr : Room k X.A) (hG : X.A.guards = some []) (hm : X.mg x = some (.ref f)) (hk : PySem.W.keepIn X.K (.ref f) = true) (hb : Binds X.K fd ps [])
    (ha : PA X (e :: es) (rdA X.K ma)) (hg : Gl X x := by rfl) (hdb : (x == ("__debug__" : Str)) = false := by decide) (he : starEach (e :: es) X.env = (false, eval e X.env) :: starEach es X.env := by rfl) (hpl : (backTo pos (starEach es X.env)).any (·.1) = false := by rfl) :
    PE X (.Call (.Name x p) (e :: es) [] pos) (rdE X.K (mFn ps.length m ma)) := by
  refine ⟨fun pins s sg H Q I h => ?_⟩
  refine wpAny_Call_Name_kw (ld_glob I hg hm ?_ hdb)
  refine PySem.W.callWith_K (h₀ := X.base) I.ok.mod.kin hk (thn (ha.run pos pins s sg H _ I (call_w h)) fun us s1 ⟨vs, H1, I1, r, q⟩ => ⟨I1.kIn, ?_⟩) he hpl
  exact runG F hr hG hb I1 r q

/-! ### methods of lists that may be changed -/
theorem ref_ty {K : PySem.W.Frag} {ph : Ph} {S : Sto} {H : Hp} {n : Nat} {ds : List D} {v : V} (s : Sim K ph S H) (r : Rep K ph S H (.ref n) v) (h : S.ob n = some (.lst ds)) : tyV K "list" v H := by
  obtain ⟨_, rfl⟩ := r.refE
  obtain ⟨xs, h1, _⟩ := s.ok n _ h
  exact .inl ⟨rfl, xs, .inl (.inl h1)⟩
def mMet (mo : EM D) (ma : EM (List D)) (f : D → List D → M D) : EM D := fun rho => bnd (mo rho) fun o S => match o with
  | .ref n => match S.ob n with
    | some (.lst _) => bnd (ma rho) (fun ds => f o ds) S
    | _ => none
  | _ => none
theorem e_met {o e : Expr} {es : List Expr} {name : Str} {apos cpos : Pos} {id : String} {r : V → List V → Hp → VK → Prop} {f : D → List D → M D} {mo : EM D} {ma : EM (List D)} (hm : MtR X id r)
    (hf : ∀ ph S H x xs dx dxs d S' (Q : VK), Sim X.K ph S H → Rep X.K ph S H dx x → RepL X.K ph S H dxs xs → f dx dxs S = some (d, S') → PostE X.K ph S H Q d S' → r x xs H Q) (slot : Slot "list" name id) (ho : PE X o (rdE X.K mo)) (ha : PA X (e :: es) (rdA X.K ma))
    (hty : typeOf (.builtin id) = pure (.type "method_descriptor") := by first | exact PySem.F.type_list_append | exact PySem.F.type_list_insert | exact PySem.F.type_list_extend | exact PySem.F.type_list_pop | exact PySem.F.type_list_index | exact PySem.F.type_list_count | exact PySem.F.type_list_remove)
    (hbase : attributeBase o name X.env (eval o X.env) = eval o X.env := by rfl)
    (hfew : ((backTo cpos (starEach (e :: es) X.env)).all (fun x => !x.1) && (backToKw cpos (keywordEach [] X.env)).all (fun x => x.1.isSome)
      && decide ((e :: es).length + ([] : List Keyword).length + (if ([] : List Keyword).isEmpty then 0 else 1) < 30)) = true := by rfl)
    (hline : (apos.endLine == cpos.line) = true := by rfl) (hs : starEach (e :: es) X.env = (false, eval e X.env) :: starEach es X.env := by rfl) (hplain : (backTo cpos (starEach es X.env)).any (·.1) = false := by rfl) :
    PE X (.Call (.Attribute o name apos) (e :: es) [] cpos) (rdE X.K (mMet mo ma f)) := PE.weak (pe_bm PySem.F.plainAttrs_list slot hty hm ho ha hbase hfew hline hs hplain) fun sg H Q h => by
  obtain ⟨ph, S, rho, d, S', s, en, e, post⟩ := h
  obtain ⟨o, S1, e1, e2⟩ := bnd_inv e
  split at e2
  · rename_i n
    split at e2
    · rename_i l hl
      obtain ⟨ds, S2, e3, e4⟩ := bnd_inv e2
      exact ⟨ph, S, rho, _, S1, s, en, e1, fun ph1 H1 x E1 s1 r1 => ⟨ref_ty s1 r1 hl, ph1, S1, rho, ds, S2, s1, en.ext E1, e3, fun ph2 H2 xs E2 s2 r2 => hf ph2 S2 H2 x xs _ ds d S' Q s2 (r1.ext E2) r2 e4 (post.of (E1.trans E2))⟩⟩
    · cases e2
  · cases e2
variable {K : PySem.W.Frag}
/-- what stands in an object -/
theorem ref_at {ph : Ph} {S : Sto} {H : Hp} {n : Nat} {ds : List D} {v : V} (s : Sim K ph S H) (r : Rep K ph S H (.ref n) v) (h : S.ob n = some (.lst ds)) : ∃ xs, v = .ref (ph.f n) ∧ H (ph.f n) = some (.lst xs) ∧ RepL K ph S H ds xs ∧ (S.ob n).isSome = true := by
  obtain ⟨_, rfl⟩ := r.refE
  obtain ⟨xs, h1, h2⟩ := s.ok n _ h
  exact ⟨xs, rfl, h1, h2, by rw [h]; rfl⟩
theorem put_at {ph : Ph} {S : Sto} {H : Hp} {n : Nat} {ds : List D} {xs : List V} (s : Sim K ph S H) (h : (S.ob n).isSome = true) (r : RepL K ph S H ds xs) :
    Ext ph S H ph (S.set n (.lst ds)) (upd H (ph.f n) (.lst xs)) ∧ Sim K ph (S.set n (.lst ds)) (upd H (ph.f n) (.lst xs)) :=
  have E : Ext ph S H ph (S.set n (.lst ds)) (upd H (ph.f n) (.lst xs)) := Ext.setO s h
  ⟨E, s.setO h ⟨_, upd_same, r.ext E⟩⟩
def appM (o : D) (as : List D) : M D := fun S => match o, as with
  | .ref n, [y] => match S.ob n with
    | some (.lst ds) => if ds.length < lim then some (.non, S.set n (.lst (ds ++ [y]))) else none
    | _ => none
  | _, _ => none
theorem app_ok {ph : Ph} {S : Sto} {H : Hp} {x : V} {xs : List V} {dx : D} {dxs : List D} {d : D} {S' : Sto} {Q : VK} (s : Sim K ph S H) (rx : Rep K ph S H dx x) (rxs : RepL K ph S H dxs xs) (e : appM dx dxs S = some (d, S')) (post : PostE K ph S H Q d S') : rAppend x xs H Q := by
  unfold appM at e
  split at e
  · rename_i n y
    split at e
    · rename_i ds hd
      split at e
      · rename_i hl
        cases e
        obtain ⟨ys, rfl, h1, h2, h3⟩ := ref_at s rx hd
        obtain ⟨v, rfl, rv⟩ := RepL.one rxs
        obtain ⟨E, s2⟩ := put_at s h3 (h2.app (.cons rv .nil))
        exact ⟨_, ys, v, rfl, rfl, h1, by rw [h2.len]; exact hl, post _ _ _ E s2 (by rw [Rep])⟩
      · cases e
    · cases e
  · cases e
theorem e_append {o e : Expr} {apos cpos : Pos} {mo : EM D} {ma : EM (List D)} (ho : PE X o (rdE X.K mo)) (ha : PA X [e] (rdA X.K ma))
    (hbase : attributeBase o "append" X.env (eval o X.env) = eval o X.env := by rfl)
    (hfew : ((backTo cpos (starEach [e] X.env)).all (fun x => !x.1) && (backToKw cpos (keywordEach [] X.env)).all (fun x => x.1.isSome)
      && decide ([e].length + ([] : List Keyword).length + (if ([] : List Keyword).isEmpty then 0 else 1) < 30)) = true := by rfl)
    (hline : (apos.endLine == cpos.line) = true := by rfl) (hs : starEach [e] X.env = (false, eval e X.env) :: starEach [] X.env := by rfl) (hplain : (backTo cpos (starEach [] X.env)).any (·.1) = false := by rfl) :
    PE X (.Call (.Attribute o "append" apos) [e] [] cpos) (rdE X.K (mMet mo ma appM)) := e_met mt_append (fun _ _ _ _ _ _ _ _ _ _ s rx rxs e p => app_ok s rx rxs e p) PySem.F.slot_list_append ho ha PySem.F.type_list_append hbase hfew hline hs hplain
/-- list.insert at a place from 0 on -/
def insM (o : D) (as : List D) : M D := fun S => match o, as with
  | .ref n, [.int i, y] => match S.ob n with
    | some (.lst ds) => if ds.length < lim ∧ 0 ≤ i ∧ i < 2 ^ 63 then some (.non, S.set n (.lst (ds.take i.toNat ++ y :: ds.drop i.toNat))) else none
    | _ => none
  | _, _ => none
theorem ins_ok {ph : Ph} {S : Sto} {H : Hp} {x : V} {xs : List V} {dx : D} {dxs : List D} {d : D} {S' : Sto} {Q : VK} (s : Sim K ph S H) (rx : Rep K ph S H dx x) (rxs : RepL K ph S H dxs xs) (e : insM dx dxs S = some (d, S')) (post : PostE K ph S H Q d S') :
    ∃ (l : Addr) (zs : List V) (i : Int) (y : V), x = .ref l ∧ xs = [.int i, y] ∧ H l = some (.lst zs) ∧ zs.length < sizeLine ∧ 0 ≤ i ∧ i < 2 ^ 63 ∧ Q .non (upd H l (.lst (zs.take i.toNat ++ [y] ++ zs.drop i.toNat))) := by
  unfold insM at e
  split at e
  · rename_i n i y
    split at e
    · rename_i ds hd
      split at e
      · rename_i hl
        cases e
        obtain ⟨ys, rfl, h1, h2, h3⟩ := ref_at s rx hd
        obtain ⟨u, v, rfl, ru, rv⟩ := RepL.two rxs
        obtain rfl := ru.intE
        obtain ⟨E, s2⟩ := put_at s h3 (((h2.take i.toNat).app (.cons rv .nil)).app (h2.drop i.toNat))
        refine ⟨_, ys, i, v, rfl, rfl, h1, by rw [h2.len]; exact hl.1, hl.2.1, hl.2.2, ?_⟩
        have e3 : ds.take i.toNat ++ y :: ds.drop i.toNat = ds.take i.toNat ++ [y] ++ ds.drop i.toNat := by simp
        rw [e3] at post
        exact post _ _ _ E s2 (by rw [Rep])
      · cases e
    · cases e
  · cases e
theorem e_insert {o e e2 : Expr} {apos cpos : Pos} {mo : EM D} {ma : EM (List D)} (ho : PE X o (rdE X.K mo)) (ha : PA X [e, e2] (rdA X.K ma))
    (hbase : attributeBase o "insert" X.env (eval o X.env) = eval o X.env := by rfl)
    (hfew : ((backTo cpos (starEach [e, e2] X.env)).all (fun x => !x.1) && (backToKw cpos (keywordEach [] X.env)).all (fun x => x.1.isSome)
      && decide ([e, e2].length + ([] : List Keyword).length + (if ([] : List Keyword).isEmpty then 0 else 1) < 30)) = true := by rfl)
    (hline : (apos.endLine == cpos.line) = true := by rfl) (hs : starEach [e, e2] X.env = (false, eval e X.env) :: starEach [e2] X.env := by rfl) (hplain : (backTo cpos (starEach [e2] X.env)).any (·.1) = false := by rfl) :
    PE X (.Call (.Attribute o "insert" apos) [e, e2] [] cpos) (rdE X.K (mMet mo ma insM)) := e_met mt_insert (fun _ _ _ _ _ _ _ _ _ _ s rx rxs e p => ins_ok s rx rxs e p) PySem.F.slot_list_insert ho ha PySem.F.type_list_insert hbase hfew hline hs hplain
end

/-! ### the law's own walk -/
section
def ph0 : Ph := ⟨fun _ => 0, []⟩
def S0 : Sto := ⟨0, fun _ => none⟩
theorem sim0 {K : PySem.W.Frag} {H : Hp} : Sim K ph0 S0 H := ⟨fun _ _ e => (nomatch e), fun _ _ e => (nomatch e), fun _ _ e => (nomatch e), fun _ h => (nomatch h)⟩
theorem ints_rep {K : PySem.W.Frag} {ph : Ph} {S : Sto} {H : Hp} : ∀ ns : List Int, RepL K ph S H (ns.map D.int) (ns.map V.int)
  | [] => .nil
  | n :: ns => .cons (by rw [Rep]) (ints_rep ns)
/-- the script -/
def scr (ns : List Int) : D := .rol (ns.map .int)
theorem script_rep {K : PySem.W.Frag} {H : Hp} {a : Addr} {ns : List Int} (h : SqL K H a (ns.map V.int)) : RepL K ph0 S0 H [scr ns] [.ref a] := by
  refine .cons ?_ .nil
  unfold scr
  rw [Rep]
  refine ⟨a, _, rfl, ?_, ints_rep ns⟩
  rcases h with h | h
  · exact .inl ⟨h, by rintro (q | ⟨n, q, _⟩); cases q; cases q⟩
  · exact .inr (.inr h)
theorem law_sp {K : PySem.W.Frag} {H : Hp} {a : Addr} {ns : List Int} {m : List D → M D} (hS : SqL K H a (ns.map V.int)) (e : ∃ S', m [scr ns] S0 = some (.bl true, S')) : spM K 1 m [.ref a] H (fun v _ => v = .bl true) E0 := by
  obtain ⟨S', e⟩ := e
  exact ⟨rfl, ph0, S0, _, _, S', sim0, script_rep hS, e, fun ph H' v E s r => r.blE⟩
end
end Mn

set_option maxRecDepth 100000
set_option maxHeartbeats 1000000
/-! Mn: from the law's def to its claim. -/
namespace Mn
open PySem PySem.Spec PyProof.Rows L2

section
variable {P : Program} {w : World} {K : PySem.W.Frag} {mg mb : Str → Option Value} {k : Nat} {fa a : Addr} {fd : FuncData} {x : Str} {m : List D → M D} {s1 : Shared} {vs : List Value} {ns : List Int}
/-- with a heap told in which nothing stands but the script, if that -/
theorem lawG_at (KX : K.In s1.heap) (hns : s1.heap.Ns mainGlobals mg) (hb : s1.heap.Ns builtinsNs mb) (hbb : ∀ x : Str, x ≠ "__name__" → mb x = bootBuiltins x) (hlim : s1.heap.NoLimit) (hg : s1.gens = #[])
    (ha : s1.heap.get? a = some { cls := .type "list", data := .seq vs.toArray }) (hr : Room k callerA)
    (F : ∀ base : Heap, K.In base → base.Ns mainGlobals mg → FnG P w K mg base k fa fd [x] m) (hbind : ∀ (s : Shared) (u : Value), BindsTo s fd ⟨[u], []⟩ [(x, u)])
    {H : Hp} (sp : spM K 1 m [.ref a] H (fun v _ => v = .bl true) E0) (fz : ∀ b u, H b = some u → b = a ∧ (∃ ob xs, u = .frz ob (.lst xs)) ∧ K.lookup a = none) (hok : HOk P w H s1.heap) :
    codeAny (model P w) callerA (.call (.ref fa) ⟨[.ref a], []⟩) (fun r s' => r = .ok (.ret (.bool true)) ∧ OldK s1.heap s'.heap ∧ s'.os = s1.os ∧ AllBare s'.gens) s1 := by
  have old : ∀ {b : Addr} {o : Obj}, s1.heap.get? b = some o → ((∃ es ep, o.data = .dict es ep) ∨ K.lookup b = some o) → (hidT s1.heap H).get? b = some o := fun {b o} e c => hidT_get e (by
    cases q : H b with
    | none => rfl
    | some u =>
      exfalso
      obtain ⟨rfl, _, hk⟩ := fz b u q
      rcases c with ⟨es, ep, d⟩ | c
      · rw [ha] at e; cases e; cases d
      · rw [hk] at c; cases c)
  have nsK : ∀ {b : Addr} {g : Str → Option Value}, s1.heap.Ns b g → (hidT s1.heap H).Ns b g := fun {b g} ⟨o, es, ep, e, d, r⟩ => ⟨o, es, ep, old e (.inl ⟨es, ep, d⟩), d, r⟩
  have inb : K.In (hidT s1.heap H) := fun b o e => old (KX b o e) (.inr e)
  have md : Mod K mg (hidT s1.heap H) := ⟨inb, nsK hns, ⟨mb, nsK hb, hbb⟩, let ⟨g, h1, h2⟩ := hlim; ⟨g, nsK h1, h2⟩⟩
  refine codeAny_mono ((F _ inb (nsK hns)).run callerA [] s1 H ⟨[.ref a], []⟩ [.ref a] [.ref a] _ hr rfl ⟨rfl, md, fun b o e => of_hidT e, Nat.le_of_eq (hidT_size _ _), trivial, fun b hb => (nomatch hb), hok, .of_eq hg⟩ (hbind s1 (.ref a)) (.cons rfl .nil) sp) fun r s' h => ?_
  match r, h with
  | .ok (.ret u), h =>
    obtain ⟨v, H', os, bare, un, hok', r', q⟩ := h
    obtain rfl : v = V.bl true := q
    obtain rfl : u = Value.bool true := r'
    refine ⟨rfl, OldK.of_keep fun b o e => ?_, os, bare⟩
    cases q : H b with
    | none => exact un.keep b o e q (fun z => nomatch z) (fun z => nomatch z)
    | some u =>
      obtain ⟨_, ⟨ob, xs, rfl⟩, _⟩ := fz b u q
      have e1 := (hok b _ q).1
      have e2 := (hok' b _ (un.frzs b ob _ q)).1
      rw [e] at e1; cases e1
      exact e2
theorem lawG (KX : K.In s1.heap) (hns : s1.heap.Ns mainGlobals mg) (hb : s1.heap.Ns builtinsNs mb) (hbb : ∀ x : Str, x ≠ "__name__" → mb x = bootBuiltins x) (hlim : s1.heap.NoLimit) (hg : s1.gens = #[])
    (ha : s1.heap.get? a = some { cls := .type "list", data := .seq vs.toArray }) (hi : IntsAre vs ns) (hl : ns.length ≤ sizeLine) (hr : Room k callerA)
    (F : ∀ base : Heap, K.In base → base.Ns mainGlobals mg → FnG P w K mg base k fa fd [x] m) (hbind : ∀ (s : Shared) (u : Value), BindsTo s fd ⟨[u], []⟩ [(x, u)])
    (e : ∃ S', m [scr ns] S0 = some (.bl true, S')) :
    codeAny (model P w) callerA (.call (.ref fa) ⟨[.ref a], []⟩) (fun r s' => r = .ok (.ret (.bool true)) ∧ OldK s1.heap s'.heap ∧ s'.os = s1.os ∧ AllBare s'.gens) s1 := by
  have rv := vals_ints hi
  cases hk : K.lookup a with
  | some o =>
    have z := KX a o hk
    rw [ha] at z; cases z
    exact lawG_at KX hns hb hbb hlim hg ha hr F hbind (H := fun _ => none) (law_sp (.inr ⟨_, vs.toArray, _, hk, rfl, rfl, rfl, by rw [List.size_toArray, hi.length]; exact hl, by simpa using rv⟩) e) (fun b u q => by cases q) fun b u q => by cases q
  | none =>
    have at_a : ∀ {b : Addr} {u : HO}, (if b = a then some (HO.frz { cls := .type "list", data := .seq vs.toArray } (.lst (ns.map V.int))) else none) = some u → b = a ∧ u = .frz { cls := .type "list", data := .seq vs.toArray } (.lst (ns.map V.int)) := fun {b u} q => by
      by_cases h : b = a
      · rw [if_pos h] at q; exact ⟨h, (Option.some.inj q).symm⟩
      · rw [if_neg h] at q; cases q
    refine lawG_at KX hns hb hbb hlim hg ha hr F hbind (H := fun b => if b = a then some (.frz { cls := .type "list", data := .seq vs.toArray } (.lst (ns.map V.int))) else none) (law_sp (.inl (.inr ⟨_, if_pos rfl⟩)) e) (fun b u q => ?_) fun b u q => ?_
    · obtain ⟨h1, h2⟩ := at_a q
      exact ⟨h1, ⟨_, _, h2⟩, hk⟩
    · obtain ⟨rfl, rfl⟩ := at_a q
      exact ⟨ha, by rw [List.length_map]; exact hl, vs, _, rv, ha⟩
end
/-- the goal that k_head leaves, from the law's plain function -/
theorem walkG {l : PySem.W.OpenLaw} {n k : Nat} {q : Program} {loose : List Str} {XP : (Str → Option Value) → Heap → Prop} {YP : World → Heap → Prop} {d : DefRec} {K : Params → PySem.W.Frag} {x : Str} {m : List D → M D}
    (hn : l.most = some n) (hn2 : n ≤ sizeLine) (hdf : d.params.defaults = []) (hr : Room k callerA) (hY : ∀ (w : World) (h : Heap), YP w h → (K w.params).In h)
    (hm : ∀ ns : List Int, ns.length ≤ n → ∃ S', m [scr ns] S0 = some (.bl true, S'))
    (F : ∀ (w : World) (mg : Str → Option Value) (fa : Addr) (h : Heap), (K w.params).In h → h.Ns mainGlobals mg → mg d.name = some (.ref fa) →
      ∃ fd : FuncData, (∀ (s : Shared) (u : Value), BindsTo s fd ⟨[u], []⟩ [(x, u)]) ∧
        ∀ base : Heap, (K w.params).In base → base.Ns mainGlobals mg → FnG l.prog w (K w.params) mg base k fa fd [x] m) :
    PySem.W.WalkO q loose XP YP l.row.toRowW d [] (fun f vs => PySem.call f vs) := by
  refine Att.attach_call hn hdf fun w s0 s1 mg mb fa o pm cd doc a vs ns G Y ho hd hcd hmg hobj hints hlen hg => ?_
  have KX := hY w _ Y
  obtain ⟨fd, hb, hF⟩ := F w mg fa _ KX G.T.g hmg
  exact lawG KX G.T.g G.T.b G.T.builtins G.T.nolimit hg hobj hints (Nat.le_trans hlen hn2) hr hF hb (hm ns hlen)
end Mn

set_option maxRecDepth 100000
set_option maxHeartbeats 1000000
/-! Mn: list(range(..)); short words for the printed proofs. -/
namespace Mn
open PySem PySem.Spec PyProof.Rows L2
section
variable {X : Cx}
def rgOk (a b : Int) : Bool := decide (-(2 ^ 62) ≤ a) && decide (a < 2 ^ 62) && decide (-(2 ^ 62) ≤ b) && decide (b < 2 ^ 62) && decide ((b - a).toNat ≤ 2 ^ 24)
theorem rgOk_iff {a b : Int} (h : rgOk a b = true) : RgOk a b := by
  unfold rgOk at h
  simp only [Bool.and_eq_true, decide_eq_true_eq] at h
  exact ⟨h.1.1.1.1, h.1.1.1.2, h.1.1.2, h.1.2, h.2⟩
theorem rng_rep {K : PySem.W.Frag} {ph : Ph} {S : Sto} {H : Hp} {a b : Int} : RepL K ph S H (rngD a (b - a).toNat) (rgV a b) := by
  unfold rngD rgV
  generalize List.range (b - a).toNat = l
  induction l with
  | nil => exact .nil
  | cons x l ih => exact .cons (by rw [Rep]) ih
def rg1M (d : D) : M D := fun S => match d with
  | .int n => if rgOk 0 n then some (.lst (rngD 0 (n - 0).toNat), S) else none
  | _ => none
theorem e_listRg1 {a : Expr} {ma : EM D} {p pos p2 pos2 : Pos} (hm : X.mg "list" = none) (hm2 : X.mg "range" = none) (ha : PE X a (rdE X.K ma)) (hc : X.calm = true := by rfl) (hg : Gl X "list" := by rfl) (hg2 : Gl X "range" := by rfl)
    (na : starEach [.Call (.Name "range" p2) [a] [] pos2] X.env = (false, eval (.Call (.Name "range" p2) [a] [] pos2) X.env) :: starEach [] X.env := by rfl) (na2 : starEach [a] X.env = (false, eval a X.env) :: starEach [] X.env := by rfl) :
    PE X (.Call (.Name "list" p) [.Call (.Name "range" p2) [a] [] pos2] [] pos) (rdE X.K (mUn rg1M ma)) := PE.weak (pe_listRg hc hg hm (prg_1 hg2 hm2 ha na2) na) fun sg H Q h => by
  obtain ⟨ph, S, rho, d, S', s, en, e, post⟩ := h
  obtain ⟨da, S1, e1, e2⟩ := bnd_inv e
  refine ⟨ph, S, rho, da, S1, s, en, e1, fun ph1 H1 x E1 s1 r1 => ?_⟩
  unfold rg1M at e2
  split at e2
  · rename_i n
    obtain rfl := r1.intE
    split at e2
    · rename_i hr
      cases e2
      exact ⟨n, rfl, rgOk_iff hr, fun q hq => new_lst s1 rng_rep (post.of E1) hq⟩
    · cases e2
  · cases e2
theorem uOf {k : Nat} {A : Around} (r : Room k A) : A.units + 200 < cLine := by have := r.un; omega
end
/-- the text of a law by places -/
def topOf (p : Program) (i : Nat) : Stmt := p.main.body.getD i (.Pass ⟨0, 0, 0, 0⟩)
end Mn
namespace Mn
open PySem PySem.Spec PyProof.Rows L2
/-- a def that may be called by its name -/
structure Cal (P : Program) (w : World) (K : PySem.W.Frag) (mg : Str → Option Value) (base : Heap) (k : Nat) (x : Str) (ps : List Str) (m : List D → M D) : Prop where
  ex : ∃ (a : Addr) (fd : FuncData), FnG P w K mg base k a fd ps m ∧ mg x = some (.ref a) ∧ PySem.W.keepIn K (.ref a) = true ∧ Binds K fd ps []
theorem Cal.mono {P : Program} {w : World} {K : PySem.W.Frag} {mg : Str → Option Value} {base : Heap} {j k : Nat} {x : Str} {ps : List Str} {m : List D → M D} (c : Cal P w K mg base j x ps m) (h : j ≤ k) : Cal P w K mg base k x ps m := by
  obtain ⟨a, fd, F, h1, h2, h3⟩ := c.ex
  exact ⟨a, fd, F.mono h, h1, h2, h3⟩
theorem e_cal {X : Cx} {k : Nat} {x : Str} {ps : List Str} {p pos : Pos} {e : Expr} {es : List Expr} {m : List D → M D} {ma : EM (List D)} (c : Cal X.prog X.w X.K X.mg X.base k x ps m) (hr : Room k X.A) (hG : X.A.guards = some [])
    (ha : PA X (e :: es) (rdA X.K ma)) (hg : Gl X x := by rfl) (hdb : (x == ("__debug__" : Str)) = false := by decide) (he : starEach (e :: es) X.env = (false, eval e X.env) :: starEach es X.env := by rfl) (hpl : (backTo pos (starEach es X.env)).any (·.1) = false := by rfl) :
    PE X (.Call (.Name x p) (e :: es) [] pos) (rdE X.K (mFn ps.length m ma)) := by
  obtain ⟨a, fd, F, h1, h2, h3⟩ := c.ex
  exact e_call F hr hG h1 h2 h3 ha hg hdb he hpl
theorem relabel_look {c : Str → Bool} {x : Str} : ∀ {names : List (Str × NameKind)}, names.lookup x = some .cell ∨ names.lookup x = some .free →
    (names.map fun (n, k) => if (k == NameKind.free && c n) = true then (n, NameKind.cell) else (n, k)).lookup x = some .cell ∨ (names.map fun (n, k) => if (k == NameKind.free && c n) = true then (n, NameKind.cell) else (n, k)).lookup x = some .free
  | [], h => by simp at h
  | (n, k) :: r, h => by
    have ih := @relabel_look c x r
    rw [List.map_cons]
    dsimp only
    cases hx : x == n with
    | true =>
      simp only [List.lookup_cons, hx] at h
      by_cases hc : (k == NameKind.free && c n) = true
      · left
        simp only [hc, if_true, List.lookup_cons, hx]
      · rw [if_neg hc, List.lookup_cons, hx]
        exact h
    | false =>
      simp only [List.lookup_cons, hx] at h
      by_cases hc : (k == NameKind.free && c n) = true
      · simp only [hc, if_true, List.lookup_cons, hx]
        exact ih h
      · rw [if_neg hc, List.lookup_cons, hx]
        exact ih h
/-- a comprehension within a comprehension -/
theorem blk_in {N : List Str} {sc scope : Scope} {own : List (Str × Nat)} {cl : List (Str × Addr)} {C : Addr} {env : PySem.Env} (h : blkC N sc scope own = true) : BlkOk N (compEnvC sc cl C env).scope scope own := by
  have b := blkOk_by h
  refine ⟨b.kind, b.uniq, b.ix, fun y hy e => ?_, b.own⟩
  have z := relabel_look (c := fun n => env.scope.kind == .function && env.kindOf n == some .cell) (b.free y hy e)
  unfold compEnvC relabel
  simp only [Bool.and_assoc]
  exact z
end Mn

set_option maxRecDepth 100000
set_option maxHeartbeats 1000000
/-! Mn: what the plain functions lead to. -/
namespace Mn
open PySem PySem.Spec PyProof.Rows L2

def Wp {α : Type} (m : M α) (S : Sto) (Q : α → Sto → Prop) : Prop := ∃ a S', m S = some (a, S') ∧ Q a S'
section
variable {α β : Type} {S : Sto} {Q : α → Sto → Prop}
theorem Wp.mono {m : M α} {R : α → Sto → Prop} (h : Wp m S R) (k : ∀ a S', R a S' → Q a S') : Wp m S Q := by
  obtain ⟨a, S', e, r⟩ := h
  exact ⟨a, S', e, k a S' r⟩
@[simp] theorem wp_bnd {m : M β} {f : β → M α} : Wp (bnd m f) S Q ↔ Wp m S fun b S1 => Wp (f b) S1 Q := by
  constructor
  · rintro ⟨a, S', e, q⟩
    obtain ⟨b, S1, e1, e2⟩ := bnd_inv e
    exact ⟨b, S1, e1, a, S', e2, q⟩
  · rintro ⟨b, S1, e1, a, S', e2, q⟩
    exact ⟨a, S', by unfold bnd; rw [e1]; exact e2, q⟩
@[simp] theorem wp_ret {a : α} : Wp (ret a) S Q ↔ Q a S := by
  constructor
  · rintro ⟨b, S', e, q⟩; cases e; exact q
  · intro q; exact ⟨a, S, rfl, q⟩
theorem wp_some {m : M α} {a : α} {S' : Sto} (h : m S = some (a, S')) : Wp m S Q ↔ Q a S' := by
  constructor
  · rintro ⟨b, S1, e, q⟩
    rw [h] at e; cases e; exact q
  · intro q; exact ⟨a, S', h, q⟩
theorem Wp.to {m : M α} {a : α} {S' : Sto} (h : m S = some (a, S')) (q : Q a S') : Wp m S Q := ⟨a, S', h, q⟩
end
section
variable {S : Sto} {rho : Env}
variable {Q : D → Sto → Prop} {QL : List D → Sto → Prop} {QB : Bool → Sto → Prop} {QS : Fl × Env → Sto → Prop} {QO : Option Int → Sto → Prop} {QI : Src → Sto → Prop}
theorem wp_mV {i : Nat} {d : D} (h : rho[i]? = some (some d)) : Wp (mV i rho) S Q ↔ Q d S := wp_some (by unfold mV; rw [h])
@[simp] theorem wp_mV0 {d : D} {r : Env} : Wp (mV 0 (some d :: r)) S Q ↔ Q d S := wp_mV rfl
@[simp] theorem wp_mVs {i : Nat} {x : Option D} {r : Env} : Wp (mV (i + 1) (x :: r)) S Q ↔ Wp (mV i r) S Q := by
  unfold Wp mV
  rfl
@[simp] theorem wp_mC {d : D} : Wp (mC d rho) S Q ↔ Q d S := wp_some rfl
@[simp] theorem wp_mBin {f : D → D → M D} {a b : EM D} : Wp (mBin f a b rho) S Q ↔ Wp (a rho) S fun x S1 => Wp (b rho) S1 fun y S2 => Wp (f x y) S2 Q := by unfold mBin; simp
@[simp] theorem wp_mUn {f : D → M D} {a : EM D} : Wp (mUn f a rho) S Q ↔ Wp (a rho) S fun x S1 => Wp (f x) S1 Q := by unfold mUn; simp
@[simp] theorem wp_mCall {f : List D → M D} {a : EM (List D)} : Wp (mCall f a rho) S Q ↔ Wp (a rho) S fun x S1 => Wp (f x) S1 Q := by unfold mCall; simp
@[simp] theorem wp_mFn {n : Nat} {f : List D → M D} {a : EM (List D)} : Wp (mFn n f a rho) S Q ↔ Wp (a rho) S fun x S1 => Wp (if x.length = n then f x else fail) S1 Q := by unfold mFn; simp
@[simp] theorem wp_mNil : Wp (mNil rho) S QL ↔ QL [] S := wp_some rfl
@[simp] theorem wp_mCons {a : EM D} {b : EM (List D)} : Wp (mCons a b rho) S QL ↔ Wp (a rho) S fun x S1 => Wp (b rho) S1 fun xs S2 => QL (x :: xs) S2 := by unfold mCons; simp
@[simp] theorem wp_mTup {a : EM (List D)} : Wp (mTup a rho) S Q ↔ Wp (a rho) S fun xs S1 => Wp (mkTup xs) S1 Q := by unfold mTup; simp
@[simp] theorem wp_mLst {a : EM (List D)} : Wp (mLst a rho) S Q ↔ Wp (a rho) S fun xs S1 => Wp (mkLst xs) S1 Q := by unfold mLst; simp
@[simp] theorem wp_mNew {a : EM (List D)} : Wp (mNew a rho) S Q ↔ Wp (a rho) S fun xs S1 => Wp (mkNew xs) S1 Q := by unfold mNew; simp
@[simp] theorem wp_mIf {c : EM Bool} {a b : EM D} : Wp (mIf c a b rho) S Q ↔ Wp (c rho) S fun k S1 => Wp (if k = true then a rho else b rho) S1 Q := by unfold mIf; simp
@[simp] theorem wp_mAndV {a b : EM D} : Wp (mAndV a b rho) S Q ↔ Wp (a rho) S fun x S1 => Wp (truM x) S1 fun k S2 => Wp (if k = true then b rho else ret x) S2 Q := by unfold mAndV; simp
@[simp] theorem wp_mOrV {a b : EM D} : Wp (mOrV a b rho) S Q ↔ Wp (a rho) S fun x S1 => Wp (truM x) S1 fun k S2 => Wp (if k = true then ret x else b rho) S2 Q := by unfold mOrV; simp
@[simp] theorem wp_mNotV {a : EM D} : Wp (mNotV a rho) S Q ↔ Wp (a rho) S fun x S1 => Wp (truM x) S1 fun k S2 => Q (.bl (!k)) S2 := by unfold mNotV; simp
@[simp] theorem wp_mIsN {a : EM D} : Wp (mIsN a rho) S Q ↔ Wp (a rho) S fun x S1 => Q (.bl (isNonD x)) S1 := by unfold mIsN; simp
@[simp] theorem wp_mNotN {a : EM D} : Wp (mNotN a rho) S Q ↔ Wp (a rho) S fun x S1 => Q (.bl (!isNonD x)) S1 := by unfold mNotN; simp
@[simp] theorem wp_asB {b : Bool} : Wp (asB (.bl b)) S QB ↔ QB b S := wp_some rfl
@[simp] theorem wp_asI {i : Int} {QI : Int → Sto → Prop} : Wp (asI (.int i)) S QI ↔ QI i S := wp_some rfl
@[simp] theorem wp_mB {a : EM D} : Wp (mB a rho) S QB ↔ Wp (a rho) S fun x S1 => Wp (asB x) S1 QB := by unfold mB; simp
@[simp] theorem wp_mTru {a : EM D} : Wp (mTru a rho) S QB ↔ Wp (a rho) S fun x S1 => Wp (truM x) S1 QB := by unfold mTru; simp
@[simp] theorem wp_truB {b : Bool} : Wp (truM (.bl b)) S QB ↔ QB b S := wp_some rfl
@[simp] theorem wp_mAnd {a b : EM Bool} : Wp (mAnd a b rho) S QB ↔ Wp (a rho) S fun x S1 => Wp (if x = true then b rho else ret false) S1 QB := by unfold mAnd; simp
@[simp] theorem wp_mOr {a b : EM Bool} : Wp (mOr a b rho) S QB ↔ Wp (a rho) S fun x S1 => Wp (if x = true then ret true else b rho) S1 QB := by unfold mOr; simp
@[simp] theorem wp_mNot {a : EM Bool} : Wp (mNot a rho) S QB ↔ Wp (a rho) S fun x S1 => QB (!x) S1 := by unfold mNot; simp
@[simp] theorem wp_mYes : Wp (mYes rho) S QB ↔ QB true S := wp_some rfl
@[simp] theorem wp_mPart {a : EM D} : Wp (mPart a rho) S QO ↔ Wp (a rho) S fun x S1 => Wp (asI x) S1 fun i S2 => QO (some i) S2 := by unfold mPart; simp
@[simp] theorem wp_mSl {a : EM D} {l h : EM (Option Int)} : Wp (mSl a l h rho) S Q ↔ Wp (a rho) S fun x S1 => Wp (l rho) S1 fun lo S2 => Wp (h rho) S2 fun hi S3 => Wp (slM x lo hi) S3 Q := by unfold mSl; simp
@[simp] theorem wp_mISeq {a : EM D} : Wp (mISeq a rho) S QI ↔ Wp (a rho) S fun x S1 => Wp (fun S => (srcOf x S).map fun s => (s, S)) S1 QI := by unfold mISeq; rw [wp_bnd]
@[simp] theorem wp_mIR {f : List D → Option Src} {a : EM (List D)} : Wp (mIR f a rho) S QI ↔ Wp (a rho) S fun x S1 => Wp (fun S => (f x).map fun s => (s, S)) S1 QI := by unfold mIR; rw [wp_bnd]
@[simp] theorem wp_mMet {o : EM D} {a : EM (List D)} {f : D → List D → M D} : Wp (mMet o a f rho) S Q ↔ Wp (o rho) S fun x S1 => Wp (fun S => match x with
  | .ref n => match S.ob n with
    | some (.lst _) => bnd (a rho) (fun ds => f x ds) S
    | _ => none
  | _ => none) S1 Q := by unfold mMet; exact wp_bnd
theorem wp_ref {n : Nat} {ds : List D} {a : EM (List D)} {f : D → List D → M D} (h : S.ob n = some (.lst ds)) : Wp (fun S => match (D.ref n) with
  | .ref n => match S.ob n with
    | some (.lst _) => bnd (a rho) (fun ds => f (D.ref n) ds) S
    | _ => none
  | _ => none) S Q ↔ Wp (a rho) S fun xs S1 => Wp (f (.ref n) xs) S1 Q := by
  rw [← wp_bnd]
  unfold Wp
  simp only [h]
/-! statements -/
@[simp] theorem wp_mNx : Wp (mNx rho) S QS ↔ QS (.nx, rho) S := wp_some rfl
@[simp] theorem wp_mSeq {a b : SM} : Wp (mSeq a b rho) S QS ↔ Wp (a rho) S fun p S1 => Wp (match p.1 with | .nx => b p.2 | _ => ret p) S1 QS := by unfold mSeq; exact wp_bnd
@[simp] theorem wp_mRet {a : EM D} : Wp (mRet a rho) S QS ↔ Wp (a rho) S fun x S1 => QS (.rt x, rho) S1 := by unfold mRet; simp
@[simp] theorem wp_mDrop {a : EM D} : Wp (mDrop a rho) S QS ↔ Wp (a rho) S fun x S1 => QS (.nx, rho) S1 := by unfold mDrop; simp
@[simp] theorem wp_mSet {i : Nat} {a : EM D} : Wp (mSet i a rho) S QS ↔ Wp (a rho) S fun x S1 => QS (.nx, rho.set i (some x)) S1 := by unfold mSet; simp
@[simp] theorem wp_mIfS {c : EM Bool} {a b : SM} : Wp (mIfS c a b rho) S QS ↔ Wp (c rho) S fun k S1 => Wp (if k = true then a rho else b rho) S1 QS := by unfold mIfS; simp
@[simp] theorem wp_mAsg {a : EM D} {g : GM} : Wp (mAsg a g rho) S QS ↔ Wp (a rho) S fun x S1 => Wp (fun S => (g x rho).map fun r => ((Fl.nx, r), S)) S1 QS := by unfold mAsg; rw [wp_bnd]
@[simp] theorem wp_map {β : Type} {r : β} {QR : β → Sto → Prop} : Wp (fun S => (some r).map fun r => (r, S)) S QR ↔ QR r S := wp_some rfl
@[simp] theorem wp_mapG {r : Env} : Wp (fun S => (some r).map fun r => ((Fl.nx, r), S)) S QS ↔ QS (.nx, r) S := wp_some rfl
@[simp] theorem wp_mPar {i j : Nat} {a : EM (List D)} : Wp (mPar i j a rho) S QS ↔ Wp (a rho) S fun x S1 => Wp (parF i j rho x) S1 QS := by unfold mPar; rw [wp_bnd]
@[simp] theorem wp_parF {i j : Nat} {c d : D} : Wp (parF i j rho [c, d]) S QS ↔ QS (.nx, (rho.set i (some c)).set j (some d)) S := wp_some rfl
@[simp] theorem wp_mPut {o i v : EM D} : Wp (mPut o i v rho) S QS ↔ Wp (v rho) S fun z S1 => Wp (o rho) S1 fun x S2 => Wp (i rho) S2 fun y S3 => Wp (putM x y z) S3 fun _ S4 => QS (.nx, rho) S4 := by unfold mPut; simp
@[simp] theorem wp_mAugS {o i v : EM D} {f : D → D → M D} : Wp (mAugS o i v f rho) S QS ↔ Wp (o rho) S fun x S1 => Wp (i rho) S1 fun y S2 => Wp (getM x y) S2 fun c S3 => Wp (v rho) S3 fun z S4 => Wp (f c z) S4 fun w S5 => Wp (putM x y w) S5 fun _ S6 => QS (.nx, rho) S6 := by unfold mAugS; simp
@[simp] theorem wp_mFor {i : EM Src} {g : GM} {b : SM} : Wp (mFor i g b rho) S QS ↔ Wp (i rho) S fun src S1 => Wp (loopGo src g b src.ds rho) S1 QS := by unfold mFor; simp
@[simp] theorem wp_mLc {i : EM Src} {own : List Nat} {g : GM} {t : EM Bool} {e : EM D} : Wp (mLc i own g t e rho) S Q ↔ Wp (i rho) S fun src S1 => Wp (lcGo src g t e (wipeR rho own) src.ds) S1 fun r S2 => Wp (fun S => if r.length ≤ lim then some (D.lst r, S) else none) S2 Q := by unfold mLc; simp only [wp_bnd]
theorem wp_def {n : Nat} {b : SM} {ds : List D} : Wp (mDef n b ds) S Q ↔ Wp (b (startR n ds)) S fun p S1 => Wp (match p.1 with | .rt d => ret d | .nx => ret .non | _ => fail) S1 Q := by unfold mDef; exact wp_bnd
/-! operators -/
theorem limP {n : Nat} (h : n ≤ 1000000) : n ≤ lim := Nat.le_trans h (by decide)
theorem wp_mkTup {xs : List D} (h : xs.length ≤ 1000000) : Wp (mkTup xs) S Q ↔ Q (.tup xs) S := wp_some (by unfold mkTup; rw [if_pos (limP h)])
theorem wp_mkLst {xs : List D} (h : xs.length ≤ 1000000) : Wp (mkLst xs) S Q ↔ Q (.lst xs) S := wp_some (by unfold mkLst; rw [if_pos (limP h)])
theorem wp_lim {xs : List D} (h : xs.length ≤ 1000000) : Wp (fun S => if xs.length ≤ lim then some (D.lst xs, S) else none) S Q ↔ Q (.lst xs) S := wp_some (by rw [if_pos (limP h)])
@[simp] theorem wp_sub {i j : Int} : Wp (subM (.int i) (.int j)) S Q ↔ Q (.int (i - j)) S := wp_some rfl
@[simp] theorem wp_addI {i j : Int} : Wp (addM (.int i) (.int j)) S Q ↔ Q (.int (i + j)) S := wp_some rfl
@[simp] theorem wp_intF {f : Int → Int → Int} {i j : Int} : Wp (intF f (.int i) (.int j)) S Q ↔ Q (.int (f i j)) S := wp_some rfl
theorem wp_mod {i j : Int} (h : 0 < j) : Wp (modM (.int i) (.int j)) S Q ↔ Q (.int (i % j)) S := wp_some (by unfold modM intOp; simp [h])
theorem wp_div {i j : Int} (h : 0 < j) (h2 : j < 1073741824) : Wp (divM (.int i) (.int j)) S Q ↔ Q (.int (i / j)) S := wp_some (by unfold divM intOp; simp [h, h2])
theorem wp_mul {i j : Int} (h : (-(2 ^ 64) < i ∧ i < 2 ^ 64) ∨ (-(2 ^ 64) < j ∧ j < 2 ^ 64)) : Wp (mulM (.int i) (.int j)) S Q ↔ Q (.int (i * j)) S := wp_some (by unfold mulM; simp only [if_pos h])
theorem wp_pow {i j : Int} (h0 : 0 ≤ j) (h1 : j ≤ 1000000) (h2 : i.natAbs < 2 ^ 64) : Wp (powM (.int i) (.int j)) S Q ↔ Q (.int (i ^ j.toNat)) S := wp_some (by unfold powM intOp; simp [h0, h1, h2])
@[simp] theorem wp_lt {i j : Int} : Wp (ltM (.int i) (.int j)) S Q ↔ Q (.bl (decide (i < j))) S := wp_some rfl
@[simp] theorem wp_le {i j : Int} : Wp (leM (.int i) (.int j)) S Q ↔ Q (.bl (decide (i ≤ j))) S := wp_some rfl
@[simp] theorem wp_gt {i j : Int} : Wp (gtM (.int i) (.int j)) S Q ↔ Q (.bl (decide (j < i))) S := wp_some rfl
@[simp] theorem wp_ge {i j : Int} : Wp (geM (.int i) (.int j)) S Q ↔ Q (.bl (decide (j ≤ i))) S := wp_some rfl
@[simp] theorem wp_neg {i : Int} : Wp (negM (.int i)) S Q ↔ Q (.int (-i)) S := wp_some rfl
@[simp] theorem wp_toI {i : Int} : Wp (toIntM [.int i]) S Q ↔ Q (.int i) S := wp_some rfl
@[simp] theorem wp_toIB {b : Bool} : Wp (toIntM [.bl b]) S Q ↔ Q (.int (if b then 1 else 0)) S := wp_some rfl
@[simp] theorem wp_abs {i : Int} : Wp (absM [.int i]) S Q ↔ Q (.int (if i < 0 then -i else i)) S := wp_some rfl
@[simp] theorem wp_lenT {ds : List D} : Wp (lenM [.tup ds]) S Q ↔ Q (.int ds.length) S := wp_some rfl
@[simp] theorem wp_lenL {ds : List D} : Wp (lenM [.lst ds]) S Q ↔ Q (.int ds.length) S := wp_some rfl
theorem wp_lenR {n : Nat} {ds : List D} (h : S.ob n = some (.lst ds)) : Wp (lenM [.ref n]) S Q ↔ Q (.int ds.length) S := wp_some (by unfold lenM items; simp only [h])
@[simp] theorem wp_tupT {ds : List D} : Wp (tupleM [.tup ds]) S Q ↔ Q (.tup ds) S := wp_some rfl
@[simp] theorem wp_tupL {ds : List D} : Wp (tupleM [.lst ds]) S Q ↔ Q (.tup ds) S := wp_some rfl
theorem wp_tupR {n : Nat} {ds : List D} (h : S.ob n = some (.lst ds)) : Wp (tupleM [.ref n]) S Q ↔ Q (.tup ds) S := wp_some (by unfold tupleM items; simp only [h])
theorem wp_ixT {ds : List D} {i : Int} {d : D} (h : atI ds i = some d) : Wp (ixM (.tup ds) (.int i)) S Q ↔ Q d S := wp_some (by unfold ixM items; simp only [h]; rfl)
theorem wp_ixL {ds : List D} {i : Int} {d : D} (h : atI ds i = some d) : Wp (ixM (.lst ds) (.int i)) S Q ↔ Q d S := wp_some (by unfold ixM items; simp only [h]; rfl)
theorem wp_ixR {n : Nat} {ds : List D} {i : Int} {d : D} (hn : S.ob n = some (.lst ds)) (h : atI ds i = some d) : Wp (ixM (.ref n) (.int i)) S Q ↔ Q d S := wp_some (by unfold ixM items; simp only [hn, h]; rfl)
@[simp] theorem wp_slT {ds : List D} {lo hi : Option Int} : Wp (slM (.tup ds) lo hi) S Q ↔ Q (.tup (cutD ds lo hi)) S := wp_some rfl
@[simp] theorem wp_slL {ds : List D} {lo hi : Option Int} : Wp (slM (.lst ds) lo hi) S Q ↔ Q (.lst (cutD ds lo hi)) S := wp_some rfl
@[simp] theorem wp_slO {ds : List D} {lo hi : Option Int} : Wp (slM (.rol ds) lo hi) S Q ↔ Q (.lst (cutD ds lo hi)) S := wp_some rfl
theorem wp_addL {a b : List D} (h : a.length + b.length ≤ 1000000) : Wp (addM (.lst a) (.lst b)) S Q ↔ Q (.lst (a ++ b)) S := wp_some (by unfold addM itemsL; simp only [if_pos (limP h)])
theorem wp_addT {a b : List D} (h : a.length + b.length ≤ 1000000) : Wp (addM (.tup a) (.tup b)) S Q ↔ Q (.tup (a ++ b)) S := wp_some (by unfold addM; simp only [if_pos (limP h)])
theorem wp_eq {a b : D} {p q : PyData} (h1 : pds S a = some p) (h2 : pds S b = some q) (h : p.depth ≤ 100) : Wp (eqM a b) S Q ↔ Q (.bl (PyData.eqv p q)) S := wp_some (by
  unfold eqM
  split
  · rename_i i j
    have e1 : pdT (.str i) = some p := h1
    have e2 : pdT (.str j) = some q := h2
    rw [pdT] at e1 e2
    split at e1
    · split at e2
      · cases e1; cases e2
        rw [PyData.eqv]
      · cases e2
    · cases e1
  · unfold eqM0; simp only [h1, h2, if_pos h])
theorem wp_ne {a b : D} {p q : PyData} (h1 : pds S a = some p) (h2 : pds S b = some q) (h : p.depth ≤ 100) : Wp (neM a b) S Q ↔ Q (.bl (!PyData.eqv p q)) S := wp_some (by
  unfold neM
  split
  · rename_i i j
    have e1 : pdT (.str i) = some p := h1
    have e2 : pdT (.str j) = some q := h2
    rw [pdT] at e1 e2
    split at e1
    · split at e2
      · cases e1; cases e2
        rw [PyData.eqv]
      · cases e2
    · cases e1
  · unfold neM0; simp only [h1, h2, if_pos h])
@[simp] theorem wp_eqS {i j : Str} : Wp (eqM (.str i) (.str j)) S Q ↔ Q (.bl (i == j)) S := wp_some rfl
theorem wp_eqI {i j : Int} : Wp (eqM (.int i) (.int j)) S Q ↔ Q (.bl (i == j)) S := by
  rw [wp_eq (p := .int i) (q := .int j) rfl rfl (Nat.zero_le _)]
  simp only [PyData.eqv]
theorem wp_put {n : Nat} {ds : List D} {k : Int} {j : Nat} {c : D} {QU : Unit → Sto → Prop} (h : S.ob n = some (.lst ds)) (hj : ixN ds.length k = some j) : Wp (putM (.ref n) (.int k) c) S QU ↔ QU () (S.set n (.lst (ds.set j c))) := wp_some (by unfold putM; simp only [h, hj])
theorem wp_get {n : Nat} {ds : List D} {k : Int} {j : Nat} {c : D} (h : S.ob n = some (.lst ds)) (hj : ixN ds.length k = some j) (hc : ds[j]? = some c) : Wp (getM (.ref n) (.int k)) S Q ↔ Q c S := wp_some (by unfold getM; simp only [h, hj, hc]; rfl)
theorem wp_ins {n : Nat} {ds : List D} {i : Int} {y : D} (h : S.ob n = some (.lst ds)) (hl : ds.length < 1000000) (h0 : 0 ≤ i) (h1 : i < 2 ^ 63) : Wp (insM (.ref n) [.int i, y]) S Q ↔ Q .non (S.set n (.lst (ds.take i.toNat ++ y :: ds.drop i.toNat))) :=
  wp_some (by unfold insM; simp only [h]; rw [if_pos ⟨Nat.lt_of_lt_of_le hl (by decide), h0, h1⟩])
/-! loops -/
theorem lc_pure {src : Src} {g : GM} {mt : EM Bool} {me : EM D} {t : D → Bool} {f : D → D} (ok : srcOk src S) : ∀ {ds : List D}, (∀ d ∈ ds, ∃ r1, g d rho = some r1 ∧ mt r1 S = some (t d, S) ∧ (t d = true → me r1 S = some (f d, S))) →
    lcGo src g mt me rho ds S = some ((ds.filter t).map f, S)
  | [], _ => by unfold lcGo; rw [if_pos ok]; rfl
  | d :: ds, h => by
    obtain ⟨r1, h1, h2, h3⟩ := h d List.mem_cons_self
    have ih := lc_pure (f := f) (t := t) ok (ds := ds) fun x hx => h x (List.mem_cons_of_mem _ hx)
    unfold lcGo
    rw [if_pos ok, h1, Option.bind_some]
    unfold bnd
    rw [h2]
    cases ht : t d with
    | true =>
      simp only [Option.bind_some, if_true, h3 ht, ih, ret, List.filter_cons_of_pos ht, List.map_cons]
    | false =>
      simp only [Option.bind_some, Bool.false_eq_true, if_false, ih]
      rw [List.filter_cons_of_neg (by rw [ht]; decide)]
theorem lc_inv {src : Src} {g : GM} {mt : EM Bool} {me : EM D} {I : Sto → Prop} {P : D → Prop} (ok : ∀ S, I S → srcOk src S) : ∀ {ds : List D} {S : Sto}, I S →
    (∀ d ∈ ds, ∃ r1, g d rho = some r1 ∧ ∀ S, I S → Wp (mt r1) S fun b S1 => b = true ∧ Wp (me r1) S1 fun y S2 => P y ∧ I S2) →
    Wp (lcGo src g mt me rho ds) S fun r S1 => r.length = ds.length ∧ (∀ y ∈ r, P y) ∧ I S1
  | [], S, i, _ => ⟨[], S, by unfold lcGo; rw [if_pos (ok S i)], rfl, (fun y hy => by cases hy), i⟩
  | d :: ds, S, i, h => by
    obtain ⟨r1, h1, h2⟩ := h d List.mem_cons_self
    obtain ⟨b, S1, e1, rfl, y, S2, e2, py, i2⟩ := h2 S i
    obtain ⟨r, S3, e3, hl, hp, i3⟩ := lc_inv (ds := ds) ok i2 fun x hx => h x (List.mem_cons_of_mem _ hx)
    refine ⟨y :: r, S3, ?_, by rw [List.length_cons, List.length_cons, hl], fun z hz => ?_, i3⟩
    · unfold lcGo
      rw [if_pos (ok S i), h1, Option.bind_some]
      unfold bnd
      simp only [e1, Option.bind_some, if_true, e2, e3, ret]
    · rcases List.mem_cons.mp hz with rfl | hz
      · exact py
      · exact hp z hz
theorem loop_inv {src : Src} {g : GM} {mb : SM} {I : Env → Sto → Prop} (ok : ∀ r S, I r S → srcOk src S) : ∀ {ds : List D} {rho : Env} {S : Sto}, I rho S →
    (∀ d ∈ ds, ∀ r S, I r S → ∃ r1, g d r = some r1 ∧ Wp (mb r1) S fun p S1 => p.1 = .nx ∧ I p.2 S1) →
    Wp (loopGo src g mb ds rho) S fun p S1 => p.1 = .nx ∧ I p.2 S1
  | [], rho, S, i, _ => ⟨(.nx, rho), S, by unfold loopGo; rw [if_pos (ok rho S i)], rfl, i⟩
  | d :: ds, rho, S, i, h => by
    obtain ⟨r1, h1, ⟨fl, r2⟩, S1, e1, h2, i2⟩ := h d List.mem_cons_self rho S i
    cases h2
    obtain ⟨p, S3, e3, hl, i3⟩ := loop_inv (ds := ds) ok i2 fun x hx => h x (List.mem_cons_of_mem _ hx)
    refine ⟨p, S3, ?_, hl, i3⟩
    unfold loopGo
    rw [if_pos (ok rho S i), h1, Option.bind_some]
    unfold bnd
    rw [e1]
    exact e3
/-- the walk's count told too -/
theorem loop_inv2 {src : Src} {g : GM} {mb : SM} {I : Nat → Env → Sto → Prop} {N : Nat} (ok : ∀ n r S, I n r S → srcOk src S) : ∀ {ds : List D} {n : Nat} {rho : Env} {S : Sto}, n + ds.length ≤ N → I n rho S →
    (∀ d ∈ ds, ∀ n r S, n < N → I n r S → ∃ r1, g d r = some r1 ∧ Wp (mb r1) S fun p S1 => p.1 = .nx ∧ I (n + 1) p.2 S1) →
    Wp (loopGo src g mb ds rho) S fun p S1 => p.1 = .nx ∧ I (n + ds.length) p.2 S1
  | [], n, rho, S, _, i, _ => ⟨(.nx, rho), S, by unfold loopGo; rw [if_pos (ok n rho S i)], rfl, i⟩
  | d :: ds, n, rho, S, hN, i, h => by
    rw [List.length_cons] at hN
    obtain ⟨r1, h1, ⟨fl, r2⟩, S1, e1, h2, i2⟩ := h d List.mem_cons_self n rho S (by omega) i
    cases h2
    obtain ⟨p, S3, e3, hl, i3⟩ := loop_inv2 (ds := ds) ok (by omega) i2 fun x hx => h x (List.mem_cons_of_mem _ hx)
    refine ⟨p, S3, ?_, hl, by rw [List.length_cons, Nat.add_comm ds.length 1, ← Nat.add_assoc]; exact i3⟩
    unfold loopGo
    rw [if_pos (ok n rho S i), h1, Option.bind_some]
    unfold bnd
    rw [e1]
    exact e3
end

/-! ### data that can be compared and shown -/
structure OkD (c n : Nat) (d : D) (p : PyData) : Prop where
  pd : pdT d = some p
  sh : p.showable = true
  dp : p.depth ≤ n
  wt : p.weight ≤ c
  si : p.intsShort 13 = true
theorem OkD.non {c n : Nat} : OkD c n .non .none := ⟨rfl, rfl, Nat.zero_le _, Nat.zero_le _, rfl⟩
theorem OkD.bl {c n : Nat} {b : Bool} : OkD c n (.bl b) (.bool b) := ⟨rfl, rfl, Nat.zero_le _, Nat.zero_le _, rfl⟩
theorem log_small {i : Int} (h1 : -999999999999 ≤ i) (h2 : i ≤ 999999999999) : i.natAbs.log2 < 40 := by
  by_cases h : i.natAbs = 0
  · rw [h]; decide
  · exact (Nat.log2_lt h).mpr (by
      have : (2 : Nat) ^ 40 = 1099511627776 := by decide
      omega)
theorem OkD.int {n : Nat} {i : Int} (h1 : -999999999999 ≤ i) (h2 : i ≤ 999999999999) : OkD 41 n (.int i) (.int i) := by
  have hl := log_small h1 h2
  refine ⟨rfl, ?_, Nat.zero_le _, ?_, ?_⟩
  · simp only [PyData.showable, decide_eq_true_eq]; omega
  · simp only [PyData.weight]
    split <;> omega
  · simp only [PyData.intsShort, decide_eq_true_eq]
    exact PyData.shown_int_le2 h1 h2
theorem OkD.mono {c c' n n' : Nat} {d : D} {p : PyData} (h : OkD c n d p) (hc : c ≤ c') (hn : n ≤ n') : OkD c' n' d p := ⟨h.pd, h.sh, Nat.le_trans h.dp hn, Nat.le_trans h.wt hc, h.si⟩
/-- a row of data, of together so much -/
structure OkL (c n : Nat) (ds : List D) (ps : List PyData) : Prop where
  pd : pdL ds = some ps
  sh : PyData.showableAll ps = true
  dp : PyData.depthAll ps ≤ n
  wt : PyData.weightAll ps ≤ c
  si : PyData.intsShortAll 13 ps = true
theorem OkL.nil {n : Nat} : OkL 0 n [] [] := ⟨rfl, rfl, Nat.zero_le _, Nat.le_refl _, rfl⟩
theorem OkL.cons {a b n : Nat} {d : D} {p : PyData} {ds : List D} {ps : List PyData} (h : OkD a n d p) (k : OkL b n ds ps) : OkL (a + 1 + b) n (d :: ds) (p :: ps) := by
  refine ⟨?_, ?_, ?_, ?_, ?_⟩
  · rw [pdL, h.pd, k.pd]; rfl
  · rw [PyData.showableAll, h.sh, k.sh]; rfl
  · rw [PyData.depthAll]; exact Nat.max_le.mpr ⟨h.dp, k.dp⟩
  · rw [PyData.weightAll]; have := h.wt; have := k.wt; omega
  · rw [PyData.intsShortAll, h.si, k.si]; rfl
theorem OkL.tup {c n : Nat} {ds : List D} {ps : List PyData} (h : OkL c n ds ps) : OkD c (n + 1) (.tup ds) (.tuple ps) :=
  ⟨by rw [pdT, h.pd]; rfl, by rw [PyData.showable]; exact h.sh, by rw [PyData.depth]; exact Nat.succ_le_succ h.dp, by rw [PyData.weight]; exact h.wt, by rw [PyData.intsShort]; exact h.si⟩
theorem OkL.lst {c n : Nat} {ds : List D} {ps : List PyData} (h : OkL c n ds ps) : OkD c (n + 1) (.lst ds) (.list ps) :=
  ⟨by rw [pdT, h.pd]; rfl, by rw [PyData.showable]; exact h.sh, by rw [PyData.depth]; exact Nat.succ_le_succ h.dp, by rw [PyData.weight]; exact h.wt, by rw [PyData.intsShort]; exact h.si⟩
theorem OkL.map {α : Type} {a n : Nat} {f : α → D} {g : α → PyData} : ∀ {l : List α}, (∀ x ∈ l, OkD a n (f x) (g x)) → OkL (l.length * (a + 1)) n (l.map f) (l.map g)
  | [], _ => by rw [List.length_nil, Nat.zero_mul]; exact .nil
  | x :: l, h => by
    have := OkL.cons (h x List.mem_cons_self) (OkL.map (l := l) fun y hy => h y (List.mem_cons_of_mem _ hy))
    rw [List.length_cons, Nat.add_mul, Nat.one_mul, Nat.add_comm]
    exact this
theorem OkD.pds {c n : Nat} {d : D} {p : PyData} (h : OkD c n d p) (S : Sto) : pds S d = some p := by
  have := h.pd
  cases d with
  | ref n => rw [pdT] at this; cases this
  | _ => exact this
section
variable {c n : Nat} {d : D} {p : PyData} {S : Sto} {Q : D → Sto → Prop}
theorem wp_repr (h : OkD c n d p) (hc : c ≤ 1048576) (hn : n ≤ 64) : Wp (reprM [d]) S Q ↔ Q (.str p.shown) S := by
  refine wp_some ?_
  have h13 : p.shown.length ≤ 15728653 := shown_le13 (by
    show (PyData.canLay0 p && decide (PyData.depth p ≤ 64) && decide (PyData.weight p ≤ 2 ^ 20)) = true
    rw [pdT_lay d p h.pd]
    simp only [Bool.true_and, Bool.and_eq_true, decide_eq_true_eq]
    exact ⟨Nat.le_trans h.dp hn, Nat.le_trans h.wt hc⟩) h.si
  have hd0 : dic0 [d] = false := by
    have hp := h.pd
    cases d with
    | dic ks ds => rw [pdT] at hp; cases hp
    | _ => rfl
  unfold reprM
  rw [hd0]
  simp only [Bool.false_eq_true, if_false]
  unfold reprM0
  simp only [h.pds S]
  rw [if_pos ⟨h.sh, Nat.le_trans h.dp (by omega), Nat.le_trans h13 (by decide)⟩]
theorem wp_eqSelf (h : OkD c n d p) (hn : n ≤ 64) : Wp (eqM d d) S Q ↔ Q (.bl true) S := by
  rw [wp_eq (h.pds S) (h.pds S) (Nat.le_trans h.dp (by omega)), PySem.SeqAt.eqv_refl p (pdT_lay d p h.pd)]
end
/-! ### rows -/
theorem eqvAll_ints : ∀ a b : List Int, PyData.eqvAll (a.map PyData.int) (b.map PyData.int) = decide (a = b)
  | [], [] => by rw [List.map_nil, PyData.eqvAll]; rfl
  | [], b :: bs => by rw [List.map_nil, List.map_cons, PyData.eqvAll]; rfl
  | a :: as, [] => by rw [List.map_nil, List.map_cons, PyData.eqvAll]; rfl
  | a :: as, b :: bs => by
    rw [List.map_cons, List.map_cons, PyData.eqvAll, eqvAll_ints as bs, PyData.eqv]
    by_cases h1 : a = b <;> by_cases h2 : as = bs <;> simp [h1, h2]
theorem eqv_row (a b : List Int) : PyData.eqv (rowP a) (rowP b) = decide (a = b) := by unfold rowP; rw [PyData.eqv, eqvAll_ints]
def Bd (B : Int) (r : List Int) : Prop := ∀ x ∈ r, -B ≤ x ∧ x ≤ B
theorem OkD.row {n : Nat} {r : List Int} (h : Bd 999999999999 r) : OkD (r.length * 42) (n + 1) (rowD r) (rowP r) := (OkL.map fun x hx => OkD.int (h x hx).1 (h x hx).2).tup
theorem pdL_rows : ∀ rs : List (List Int), pdL (rs.map rowD) = some (rs.map rowP)
  | [] => rfl
  | r :: rs => by
    have h : ∀ l : List Int, pdL (l.map D.int) = some (l.map PyData.int) := by
      intro l
      induction l with
      | nil => rfl
      | cons x l ih => rw [List.map_cons, pdL, pdT, ih]; rfl
    rw [List.map_cons, pdL, pdL_rows rs]
    unfold rowD rowP
    rw [pdT, h]; rfl
theorem pdL_ints (l : List Int) : pdL (l.map D.int) = some (l.map PyData.int) := by
  induction l with
  | nil => rfl
  | cons x l ih => rw [List.map_cons, pdL, pdT, ih]; rfl
theorem depth_ints : ∀ l : List Int, PyData.depthAll (l.map PyData.int) = 0
  | [] => rfl
  | x :: l => by rw [List.map_cons, PyData.depthAll, depth_ints l]; rfl
theorem depth_row (r : List Int) : (rowP r).depth = 1 := by unfold rowP; rw [PyData.depth, depth_ints]
theorem pdT_row (r : List Int) : pdT (rowD r) = some (rowP r) := by unfold rowD rowP; rw [pdT, pdL_ints]; rfl
section
variable {S : Sto} {Q : D → Sto → Prop}
theorem wp_eqRow {a b : List Int} : Wp (eqM (rowD a) (rowD b)) S Q ↔ Q (.bl (decide (a = b))) S := by
  rw [wp_eq (p := rowP a) (q := rowP b) (show pds S (rowD a) = _ from pdT_row a) (show pds S (rowD b) = _ from pdT_row b) (by rw [depth_row]; omega), eqv_row]
theorem wp_neRow {a b : List Int} : Wp (neM (rowD a) (rowD b)) S Q ↔ Q (.bl (!decide (a = b))) S := by
  rw [wp_ne (p := rowP a) (q := rowP b) (show pds S (rowD a) = _ from pdT_row a) (show pds S (rowD b) = _ from pdT_row b) (by rw [depth_row]; omega), eqv_row]
theorem any_row (a : List Int) (rs : List (List Int)) : ((rs.map rowP).any fun z => PyData.eqv z (rowP a)) = decide (a ∈ rs) := by
  induction rs with
  | nil => rfl
  | cons r rs ih =>
    rw [List.map_cons, List.any_cons, ih, eqv_row]
    by_cases h1 : r = a
    · subst h1; simp
    · by_cases h2 : a ∈ rs
      · simp [h2]
      · simp [h1, h2, Ne.symm h1]
theorem wp_inRow {a : List Int} {rs : List (List Int)} : Wp (inM (rowD a) (.tup (rs.map rowD))) S Q ↔ Q (.bl (decide (a ∈ rs))) S := by
  refine wp_some ?_
  have h1 : pds S (rowD a) = some (rowP a) := pdT_row a
  have h2 : pds S (.tup (rs.map rowD)) = some (.tuple (rs.map rowP)) := by
    show pdT (.tup (rs.map rowD)) = _
    rw [pdT, pdL_rows]; rfl
  unfold inM inL
  simp only [h1, h2]
  rw [if_pos (by rw [depth_row]; omega), any_row]; rfl
theorem any_int (a : Int) (l : List Int) : ((l.map PyData.int).any fun z => PyData.eqv z (.int a)) = decide (a ∈ l) := by
  induction l with
  | nil => rfl
  | cons r rs ih =>
    rw [List.map_cons, List.any_cons, ih, PyData.eqv]
    by_cases h1 : r = a
    · subst h1; simp
    · by_cases h2 : a ∈ rs
      · simp [h2]
      · simp [h1, h2, Ne.symm h1]
theorem wp_inInt {a : Int} {l : List Int} : Wp (inM (.int a) (.lst (l.map D.int))) S Q ↔ Q (.bl (decide (a ∈ l))) S := by
  refine wp_some ?_
  have h2 : pds S (.lst (l.map D.int)) = some (.list (l.map PyData.int)) := by
    show pdT (.lst (l.map D.int)) = _
    rw [pdT, pdL_ints]; rfl
  unfold inM inL
  simp only [h2, show pds S (.int a) = some (.int a) from rfl]
  rw [if_pos (show (PyData.int a).depth ≤ 100 by rw [PyData.depth]; omega), any_int]; rfl
/-- a list against the empty one -/
theorem wp_neNilL {l : List D} {ps : List PyData} (h : pdL l = some ps) (hd : PyData.depthAll ps ≤ 50) : Wp (neM (.lst l) (.lst [])) S Q ↔ Q (.bl (!l.isEmpty)) S := by
  rw [wp_ne (p := .list ps) (q := .list []) (by show pdT _ = _; rw [pdT, h]; rfl) (by show pdT _ = _; rw [pdT, pdL]; rfl) (by rw [PyData.depth]; omega)]
  have e := pdL_len h
  cases l with
  | nil =>
    cases ps with
    | nil => simp [PyData.eqv, PyData.eqvAll]
    | cons _ _ => cases e
  | cons _ _ =>
    cases ps with
    | nil => cases e
    | cons _ _ => simp [PyData.eqv, PyData.eqvAll]
theorem wp_neNilT {l : List D} {ps : List PyData} (h : pdL l = some ps) (hd : PyData.depthAll ps ≤ 50) : Wp (neM (.tup l) (.tup [])) S Q ↔ Q (.bl (!l.isEmpty)) S := by
  rw [wp_ne (p := .tuple ps) (q := .tuple []) (by show pdT _ = _; rw [pdT, h]; rfl) (by show pdT _ = _; rw [pdT, pdL]; rfl) (by rw [PyData.depth]; omega)]
  have e := pdL_len h
  cases l with
  | nil =>
    cases ps with
    | nil => simp [PyData.eqv, PyData.eqvAll]
    | cons _ _ => cases e
  | cons _ _ =>
    cases ps with
    | nil => cases e
    | cons _ _ => simp [PyData.eqv, PyData.eqvAll]
theorem depth_rows : ∀ rs : List (List Int), PyData.depthAll (rs.map rowP) ≤ 1
  | [] => Nat.zero_le _
  | r :: rs => by rw [List.map_cons, PyData.depthAll, depth_row]; exact Nat.max_le.mpr ⟨Nat.le_refl _, depth_rows rs⟩
/-- sorted of rows that are not empty -/
theorem sortL_rows {rs : List (List Int)} (h : ∀ r ∈ rs, r ≠ []) : sortL (rs.map rowD) = some ((sortRows rs).map rowD) := by
  unfold sortL
  rw [pdL_rows]
  have alI : ∀ a b : List Int, PySem.W.alikeAll (a.map PyData.int) (b.map PyData.int) = true := by
    intro a
    induction a with
    | nil => intro b; rw [List.map_nil, PySem.W.alikeAll]
    | cons x a ih =>
      intro b
      cases b with
      | nil => rw [List.map_nil, List.map_cons, PySem.W.alikeAll]
      | cons y b => rw [List.map_cons, List.map_cons, PySem.W.alikeAll, ih, PySem.W.alike]; rfl
  simp only
  rw [if_pos]
  · unfold sortBy sortRows
    rw [List.zip_map', ← List.map_mergeSort (r := rowLe) (f := fun r => (rowD r, rowP r)), List.map_map]
    · rfl
    · intro a _ b _; rfl
  · rw [Bool.and_eq_true, Bool.and_eq_true]
    refine ⟨⟨?_, ?_⟩, ?_⟩
    · unfold alikeB
      rw [List.all_eq_true]
      intro p hp
      rw [List.all_eq_true]
      intro q hq
      obtain ⟨a, _, rfl⟩ := List.mem_map.mp hp
      obtain ⟨b, _, rfl⟩ := List.mem_map.mp hq
      unfold rowP
      rw [PySem.W.alike]
      exact alI a b
    · unfold sortB
      rw [Bool.or_eq_true]
      left
      rw [List.all_eq_true]
      intro p hp
      obtain ⟨a, ha, rfl⟩ := List.mem_map.mp hp
      cases a with
      | nil => exact absurd rfl (h [] ha)
      | cons x a => rfl
    · rw [List.all_eq_true]
      intro p hp
      obtain ⟨a, ha, rfl⟩ := List.mem_map.mp hp
      rw [depth_row]; rfl
theorem wp_sortL {rs : List (List Int)} (h : ∀ r ∈ rs, r ≠ []) : Wp (sortM [.lst (rs.map rowD)]) S Q ↔ Q (.lst ((sortRows rs).map rowD)) S := wp_some (by unfold sortM items; simp only [sortL_rows h]; rfl)
theorem wp_sortT {rs : List (List Int)} (h : ∀ r ∈ rs, r ≠ []) : Wp (sortM [.tup (rs.map rowD)]) S Q ↔ Q (.lst ((sortRows rs).map rowD)) S := wp_some (by unfold sortM items; simp only [sortL_rows h]; rfl)
theorem wp_ssetI {l : List Int} (h : l.length < 64) : Wp (ssetM (.lst (l.map D.int))) S Q ↔ Q (.lst ((sortInts (dedup l)).map D.int)) S := wp_some (by unfold ssetM itemsL ssetL; simp only [intsD_map, if_pos h]; rfl)
theorem wp_ssetR {rs : List (List Int)} (h : rs.length < 64) (hn : ∀ r ∈ rs, r ≠ []) : Wp (ssetM (.lst (rs.map rowD))) S Q ↔ Q (.lst ((sortRows (dedup rs)).map rowD)) S := by
  refine wp_some ?_
  cases rs with
  | nil =>
    unfold ssetM itemsL ssetL sortInts sortRows
    simp [intsD, dedup]
  | cons r rs =>
    have e : intsD ((r :: rs).map rowD) = none := rfl
    unfold ssetM itemsL ssetL
    simp only [e, rowsD_map]
    rw [if_pos ⟨h, by
      rw [List.all_eq_true]
      intro x hx
      cases x with
      | nil => exact absurd rfl (hn [] hx)
      | cons _ _ => rfl⟩]
    rfl
end
end Mn

set_option maxRecDepth 100000
set_option maxHeartbeats 1000000
/-! Mn: enumerate over a tuple, zip of lists that may change, extend. -/
namespace Mn
open PySem PySem.Spec PyProof.Rows L2 PySem.W

/-! ### enumerate, zip -/
def pairs0 (ds : List D) : List D := ds.zipIdx.map fun p => D.tup [.int (p.2 : Nat), p.1]
theorem pairs0_at {ds : List D} {i : Nat} {d : D} (h : (pairs0 ds)[i]? = some d) : ∃ c, ds[i]? = some c ∧ d = .tup [.int (i : Nat), c] := by
  unfold pairs0 at h
  simp only [List.getElem?_map, List.getElem?_zipIdx, Option.map_map] at h
  cases he : ds[i]? with
  | none => rw [he] at h; cases h
  | some c =>
    rw [he] at h
    exact ⟨c, rfl, by simpa using h.symm⟩
theorem pairs0_len {ds : List D} : (pairs0 ds).length = ds.length := by unfold pairs0; simp
def enumM (ds : List D) (S : Sto) : Option (Src × Sto) := match ds with
  | [d] => (srcOf d S).map fun s => (⟨pairs0 s.ds, s.n⟩, S)
  | _ => none
theorem i_enum {X : Cx} {e : Expr} {m : EM (List D)} {p pos tpos : Pos} {elts : List Expr} {kk : Nat} (hm : X.mg "enumerate" = none) (ha : PA X [e] (rdA X.K m)) (hg : Gl X "enumerate" := by rfl) (hs : starEach [e] X.env = [(false, eval e X.env)] := by rfl) :
    PI X (.Tuple elts kk tpos) (.Call (.Name "enumerate" p) [e] [] pos) (rdI X.K fun rho => bnd (m rho) enumM) :=
  PI.weak (pi_enumF hg hm ha hs) fun sg H R h => by
    obtain ⟨ph, S, rho, src, S', s, en, e, post⟩ := h
    obtain ⟨ds, S1, e1, e2⟩ := bnd_inv e
    refine ⟨ph, S, rho, ds, S1, s, en, e1, fun ph1 H1 xs E1 s1 r1 => ?_⟩
    unfold enumM at e2
    split at e2
    · rename_i d
      obtain ⟨x, rfl, rx⟩ := RepL.one r1
      cases e3 : srcOf d S1 with
      | none => rw [e3] at e2; cases e2
      | some sr =>
        rw [e3] at e2; cases e2
        obtain ⟨a, rfl, k, ok⟩ := listAt s1 rx e3
        rcases k with k | k
        · obtain ⟨ys, hq, _⟩ := k ph1 _ H1 Ext.refl.toExt0 s1 ok
          refine ⟨a, ys, rfl, .inl ⟨hq, post ph1 H1 _ E1 s1 ⟨fun ph2 S2 H2 E2 s2 ok2 i d hd => ?_, fun ph2 S2 H2 E2 s2 ok2 i hi => ?_⟩⟩⟩
          · obtain ⟨zs, hz, rz⟩ := k ph2 S2 H2 E2 s2 ok2
            obtain ⟨c, hc, rfl⟩ := pairs0_at hd
            obtain ⟨z, h1, h2⟩ := rz.get hc
            refine ⟨⟨zs, z, hz, h1⟩, fun y H3 ⟨T, ob, w, h3, h4, hob, h5, h6⟩ => ?_⟩
            subst h3 h5
            have h7 := h6 zs hz
            rw [h1] at h7; cases h7
            refine ⟨Ext.tree s2 h4, s2.tree h4, ?_⟩
            rw [Rep]
            exact ⟨T, _, rfl, TAt.new hob.1 hob.2 (s2.fresh h4), .cons (by rw [Rep]) (.cons (h2.ext (Ext.tree s2 h4)) .nil)⟩
          · obtain ⟨zs, hz, rz⟩ := k ph2 S2 H2 E2 s2 ok2
            exact ⟨zs, hz, by rw [rz.len, ← pairs0_len]; exact hi⟩
        · obtain ⟨ys, hq, _⟩ := k ph1 _ H1 Ext.refl.toExt0 s1 ok
          refine ⟨a, ys, rfl, .inr ⟨hq, post ph1 H1 _ E1 s1 ⟨fun ph2 S2 H2 E2 s2 ok2 i d hd => ?_, fun ph2 S2 H2 E2 s2 ok2 i hi => ?_⟩⟩⟩
          · obtain ⟨zs, hz, rz⟩ := k ph2 S2 H2 E2 s2 ok2
            obtain ⟨c, hc, rfl⟩ := pairs0_at hd
            obtain ⟨z, h1, h2⟩ := rz.get hc
            refine ⟨⟨zs, z, hz, h1⟩, fun y H3 ⟨T, ob, w, h3, h4, hob, h5, h6⟩ => ?_⟩
            subst h3 h5
            have h7 := h6 zs hz
            rw [h1] at h7; cases h7
            refine ⟨Ext.tree s2 h4, s2.tree h4, ?_⟩
            rw [Rep]
            exact ⟨T, _, rfl, TAt.new hob.1 hob.2 (s2.fresh h4), .cons (by rw [Rep]) (.cons (h2.ext (Ext.tree s2 h4)) .nil)⟩
          · obtain ⟨zs, hz, rz⟩ := k ph2 S2 H2 E2 s2 ok2
            exact ⟨zs, hz, by rw [rz.len, ← pairs0_len]; exact hi⟩
    · cases e2
def pairs2 (ds es : List D) : List D := (ds.zip es).map fun p => D.tup [p.1, p.2]
theorem listAtB {K : PySem.W.Frag} {ph : Ph} {S : Sto} {H : Hp} {d : D} {src : Src} {v : V} (s : Sim K ph S H) (r : Rep K ph S H d v) (e : srcOf d S = some src) :
    ∃ a c, v = .ref a ∧ (∀ ph1 S1 H1, Ext0 ph S H ph1 S1 H1 → Sim K ph1 S1 H1 → srcOk src S1 → ∃ xs, SqB c K H1 a xs ∧ RepL K ph1 S1 H1 src.ds xs) ∧ srcOk src S := by
  obtain ⟨a, h1, k | k, ok⟩ := listAt s r e
  · exact ⟨a, true, h1, k, ok⟩
  · exact ⟨a, false, h1, k, ok⟩
def zipM (ds : List D) (S : Sto) : Option (Src × Sto) := match ds with
  | [c, d] => match srcOf c S, srcOf d S with
    | some a, some b => some (⟨pairs2 a.ds b.ds, a.n ++ b.n⟩, S)
    | _, _ => none
  | _ => none
theorem i_zip {X : Cx} {e e2 : Expr} {m : EM (List D)} {p pos tpos : Pos} {elts : List Expr} {kk : Nat} (hm : X.mg "zip" = none) (ha : PA X [e, e2] (rdA X.K m)) (hg : Gl X "zip" := by rfl) (hs : starEach [e, e2] X.env = (false, eval e X.env) :: starEach [e2] X.env := by rfl) (hpl : (backTo pos (starEach [e2] X.env)).any (·.1) = false := by rfl) :
    PI X (.Tuple elts kk tpos) (.Call (.Name "zip" p) [e, e2] [] pos) (rdI X.K fun rho => bnd (m rho) zipM) :=
  PI.weak (pi_zipB hg hm ha hs hpl) fun sg H R h => by
    obtain ⟨ph, S, rho, src, S', s, en, e, post⟩ := h
    obtain ⟨ds, S1, e1, e2⟩ := bnd_inv e
    refine ⟨ph, S, rho, ds, S1, s, en, e1, fun ph1 H1 xs E1 s1 r1 => ?_⟩
    unfold zipM at e2
    split at e2
    · rename_i c d
      obtain ⟨x, y, rfl, rx, ry⟩ := RepL.two r1
      split at e2
      · rename_i sa sb hc hd
        obtain ⟨a, b1, rfl, k, ok⟩ := listAtB s1 rx hc
        obtain ⟨b, b2, rfl, k2, ok2⟩ := listAtB s1 ry hd
        obtain ⟨ys, hq, _⟩ := k ph1 _ H1 Ext.refl.toExt0 s1 ok
        obtain ⟨ys2, hq2, _⟩ := k2 ph1 _ H1 Ext.refl.toExt0 s1 ok2
        cases e2
        have oka : ∀ {S2}, srcOk ⟨pairs2 sa.ds sb.ds, sa.n ++ sb.n⟩ S2 → srcOk sa S2 := fun h p hp => h p (List.mem_append_left _ hp)
        have okb : ∀ {S2}, srcOk ⟨pairs2 sa.ds sb.ds, sa.n ++ sb.n⟩ S2 → srcOk sb S2 := fun h p hp => h p (List.mem_append_right _ hp)
        refine ⟨a, b, b1, b2, ys, ys2, rfl, hq, hq2, post ph1 H1 _ E1 s1 ⟨fun ph2 S2 H2 E2 s2 okz i d hd => ?_, fun ph2 S2 H2 E2 s2 okz i hi => ?_⟩⟩
        · obtain ⟨zs, hz, rz⟩ := k ph2 S2 H2 E2 s2 (oka okz)
          obtain ⟨zs2, hz2, rz2⟩ := k2 ph2 S2 H2 E2 s2 (okb okz)
          have hd' : (pairs2 sa.ds sb.ds)[i]? = some d := hd
          unfold pairs2 at hd'
          rw [List.getElem?_map] at hd'
          cases hzz : (sa.ds.zip sb.ds)[i]? with
          | none => rw [hzz] at hd'; cases hd'
          | some pr =>
            rw [hzz] at hd'; cases hd'
            obtain ⟨g1, g2⟩ := List.getElem?_zip_eq_some.mp hzz
            obtain ⟨z, h1, h2⟩ := rz.get g1
            obtain ⟨z2, h12, h22⟩ := rz2.get g2
            refine ⟨⟨zs, zs2, z, z2, hz, hz2, h1, h12⟩, fun y H3 ⟨T, ob, w, w2, h3, h4, hob, h5, h6, h62⟩ => ?_⟩
            subst h3 h5
            have h7 := h6 zs hz
            rw [h1] at h7; cases h7
            have h8 := h62 zs2 hz2
            rw [h12] at h8; cases h8
            refine ⟨Ext.tree s2 h4, s2.tree h4, ?_⟩
            rw [Rep]
            exact ⟨T, _, rfl, TAt.new hob.1 hob.2 (s2.fresh h4), .cons (h2.ext (Ext.tree s2 h4)) (.cons (h22.ext (Ext.tree s2 h4)) .nil)⟩
        · obtain ⟨zs, hz, rz⟩ := k ph2 S2 H2 E2 s2 (oka okz)
          obtain ⟨zs2, hz2, rz2⟩ := k2 ph2 S2 H2 E2 s2 (okb okz)
          refine ⟨zs, zs2, hz, hz2, ?_⟩
          rw [rz.len, rz2.len]
          have hi' : (pairs2 sa.ds sb.ds).length ≤ i := hi
          unfold pairs2 at hi'
          rw [List.length_map, List.length_zip] at hi'
          omega
      · cases e2
    · cases e2

/-! ### extend -/
def extM (o : D) (as : List D) : M D := fun S => match o, as with
  | .ref n, [y] => match S.ob n, itemsL y S with
    | some (.lst ds), some es => if ds.length + es.length ≤ lim then some (.non, S.set n (.lst (ds ++ es))) else none
    | _, _ => none
  | _, _ => none
theorem ext_ok {K : PySem.W.Frag} {ph : Ph} {S : Sto} {H : Hp} {x : V} {xs : List V} {dx : D} {dxs : List D} {d : D} {S' : Sto} {Q : VK} (s : Sim K ph S H) (rx : Rep K ph S H dx x) (rxs : RepL K ph S H dxs xs) (e : extM dx dxs S = some (d, S')) (post : PostE K ph S H Q d S') : rExtend x xs H Q := by
  unfold extM at e
  split at e
  · rename_i n y
    split at e
    · rename_i ds es hd he
      split at e
      · rename_i hl
        cases e
        obtain ⟨ys, rfl, h1, h2, h3⟩ := ref_at s rx hd
        obtain ⟨v, rfl, rv⟩ := RepL.one rxs
        obtain ⟨b, zs, rfl, k1, k2⟩ := itemsL_of s rv he
        obtain ⟨E, s2⟩ := put_at s h3 (h2.app k2)
        exact ⟨_, b, ys, zs, rfl, rfl, h1, k1, by rw [h2.len, k2.len]; exact hl, post _ _ _ E s2 (by rw [Rep])⟩
      · cases e
    · cases e
  · cases e
theorem e_extend {X : Cx} {o e : Expr} {apos cpos : Pos} {mo : EM D} {ma : EM (List D)} (ho : PE X o (rdE X.K mo)) (ha : PA X [e] (rdA X.K ma))
    (hbase : attributeBase o "extend" X.env (eval o X.env) = eval o X.env := by rfl)
    (hfew : ((backTo cpos (starEach [e] X.env)).all (fun x => !x.1) && (backToKw cpos (keywordEach [] X.env)).all (fun x => x.1.isSome)
      && decide ([e].length + ([] : List Keyword).length + (if ([] : List Keyword).isEmpty then 0 else 1) < 30)) = true := by rfl)
    (hline : (apos.endLine == cpos.line) = true := by rfl) (hs : starEach [e] X.env = (false, eval e X.env) :: starEach [] X.env := by rfl) (hplain : (backTo cpos (starEach [] X.env)).any (·.1) = false := by rfl) :
    PE X (.Call (.Attribute o "extend" apos) [e] [] cpos) (rdE X.K (mMet mo ma extM)) := e_met mt_extend (fun _ _ _ _ _ _ _ _ _ _ s rx rxs e p => ext_ok s rx rxs e p) PySem.F.slot_list_extend ho ha PySem.F.type_list_extend hbase hfew hline hs hplain
end Mn

set_option maxRecDepth 100000
set_option maxHeartbeats 1000000
/-! Mn: isinstance of a built-in type, max and min of two, index of a name in a tuple. -/
namespace Mn
open PySem PySem.Spec PyProof.Rows L2

/-- the type's name of data that isinstance is asked of -/
def tyN (S : Sto) : D → Option String
  | .non => some "NoneType"
  | .bl _ => some "bool"
  | .int _ => some "int"
  | .str _ => some "str"
  | .tup _ => some "tuple"
  | .lst _ => some "list"
  | .rol _ => none
  | .dic _ _ => some "dict"
  | .ref n => match S.ob n with
    | some (.lst _) => some "list"
    | some (.dic _ _) => some "dict"
    | _ => none
theorem tyN_of {K : PySem.W.Frag} {ph : Ph} {S : Sto} {H : Hp} {d : D} {v : V} {t : String} (s : Sim K ph S H) (r : Rep K ph S H d v) (h : tyN S d = some t) : TyX K H v (.type t) := by
  cases d with
  | non => cases h; obtain rfl := r.nonE; exact .base .non
  | bl b => cases h; obtain rfl := r.blE; exact .base (.bl b)
  | int i => cases h; obtain rfl := r.intE; exact .base (.int i)
  | str x => cases h; obtain rfl := r.strE; exact .base (.str x)
  | tup ds =>
    cases h
    obtain ⟨a, xs, rfl, h1, _⟩ := r.tupE
    rcases h1 with ⟨⟨o, h1, _⟩, _⟩ | ⟨_, h1⟩
    · exact .fTuple h1
    · rcases h1 with (h1 | ⟨o, h1⟩) | ⟨o, its, n, hk, hc, _⟩
      · cases h1
      · cases h1
      · exact .kTuple hk hc
  | lst ds =>
    cases h
    obtain ⟨a, xs, rfl, h1, _⟩ := r.lstE
    exact .base (.lst h1.1)
  | rol ds => cases h
  | dic ks ds =>
    cases h
    obtain ⟨a, kvs, rfl, h1, _⟩ := r.dicE
    exact .base (.dK h1.1)
  | ref n =>
    obtain ⟨_, rfl⟩ := r.refE
    unfold tyN at h
    simp only at h
    split at h
    · rename_i ds e
      cases h
      obtain ⟨xs, h1, _⟩ := s.ok n _ e
      exact .base (.lst h1)
    · rename_i ks ds e
      cases h
      obtain ⟨kvs, h1, _⟩ := s.ok n _ e
      exact .base (.dK h1)
    · cases h
def isiM (T : String) (d : D) : M D := fun S => match tyN S d with
  | some t => (kitB t T).map fun b => (.bl b, S)
  | none => none
section
variable {X : Cx}
theorem e_isi {T : String} {x : Str} {e : Expr} {me : EM D} {p p2 pos : Pos} (hm : X.mg "isinstance" = none) (hm2 : X.mg x = none) (he : PE X e (rdE X.K me)) (hv : bootBuiltins x = some (.type T)) (hg : Gl X "isinstance" := by rfl) (hg2 : Gl X x := by rfl) (hn : x ≠ "__name__" := by decide) (hd : (x == ("__debug__" : Str)) = false := by decide)
    (na : starEach [e, .Name x p2] X.env = (false, eval e X.env) :: starEach [.Name x p2] X.env := by rfl) (nb : starEach [.Name x p2] X.env = (false, eval (.Name x p2) X.env) :: starEach [] X.env := by rfl) (hpl : (backTo pos (starEach [.Name x p2] X.env)).any (·.1) = false := by rfl) :
    PE X (.Call (.Name "isinstance" p) [e, .Name x p2] [] pos) (rdE X.K (mUn (isiM T) me)) := by
  refine PE.weak (pe_callB (id := "isinstance") call_isi hg hm (by decide +kernel) (pa_cons he (pa_cons (pe_bltn (v := V.ty T) hg2 hm2 hv rfl hn hd) pa_nil nb) na) (by decide) (by decide) na hpl) fun sg H Q h => ?_
  obtain ⟨ph, S, rho, d, S', s, en, e1, post⟩ := h
  obtain ⟨a, S1, e2, e3⟩ := bnd_inv e1
  refine ⟨ph, S, rho, a, S1, s, en, e2, fun ph1 H1 v E1 s1 r1 => ?_⟩
  unfold isiM at e3
  split at e3
  · rename_i t ht
    cases hk : kitB t T with
    | none => rw [hk] at e3; cases e3
    | some b =>
      rw [hk] at e3; cases e3
      exact ⟨v, .ty T, .type t, .type T, b, rfl, .ty T, tyN_of s1 r1 ht, kit_ty hk, (post.of E1).now s1 (by rw [Rep])⟩
  · cases e3
end
def max2M (ds : List D) : M D := fun S => match ds with
  | [.int i, .int j] => some (.int (if j > i then j else i), S)
  | _ => none
def min2M (ds : List D) : M D := fun S => match ds with
  | [.int i, .int j] => some (.int (if j < i then j else i), S)
  | _ => none
theorem c_max2 {K : PySem.W.Frag} : CaM K (fun xs H Q => ∃ i j, xs = [.int i, .int j] ∧ Q (.int (if j > i then j else i)) H) max2M := by
  intro ph S H xs dxs d S' Q s rx e post
  unfold max2M at e
  split at e
  · cases e
    obtain ⟨x, y, rfl, r1, r2⟩ := RepL.two rx
    exact ⟨_, _, by rw [r1.intE, r2.intE], post.now s (by rw [Rep])⟩
  · cases e
theorem c_min2 {K : PySem.W.Frag} : CaM K (fun xs H Q => ∃ i j, xs = [.int i, .int j] ∧ Q (.int (if j < i then j else i)) H) min2M := by
  intro ph S H xs dxs d S' Q s rx e post
  unfold min2M at e
  split at e
  · cases e
    obtain ⟨x, y, rfl, r1, r2⟩ := RepL.two rx
    exact ⟨_, _, by rw [r1.intE, r2.intE], post.now s (by rw [Rep])⟩
  · cases e
end Mn

set_option maxRecDepth 100000
set_option maxHeartbeats 1000000
/-! Mn: index of a tuple of strs. -/
namespace Mn
open PySem PySem.Spec PyProof.Rows L2 PySem.W
def strsOf : List D → Option (List Str)
  | [] => some []
  | .str x :: r => (strsOf r).map (x :: ·)
  | _ => none
theorem strsOf_of {K : PySem.W.Frag} {ph : Ph} {S : Sto} {H : Hp} : ∀ {ds : List D} {ys : List Str} {xs : List V}, strsOf ds = some ys → RepL K ph S H ds xs → xs = ys.map V.str
  | [], ys, xs, h, r => by
    cases h
    rw [RepL] at r; exact r
  | d :: ds, ys, xs, h, r => by
    rw [RepL] at r
    obtain ⟨x, r1, rfl, h1, h2⟩ := r
    cases d with
    | str z =>
      obtain rfl := h1.strE
      unfold strsOf at h
      cases e : strsOf ds with
      | none => rw [e] at h; cases h
      | some zs =>
        rw [e] at h
        cases h
        rw [strsOf_of e h2]
        rfl
    | _ => cases h
theorem strsOf_map (ys : List Str) : strsOf (ys.map D.str) = some ys := by
  induction ys with
  | nil => rfl
  | cons y r ih => rw [List.map_cons, strsOf, ih]; rfl
def idxT (ds as : List D) : M D := fun S => match strsOf ds, as with
  | some ys, [.str z] => match ys.findIdx? (fun y => decide (y = z)) with
    | some j => some (.int (j : Nat), S)
    | none => none
  | _, _ => none
def mTIdx (mo : EM D) (ma : EM (List D)) : EM D := fun rho => bnd (mo rho) fun o S => match o with
  | .tup ds => bnd (ma rho) (fun as => idxT ds as) S
  | _ => none
theorem e_tidx {X : Cx} {o e : Expr} {apos cpos : Pos} {mo : EM D} {ma : EM (List D)} (ho : PE X o (rdE X.K mo)) (ha : PA X [e] (rdA X.K ma))
    (hbase : attributeBase o ("index" : Str) X.env (eval o X.env) = eval o X.env := by rfl)
    (hfew : ((backTo cpos (starEach [e] X.env)).all (fun x => !x.1) && (backToKw cpos (keywordEach [] X.env)).all (fun x => x.1.isSome)
      && decide ([e].length + ([] : List Keyword).length + (if ([] : List Keyword).isEmpty then 0 else 1) < 30)) = true := by rfl)
    (hline : (apos.endLine == cpos.line) = true := by rfl) (hs : starEach [e] X.env = (false, eval e X.env) :: starEach [] X.env := by rfl) (hplain : (backTo cpos (starEach [] X.env)).any (·.1) = false := by rfl) :
    PE X (.Call (.Attribute o ("index" : Str) apos) [e] [] cpos) (rdE X.K (mTIdx mo ma)) :=
  PE.weak (pe_bmT PySem.F.plainAttrs_tuple PySem.F.slot_tuple_index PySem.F.type_tuple_index mt_tup_index ho ha hbase hfew hline hs hplain) fun sg H Q h => by
    obtain ⟨ph, S, rho, d, S', s, en, e, post⟩ := h
    obtain ⟨o, S1, e1, e2⟩ := bnd_inv e
    split at e2
    · rename_i ds
      obtain ⟨as, S2, e3, e4⟩ := bnd_inv e2
      refine ⟨ph, S, rho, _, S1, s, en, e1, fun ph1 H1 x E1 s1 r1 => ?_⟩
      obtain ⟨a, xs, rfl, h1, h2⟩ := r1.tupE
      refine ⟨⟨a, xs, rfl, h1.tf⟩, ph1, S1, rho, as, S2, s1, en.ext E1, e3, fun ph2 H2 ws E2 s2 r2 => ?_⟩
      unfold idxT at e4
      split at e4
      · rename_i ys z hy
        split at e4
        · rename_i j hj
          cases e4
          obtain ⟨w, rfl, rw1⟩ := r2.one
          obtain rfl := rw1.strE
          have hx : xs = ys.map V.str := strsOf_of hy h2
          subst hx
          obtain ⟨hlt, hp, hno⟩ := List.findIdx?_eq_some_iff_getElem.mp hj
          refine ⟨a, ys, z, j, rfl, rfl, (h1.ext E2).sq, ?_, fun m hm hq => ?_, post ph2 H2 _ (E1.trans E2) s2 (by rw [Rep])⟩
          · rw [List.getElem?_eq_getElem hlt]
            exact congrArg some (of_decide_eq_true hp)
          · obtain ⟨hl, hq'⟩ := List.getElem?_eq_some_iff.mp hq
            exact hno m hm (decide_eq_true hq')
        · cases e4
      · cases e4
    · cases e2
end Mn

set_option maxRecDepth 100000
set_option maxHeartbeats 1000000
/-! Mn: the empty dict's display, max and min of a list of ints. -/
namespace Mn
open PySem PySem.Spec PyProof.Rows L2 PySem.W
def mDic0 : EM D := fun _ S => some (.dic [] [], S)
theorem e_dic0 {X : Cx} {pos : Pos} : PE X (.Dict [] [] pos) (rdE X.K mDic0) := PE.weak pe_dnewK fun sg H Q h => by
  obtain ⟨ph, S, rho, d, S', s, en, e, post⟩ := h
  cases e
  intro p hp
  exact post ph _ _ (Ext.tree s hp) (s.tree hp) (by
    rw [Rep]
    exact ⟨p, [], rfl, ⟨upd_same, s.fresh hp⟩, rfl, .nil⟩)
def intsOf : List D → Option (List Int)
  | [] => some []
  | .int x :: r => (intsOf r).map (x :: ·)
  | _ => none
theorem intsOf_of {K : PySem.W.Frag} {ph : Ph} {S : Sto} {H : Hp} : ∀ {ds : List D} {ys : List Int} {xs : List V}, intsOf ds = some ys → RepL K ph S H ds xs → xs = ys.map V.int
  | [], ys, xs, h, r => by
    cases h
    rw [RepL] at r; exact r
  | d :: ds, ys, xs, h, r => by
    rw [RepL] at r
    obtain ⟨x, r1, rfl, h1, h2⟩ := r
    cases d with
    | int z =>
      obtain rfl := h1.intE
      unfold intsOf at h
      cases e : intsOf ds with
      | none => rw [e] at h; cases h
      | some zs =>
        rw [e] at h
        cases h
        rw [intsOf_of e h2]
        rfl
    | _ => cases h
theorem intsOf_map (ys : List Int) : intsOf (ys.map D.int) = some ys := by
  induction ys with
  | nil => rfl
  | cons y r ih => rw [List.map_cons, intsOf, ih]; rfl
def maxLM (ds : List D) : M D := fun S => match ds with
  | [d] => match (itemsL d S).bind intsOf with
    | some ns => match ns.max? with
      | some m => some (.int m, S)
      | none => none
    | none => none
  | _ => none
theorem c_maxL {K : PySem.W.Frag} : CaM K (rMax K) maxLM := by
  intro ph S H xs dxs d S' Q s rx e post
  unfold maxLM at e
  split at e
  · rename_i dd
    split at e
    · rename_i ns hns
      split at e
      · rename_i m hm
        cases e
        obtain ⟨x, rfl, r⟩ := RepL.one rx
        obtain ⟨ds, h1, h2⟩ := Option.bind_eq_some_iff.mp hns
        obtain ⟨a, ys, rfl, g1, g2⟩ := itemsL_of s r h1
        rw [intsOf_of h2 g2] at g1
        obtain ⟨k1, k2⟩ := List.max?_eq_some_iff.mp hm
        refine ⟨a, ns, rfl, .inl (.inl g1), List.length_pos_of_mem k1, fun m' m1 m2 => ?_⟩
        obtain rfl : m' = m := Int.le_antisymm (k2 _ m1) (m2 _ k1)
        exact post.now s (by rw [Rep])
      · cases e
    · cases e
  · cases e
def minLM (ds : List D) : M D := fun S => match ds with
  | [d] => match (itemsL d S).bind intsOf with
    | some ns => match ns.min? with
      | some m => some (.int m, S)
      | none => none
    | none => none
  | _ => none
theorem c_minL {K : PySem.W.Frag} : CaM K (rMin K) minLM := by
  intro ph S H xs dxs d S' Q s rx e post
  unfold minLM at e
  split at e
  · rename_i dd
    split at e
    · rename_i ns hns
      split at e
      · rename_i m hm
        cases e
        obtain ⟨x, rfl, r⟩ := RepL.one rx
        obtain ⟨ds, h1, h2⟩ := Option.bind_eq_some_iff.mp hns
        obtain ⟨a, ys, rfl, g1, g2⟩ := itemsL_of s r h1
        rw [intsOf_of h2 g2] at g1
        obtain ⟨k1, k2⟩ := List.min?_eq_some_iff.mp hm
        refine ⟨a, ns, rfl, .inl (.inl g1), List.length_pos_of_mem k1, fun m' m1 m2 => ?_⟩
        obtain rfl : m' = m := Int.le_antisymm (m2 _ k1) (k2 _ m1)
        exact post.now s (by rw [Rep])
      · cases e
    · cases e
  · cases e
end Mn

set_option maxRecDepth 100000
set_option maxHeartbeats 1000000
/-! Mn: more of what plain functions lead to: loops over told data, one tactic. -/
namespace Mn
open PySem PySem.Spec PyProof.Rows L2
/-- the plain rules, and some more -/
theorem filt_true {α : Type} (l : List α) : (l.filter fun _ => true) = l := by simp
theorem eqOf {S : Sto} {m : M D} {d : D} (h : Wp m S fun x S' => x = d ∧ S' = S) : m S = some (d, S) := by
  obtain ⟨x, S', e, rfl, rfl⟩ := h
  exact e
theorem trOf {S : Sto} {m : M Bool} {b : Bool} (h : Wp m S fun x S' => x = b ∧ S' = S) : m S = some (b, S) := by
  obtain ⟨x, S', e, rfl, rfl⟩ := h
  exact e
section
variable {S : Sto} {rho : Env} {Q : D → Sto → Prop} {QS : Fl × Env → Sto → Prop}
theorem wp_asg2 {i j : Nat} {a b : D} : Wp (fun S => (gT 2 (gsCons (gV i) (gsCons (gV j) gsNil)) (.tup [a, b]) rho).map fun r => ((Fl.nx, r), S)) S QS ↔ QS (.nx, (rho.set i (some a)).set j (some b)) S := wp_some rfl
theorem wp_asg3 {i j k : Nat} {a b c : D} : Wp (fun S => (gT 3 (gsCons (gV i) (gsCons (gV j) (gsCons (gV k) gsNil))) (.tup [a, b, c]) rho).map fun r => ((Fl.nx, r), S)) S QS ↔ QS (.nx, ((rho.set i (some a)).set j (some b)).set k (some c)) S := wp_some rfl
/-- tuples' and lists' sources -/
theorem src_tup {ds : List D} {QI : Src → Sto → Prop} : Wp (fun S => (srcOf (.tup ds) S).map fun s => (s, S)) S QI ↔ QI ⟨ds, []⟩ S := wp_some rfl
theorem src_lst {ds : List D} {QI : Src → Sto → Prop} : Wp (fun S => (srcOf (.lst ds) S).map fun s => (s, S)) S QI ↔ QI ⟨ds, []⟩ S := wp_some rfl
theorem src_ref {n : Nat} {ds : List D} {QI : Src → Sto → Prop} (h : S.ob n = some (.lst ds)) : Wp (fun S => (srcOf (.ref n) S).map fun s => (s, S)) S QI ↔ QI ⟨ds, [(n, ds)]⟩ S := wp_some (by unfold srcOf; simp only [h]; rfl)
theorem zip_tt {a b : List D} {QI : Src → Sto → Prop} : Wp (zipM [.tup a, .tup b]) S QI ↔ QI ⟨pairs2 a b, []⟩ S := wp_some rfl
theorem new_nil {QD : D → Sto → Prop} : Wp (mkNew []) S QD ↔ QD (.ref S.nx) (S.new (.lst [])) := wp_some (by unfold mkNew; rw [if_pos (limP (by simp))])
theorem mt0 : Wp (mkTup []) S Q ↔ Q (.tup []) S := wp_mkTup (by simp)
theorem mt1 {a : D} : Wp (mkTup [a]) S Q ↔ Q (.tup [a]) S := wp_mkTup (by simp)
theorem mt2 {a b : D} : Wp (mkTup [a, b]) S Q ↔ Q (.tup [a, b]) S := wp_mkTup (by simp)
theorem mt3 {a b c : D} : Wp (mkTup [a, b, c]) S Q ↔ Q (.tup [a, b, c]) S := wp_mkTup (by simp)
theorem ml0 : Wp (mkLst []) S Q ↔ Q (.lst []) S := wp_mkLst (by simp)
theorem ml1 {a : D} : Wp (mkLst [a]) S Q ↔ Q (.lst [a]) S := wp_mkLst (by simp)
theorem ml2 {a b : D} : Wp (mkLst [a, b]) S Q ↔ Q (.lst [a, b]) S := wp_mkLst (by simp)
theorem ml3 {a b c : D} : Wp (mkLst [a, b, c]) S Q ↔ Q (.lst [a, b, c]) S := wp_mkLst (by simp)
end
/-- index of a tuple, part by part -/
def tidxK (o : D) (m : M (List D)) : M D := fun S => match o with
  | .tup ds => bnd m (fun as => idxT ds as) S
  | _ => none
section
variable {S : Sto} {rho : Env} {Q : D → Sto → Prop} {QL : List D → Sto → Prop}
theorem wp_tidx {mo : EM D} {ma : EM (List D)} : Wp (mTIdx mo ma rho) S Q ↔ Wp (mo rho) S fun o S1 => Wp (tidxK o (ma rho)) S1 Q := by unfold mTIdx; exact wp_bnd
theorem tidx_tup {ds : List D} {m : M (List D)} : Wp (tidxK (.tup ds) m) S Q ↔ Wp m S fun as S1 => Wp (idxT ds as) S1 Q := by
  rw [← wp_bnd]
  exact Iff.rfl
def starK (a : D) (m : M (List D)) : M (List D) := fun S => match items a S with
  | some ds => bnd m (fun as => ret (ds ++ as)) S
  | none => none
theorem wp_star {ma : EM D} {mas : EM (List D)} : Wp (mStar ma mas rho) S QL ↔ Wp (ma rho) S fun a S1 => Wp (starK a (mas rho)) S1 QL := by unfold mStar; exact wp_bnd
theorem starT {ds : List D} {m : M (List D)} : Wp (starK (.tup ds) m) S QL ↔ Wp m S fun as S1 => QL (ds ++ as) S1 := by
  have : Wp (starK (.tup ds) m) S QL ↔ Wp (bnd m fun as => ret (ds ++ as)) S QL := Iff.rfl
  rw [this, wp_bnd]
  constructor
  · exact fun h => h.mono fun a S' q => wp_ret.mp q
  · exact fun h => h.mono fun a S' q => wp_ret.mpr q
end
/-- walked told data, the first that answers ends it -/
theorem loopA_find {α : Type} {src : Src} {g : GM} {mb : SM} {I : Env → Sto → Prop} {J : Sto → Prop} {c : α → D} {f : α → Option D} (ok : ∀ r S, I r S → srcOk src S) : ∀ {l : List α} {rho : Env} {S : Sto}, I rho S →
    (∀ x ∈ l, ∀ r S, I r S → ∃ r1, g (c x) r = some r1 ∧ Wp (mb r1) S fun p S1 => match f x with | some v => p.1 = .rt v ∧ J S1 | none => p.1 = .nx ∧ I p.2 S1) →
    Wp (loopGo src g mb (l.map c) rho) S fun p S1 => match l.findSome? f with | some v => p.1 = .rt v ∧ J S1 | none => p.1 = .nx ∧ I p.2 S1
  | [], rho, S, i, _ => ⟨(.nx, rho), S, by rw [List.map_nil]; unfold loopGo; rw [if_pos (ok rho S i)], rfl, i⟩
  | x :: l, rho, S, i, h => by
    obtain ⟨r1, h1, ⟨fl, r2⟩, S1, e1, h2⟩ := h x List.mem_cons_self rho S i
    rw [List.findSome?_cons, List.map_cons]
    have e0 : loopGo src g mb (c x :: l.map c) rho S = bnd (mb r1) (fun p => match p.1 with
        | .nx => loopGo src g mb (l.map c) p.2
        | .ct => loopGo src g mb (l.map c) p.2
        | .bk => Mn.ret (.nx, p.2)
        | .rt r => Mn.ret (.rt r, p.2)) S := by
      conv => lhs; unfold loopGo
      rw [if_pos (ok rho S i), h1, Option.bind_some] <;> rfl
    cases hf : f x with
    | some v =>
      rw [hf] at h2
      obtain ⟨e2, j⟩ := h2
      have e2 : fl = .rt v := e2
      subst e2
      refine ⟨(.rt v, r2), S1, ?_, rfl, j⟩
      rw [e0]; unfold bnd; rw [e1]; rfl
    | none =>
      rw [hf] at h2
      obtain ⟨e2, i2⟩ := h2
      have e2 : fl = .nx := e2
      subst e2
      obtain ⟨p, S3, e3, q⟩ := loopA_find (l := l) ok i2 fun y hy => h y (List.mem_cons_of_mem _ hy)
      refine ⟨p, S3, ?_, q⟩
      rw [e0]; unfold bnd; rw [e1]; exact e3
/-- walked told data, the done ones told -/
theorem loopA_done {α : Type} {src : Src} {g : GM} {mb : SM} {I : List α → Env → Sto → Prop} {c : α → D} (ok : ∀ n r S, I n r S → srcOk src S) : ∀ {l pre : List α} {rho : Env} {S : Sto}, I pre rho S →
    (∀ done x rest, pre ++ l = done ++ x :: rest → ∀ r S, I done r S → ∃ r1, g (c x) r = some r1 ∧ Wp (mb r1) S fun p S1 => p.1 = .nx ∧ I (done ++ [x]) p.2 S1) →
    Wp (loopGo src g mb (l.map c) rho) S fun p S1 => p.1 = .nx ∧ I (pre ++ l) p.2 S1
  | [], pre, rho, S, i, _ => ⟨(.nx, rho), S, by rw [List.map_nil]; unfold loopGo; rw [if_pos (ok pre rho S i)], rfl, by rw [List.append_nil]; exact i⟩
  | d :: ds, pre, rho, S, i, h => by
    obtain ⟨r1, h1, ⟨fl, r2⟩, S1, e1, h2, i2⟩ := h pre d ds rfl rho S i
    cases h2
    have e0 : pre ++ d :: ds = pre ++ [d] ++ ds := by simp
    obtain ⟨p, S3, e3, hl, i3⟩ := loopA_done (l := ds) (pre := pre ++ [d]) ok i2 fun done x rest e => h done x rest (by rw [e0]; exact e)
    refine ⟨p, S3, ?_, hl, by rw [e0]; exact i3⟩
    rw [List.map_cons]
    unfold loopGo
    rw [if_pos (ok pre rho S i), h1, Option.bind_some]
    unfold bnd
    rw [e1]
    exact e3
/-- a comprehension that draws or makes -/
theorem lcA_inv {α : Type} {rho : Env} {src : Src} {g : GM} {mt : EM Bool} {me : EM D} {I : Sto → Prop} {P : α → D → Prop} {c : α → D} (ok : ∀ S, I S → srcOk src S) : ∀ {l : List α} {S : Sto}, I S →
    (∀ x ∈ l, ∃ r1, g (c x) rho = some r1 ∧ ∀ S, I S → Wp (mt r1) S fun b S1 => b = true ∧ Wp (me r1) S1 fun y S2 => P x y ∧ I S2) →
    Wp (lcGo src g mt me rho (l.map c)) S fun r S1 => r.length = l.length ∧ (∀ y ∈ r, ∃ x ∈ l, P x y) ∧ I S1
  | [], S, i, _ => ⟨[], S, by rw [List.map_nil]; unfold lcGo; rw [if_pos (ok S i)], rfl, (fun y hy => by cases hy), i⟩
  | d :: ds, S, i, h => by
    obtain ⟨r1, h1, h2⟩ := h d List.mem_cons_self
    obtain ⟨b, S1, e1, rfl, y, S2, e2, py, i2⟩ := h2 S i
    obtain ⟨r, S3, e3, hl, hp, i3⟩ := lcA_inv (l := ds) ok i2 fun x hx => h x (List.mem_cons_of_mem _ hx)
    refine ⟨y :: r, S3, ?_, by rw [List.length_cons, List.length_cons, hl], fun z hz => ?_, i3⟩
    · rw [List.map_cons]
      unfold lcGo
      rw [if_pos (ok S i), h1, Option.bind_some]
      unfold bnd
      simp only [e1, Option.bind_some, if_true, e2, e3, ret]
    · rcases List.mem_cons.mp hz with rfl | hz
      · exact ⟨d, List.mem_cons_self, py⟩
      · obtain ⟨x, hx, px⟩ := hp z hz
        exact ⟨x, List.mem_cons_of_mem _ hx, px⟩
/-- [f(x) for x in .. if t(x)], plain -/
theorem lcA {α : Type} {S : Sto} {rho : Env} {g : GM} {mt : EM Bool} {me : EM D} {t : α → Bool} {f c : α → D} {src : Src} {l : List α} {QL : List D → Sto → Prop} (ok : srcOk src S) (h : ∀ x ∈ l, ∃ r1, g (c x) rho = some r1 ∧ Wp (mt r1) S (fun b S1 => b = t x ∧ S1 = S) ∧ (t x = true → Wp (me r1) S fun d S1 => d = f x ∧ S1 = S)) :
    Wp (lcGo src g mt me rho (l.map c)) S QL ↔ QL ((l.filter t).map f) S := by
  refine wp_some ?_
  induction l with
  | nil => unfold lcGo; rw [List.map_nil]; simp only; rw [if_pos ok]; rfl
  | cons x l ih =>
    obtain ⟨r1, h1, h2, h3⟩ := h x List.mem_cons_self
    have ih := ih fun y hy => h y (List.mem_cons_of_mem _ hy)
    rw [List.map_cons]
    unfold lcGo
    rw [if_pos ok, h1, Option.bind_some]
    unfold bnd
    rw [trOf h2]
    cases ht : t x with
    | true => simp only [Option.bind_some, if_true, eqOf (h3 ht), ih, Mn.ret, List.filter_cons_of_pos ht, List.map_cons]
    | false =>
      simp only [Option.bind_some, Bool.false_eq_true, if_false, ih]
      rw [List.filter_cons_of_neg (by rw [ht]; decide)]
theorem lcD {S : Sto} {rho : Env} {g : GM} {mt : EM Bool} {me : EM D} {t : D → Bool} {f : D → D} {src : Src} {l : List D} {QL : List D → Sto → Prop} (ok : srcOk src S) (h : ∀ x ∈ l, ∃ r1, g x rho = some r1 ∧ Wp (mt r1) S (fun b S1 => b = t x ∧ S1 = S) ∧ (t x = true → Wp (me r1) S fun d S1 => d = f x ∧ S1 = S)) :
    Wp (lcGo src g mt me rho l) S QL ↔ QL ((l.filter t).map f) S := by
  have := lcA (S := S) (rho := rho) (g := g) (mt := mt) (me := me) (t := t) (f := f) (c := id) (src := src) (l := l) (QL := QL) ok h
  rw [List.map_id] at this
  exact this
section
variable {S : Sto} {Q : D → Sto → Prop}
theorem ones_eq {α : Type} (l : List α) : (l.map fun _ => D.int 1) = (l.map fun _ => (1 : Int)).map D.int := by rw [List.map_map]; rfl
theorem ones_ne {α : Type} {l : List α} : Wp (neM (.lst (l.map fun _ => D.int 1)) (.lst [])) S Q ↔ Q (.bl (!l.isEmpty)) S := by
  rw [ones_eq, wp_neNilL (pdL_ints _) (by rw [depth_ints]; omega), List.isEmpty_map, List.isEmpty_map]
theorem wp_eqNilL {l : List D} {ps : List PyData} (h : pdL l = some ps) (hd : PyData.depthAll ps ≤ 50) : Wp (eqM (.lst l) (.lst [])) S Q ↔ Q (.bl l.isEmpty) S := by
  rw [wp_eq (p := .list ps) (q := .list []) (by show pdT _ = _; rw [pdT, h]; rfl) (by show pdT _ = _; rw [pdT, pdL]; rfl) (by rw [PyData.depth]; omega)]
  have e := pdL_len h
  cases l with
  | nil =>
    cases ps with
    | nil => simp [PyData.eqv, PyData.eqvAll]
    | cons _ _ => cases e
  | cons _ _ =>
    cases ps with
    | nil => cases e
    | cons _ _ => simp [PyData.eqv, PyData.eqvAll]
theorem ones_eqN {α : Type} {l : List α} : Wp (eqM (.lst (l.map fun _ => D.int 1)) (.lst [])) S Q ↔ Q (.bl l.isEmpty) S := by
  rw [ones_eq, wp_eqNilL (pdL_ints _) (by rw [depth_ints]; omega), List.isEmpty_map, List.isEmpty_map]
end
/-- lists of data, each of which can be shown -/
theorem OkL.all {a n : Nat} : ∀ {l : List D}, (∀ d ∈ l, ∃ p, OkD a n d p) → ∃ ps, OkL (l.length * (a + 1)) n l ps
  | [], _ => ⟨[], by rw [List.length_nil, Nat.zero_mul]; exact OkL.nil⟩
  | d :: l, h => by
    obtain ⟨ps, hp⟩ := OkL.all (l := l) fun x hx => h x (List.mem_cons_of_mem _ hx)
    obtain ⟨p, hd⟩ := h d List.mem_cons_self
    have := OkL.cons hd hp
    refine ⟨_, this.pd, this.sh, this.dp, Nat.le_trans this.wt ?_, this.si⟩
    rw [List.length_cons, Nat.add_mul]; omega
theorem mem_cutD {α : Type} {l : List α} {a b : Option Int} {x : α} (h : x ∈ cutD l a b) : x ∈ l := by
  unfold cutD at h
  exact List.mem_of_mem_drop (List.mem_of_mem_take h)
theorem len_cutD {α : Type} {l : List α} {a b : Option Int} : (cutD l a b).length ≤ l.length := by
  unfold cutD
  rw [List.length_take, List.length_drop]
  omega
/-- texts sorted -/
theorem pdL_all : ∀ {l : List D}, (∀ d ∈ l, ∃ p, pdT d = some p) → ∃ ps, pdL l = some ps
  | [], _ => ⟨[], rfl⟩
  | d :: l, h => by
    obtain ⟨p, hp⟩ := h d List.mem_cons_self
    obtain ⟨ps, hps⟩ := pdL_all (l := l) fun x hx => h x (List.mem_cons_of_mem _ hx)
    exact ⟨p :: ps, by rw [pdL, hp, hps]; rfl⟩
theorem sortL_strs {l : List Str} (h : ∀ x ∈ l, PyData.strOk x = true) : ∃ l' : List Str, l'.Perm l ∧ sortL (l.map .str) = some (l'.map .str) := by
  have e : pdL (l.map D.str) = some (l.map PyData.str) := by
    induction l with
    | nil => rfl
    | cons x l ih => rw [List.map_cons, pdL, pdT, if_pos (h x List.mem_cons_self), ih fun y hy => h y (List.mem_cons_of_mem _ hy)]; rfl
  have hz : (l.map D.str).zip (l.map PyData.str) = l.map fun x => (D.str x, PyData.str x) := List.zip_map' ..
  refine ⟨l.mergeSort fun x y => PySem.W.dataLe false (·.2) (D.str x, PyData.str x) (D.str y, PyData.str y), List.mergeSort_perm _ _, ?_⟩
  unfold sortL
  rw [e]
  simp only
  rw [if_pos]
  · unfold sortBy
    rw [hz, ← List.map_mergeSort (r := fun x y => PySem.W.dataLe false (·.2) (D.str x, PyData.str x) (D.str y, PyData.str y)) (f := fun x => (D.str x, PyData.str x)) (fun a _ b _ => rfl), List.map_map]
    rfl
  · rw [Bool.and_eq_true, Bool.and_eq_true]
    refine ⟨⟨?_, ?_⟩, ?_⟩
    · unfold alikeB
      rw [List.all_eq_true]
      intro p hp
      rw [List.all_eq_true]
      intro q hq
      obtain ⟨a, _, rfl⟩ := List.mem_map.mp hp
      obtain ⟨b, _, rfl⟩ := List.mem_map.mp hq
      rw [PySem.W.alike]
    · unfold sortB
      rw [Bool.or_eq_true]
      right
      rw [List.all_eq_true]
      intro p hp
      obtain ⟨a, _, rfl⟩ := List.mem_map.mp hp
      rfl
    · rw [List.all_eq_true]
      intro p hp
      obtain ⟨a, _, rfl⟩ := List.mem_map.mp hp
      rw [PyData.depth]; rfl
end Mn

set_option maxRecDepth 100000
set_option maxHeartbeats 1000000
/-! Mn: sorted by the key that a lambda of one parameter gives. -/
namespace Mn
open PySem PySem.Spec PyProof.Rows L2 LamX
/-- one parameter x; else captured names and globals -/
structure Lam1 (sc scope : Scope) (x : Str) : Prop where
  kind : scope.kind = .function
  co : scope.isCoroutine = false
  gen : scope.isGenerator = false
  par : scope.names.lookup x = some .local
  own : ∀ y ∈ scope.names, (y.2 = .local → y.1 = x) ∧ y.2 ≠ .cell
  free : ∀ y ∈ scope.names, y.2 = .free → sc.names.lookup y.1 = some .cell ∨ sc.names.lookup y.1 = some .free
def lam1B (sc scope : Scope) (x : Str) : Bool :=
  decide (scope.kind = .function) && !scope.isCoroutine && !scope.isGenerator && decide (scope.names.lookup x = some .local) &&
    scope.names.all fun y => (!decide (y.2 = .local) || decide (y.1 = x)) && !decide (y.2 = .cell) && (!decide (y.2 = .free) || decide (sc.names.lookup y.1 = some .cell) || decide (sc.names.lookup y.1 = some .free))
theorem lam1_by {sc scope : Scope} {x : Str} (h : lam1B sc scope x = true) : Lam1 sc scope x := by
  unfold lam1B at h
  simp only [Bool.and_eq_true, Bool.or_eq_true, Bool.not_eq_true', decide_eq_true_eq, decide_eq_false_iff_not, List.all_eq_true] at h
  obtain ⟨⟨⟨⟨k1, k2⟩, k3⟩, k4⟩, k5⟩ := h
  refine ⟨k1, k2, k3, k4, fun y hy => ⟨fun e => ?_, (k5 y hy).1.2⟩, fun y hy e => ?_⟩
  · rcases (k5 y hy).1.1 with z | z
    · exact absurd e z
    · exact z
  · rcases (k5 y hy).2 with (z | z) | z
    · exact absurd e z
    · exact .inl z
    · exact .inr z
section
variable {X : Cx} {pins : List (Addr × Obj)} {σ : L2.St} {H : Hp} {s : Shared}
theorem Lam1.has {scope : Scope} {x : Str} (L : Lam1 X.env.scope scope x) (ok : X.Ok) : ∀ y ∈ scope.names, y.2 = .free → ∃ c, X.env.cells.lookup y.1 = some c := fun y hy e =>
  (L.free y hy e).elim (fun k => ok.has _ (.inl k)) fun k => ok.has _ (.inr k)
/-- the lambda's body is entered -/
theorem lam1_start {A : Around} {E : XK} {scope : Scope} {x : Str} {i : Nat} {f c' : Addr} {g : Heap} {tk : Nat} {u : Value} {v : V} (I : Inv X pins σ H s) (L : Lam1 X.env.scope scope x) (hfr : A.frames = some X.stack) (hd : A.handled = none)
    (hns : g.Ns s.heap.objs.size fun y => ([(x, u)] : List (Str × Value)).reverse.lookup y) (kp : ∀ b o, s.heap.get? b = some o → g.get? b = some o) (hN : X.N.Nodup) (hi : X.N[i]? = some x) (r : RelV v u) :
    Inv (lamCx X A X.stack s H E scope f c') [] (σ.set i (some v)) H { s with heap := g, toks := tk } := by
  have e0 := I.env0
  have hfree := L.has I.ok
  have cm : ∀ {y c}, (cloFrom X.env.cells scope.names []).lookup y = some c → X.env.cells.lookup y = some c := fun {y c} e => by
    rcases cloFrom_mem (PySem.mem_of_lookup e) with hm | ⟨h1, h2⟩
    · cases hm
    · obtain ⟨d, hc⟩ := hfree _ h1 rfl
      have hc : X.env.cells.lookup y = some d := hc
      have : c = d := by rw [h2, hc] <;> rfl
      rw [this]; exact hc
  have look : ∀ {y}, scope.names.lookup y = some .free → ∃ c, (cloFrom X.env.cells scope.names []).lookup y = some c := fun {y} hl =>
    mem_lookup (cloFrom_has (cells := X.env.cells) (acc := []) (show (y, NameKind.free) ∈ scope.names from PySem.mem_of_lookup hl))
  have cellK : ∀ {c : Addr} {w : Option Value}, s.heap.IsCell c w → g.IsCell c w := fun {c w} ⟨o, ho, hd⟩ => ⟨o, kp _ _ ho, hd⟩
  have noA : ∀ b : Addr, b ∉ (lamCx X A X.stack s H E scope f c').ex := fun b z => absurd (show b ∈ ([] : List Addr) from z) (by simp)
  refine { ok := { mod := e0.mod, kind := L.kind, glob := rfl, blt := rfl, above := Nat.le_refl _, inj := fun y z c p q => I.ok.inj y z c (cm p) (cm q), has := fun y hy => ?_, cab := fun y c z _ => ?_, hd := fun _ => hd, frames := Around.frames_deeper hfr, stk := .inr ⟨rfl, rfl⟩, exf := fun b z => absurd z (noA b), bs := e0.bs, bsz := e0.bsz, noex := fun b _ _ => noA b, exfs := fun b z => absurd z (noA b), funs := e0.funs, frf := e0.frf }
           os := rfl, bare := e0.bare, base := Un.kept kp, loc := ⟨_, hns, fun j y w p q z => ?_⟩, cell := fun y c e => ?_, free := e0.hok.fresh (Nat.le_refl _), freeC := fun y c e => I.freeC y c (cm e)
           pin := fun q hq => absurd (show q ∈ ([] : List (Addr × Obj)) ++ [] from hq) (by simp), hok := e0.hok.kept kp, len := by rw [List.length_set]; exact I.len }
  · have hy : scope.names.lookup y = some .cell ∨ scope.names.lookup y = some .free := hy
    rcases hy with hy | hy
    · exact absurd rfl (L.own _ (PySem.mem_of_lookup hy)).2
    · exact look hy
  · have z : false = true := z
    cases z
  · have z : Vis scope y := z
    have p : X.N[j]? = some y := p
    rcases z with k | k | k
    · have hyx : y = x := (L.own _ (PySem.mem_of_lookup k)).1 rfl
      subst hyx
      have hji : j = i := (List.getElem?_inj (List.getElem?_eq_some_iff.mp p).1 hN).mp (p.trans hi.symm)
      subst hji
      have hlt : j < σ.length := by
        rw [I.len]
        exact (List.getElem?_eq_some_iff.mp p).1
      rw [List.getElem?_set_self hlt] at q
      cases q
      exact ⟨u, r, .inl ⟨k, by simp⟩⟩
    · exact absurd rfl (L.own _ (PySem.mem_of_lookup k)).2
    · have hyx : y ≠ x := by
        rintro rfl
        rw [L.par] at k; cases k
      have hij : i ≠ j := by
        rintro rfl
        rw [hi] at p
        exact hyx (Option.some.inj p).symm
      rw [List.getElem?_set_ne hij] at q
      obtain ⟨m, hn, hl⟩ := I.loc
      have hvis : Vis X.env.scope y := (L.free _ (PySem.mem_of_lookup k) rfl).elim (fun k => .inr (.inl k)) fun k => .inr (.inr k)
      obtain ⟨w', r', q'⟩ := hl j y w p q hvis
      obtain ⟨c2, h2⟩ := look k
      refine ⟨w', r', .inr ⟨.inr k, c2, h2, ?_⟩⟩
      have c1 := cm h2
      rcases q' with ⟨k', _⟩ | ⟨_, c3, e', z⟩
      · have k' : X.env.scope.names.lookup y = some .local := k'
        rcases L.free _ (PySem.mem_of_lookup k) rfl with k2 | k2 <;> rw [show X.env.scope.names.lookup y = _ from k2] at k' <;> cases k'
      · rw [c1] at e'
        cases e'
        exact cellK z
  · obtain ⟨w', z⟩ := I.cell y c (cm e)
    exact ⟨w', cellK z⟩
/-- the lambda at f, called with u -/
theorem lam1_call {A : Around} {scope : Scope} {x : Str} {i : Nat} {f c' : Addr} {params : Arguments} {body : Expr} {pm ctv : Value} {u : Value} {v : V} {tb : TE} {k : Nat} {Q : VK}
    (I : Inv X pins σ H s) (L : Lam1 X.env.scope scope x) (hf : s.heap.get? f = some (PySem.W.kla_obj "<lambda>" (X.env.qual ++ "<lambda>") params body scope (cloFrom X.env.cells scope.names []) pm c' ctv)) (hco : H c' = some (CodeO c' (X.env.qual ++ "<lambda>")))
    (hbind : bindArgs (PySem.W.kla_fn "<lambda>" (X.env.qual ++ "<lambda>") params body scope (cloFrom X.env.cells scope.names []) pm (.ref c') ctv) ⟨[u], []⟩ = pure [(x, u)])
    (hfr : A.frames = some X.stack) (hr : Room (k + 1) A) (hN : X.N.Nodup) (hi : X.N[i]? = some x) (r : RelV v u)
    (hbody : PE (lamCx X A X.stack s H C8.E0 scope f c') body tb) (h : tb (σ.set i (some v)) H Q) :
    wpAny (model X.prog X.w) A (call (.ref f) [u]) (EP X pins σ Q) (fun _ _ => False) s := by
  obtain ⟨⟨oc, vs, t, hoc, hdc, hvc⟩, _, _⟩ := I.hok c' _ hco
  have rc : codeAny (model X.prog X.w) A (.call (.ref f) ⟨[u], []⟩) (CR (L2.CX X.prog X.w) X.stack X.prog X.w H s Q C8.E0) s := by
    refine PySem.W.kla_callFunE hr.depth hf rfl L.co L.gen rfl ⟨c', oc, vs, t, rfl, hoc, hdc, hvc⟩ ?_
    rw [hbind]
    refine wpAny_pure (wpAny_newFunctionEnv (fun y hy => (L.own y hy).2) (fun y hy => ?_) (fun g hns hsb => ⟨I.nolimit.fresh _ hsb, ?_⟩) L.kind)
    · rw [List.mem_singleton.mp hy]; exact L.par
    show codeAny _ _ (.expr body (lamEnv X scope s.heap.objs.size f c')) _ _
    have kp : ∀ b o, s.heap.get? b = some o → g.get? b = some o := fun b o e => hsb.extBut b o (Nat.ne_of_lt (Heap.lt_size e)) (Heap.get?_push_of_some _ e)
    have J := lam1_start (E := C8.E0) (f := f) (c' := c') (tk := s.toks + ([(x, u)] : List (Str × Value)).length) I L hfr hr.hd hns kp hN hi r
    refine PySem.W.kla_codeExpr (wpAny_mono (hbody.run [] _ _ H Q J h) (fun w s' hq => ?_) fun e s' hq => hq)
    obtain ⟨w', H', J', rv, q⟩ := hq
    exact ⟨w', H', J'.os, J'.bare, J'.base, J'.hok, rv, q⟩
  refine wpAny_call (codeAny_mono rc fun res s' hq => ?_)
  cases res with
  | error e =>
    obtain ⟨_, _, _, _, _, _, _, _, _, z⟩ := hq
    exact (show False from z.2.2.2).elim
  | ok fl =>
    cases fl with
    | ret w => exact I.after hq
    | next => exact False.elim hq
    | brk => exact False.elim hq
    | cont => exact False.elim hq
end
end Mn

set_option maxRecDepth 100000
set_option maxHeartbeats 1000000
/-! Mn: sorted by keys, the calls under an invariant. -/
namespace Mn
open PySem PySem.Spec PyProof.Rows L2
open PySem.W (dataLe sortVals dataKind KeepsBut keyH_end SortsAt EachIs)
/-- the items, stably by their keys -/
noncomputable def byKeys {α : Type} (xs : List α) (ks : List Int) : List α := ((xs.zip ks).mergeSort (dataLe false fun p => PyData.int p.2)).map (·.1)
/-- the heap without the object at k -/
def without (h : Heap) (k : Addr) : Heap := { h with objs := h.objs.setIfInBounds k ⟨.none, none, .freed, #[]⟩ }
theorem without_none {h : Heap} {k : Addr} : (without h k).get? k = none := by
  unfold without Heap.get?
  simp only [Array.getElem?_setIfInBounds]
  by_cases hk : k < h.objs.size
  · simp [hk]
  · simp [hk]
theorem without_ne {h : Heap} {k b : Addr} (hb : b ≠ k) : (without h k).get? b = h.get? b := by
  unfold without Heap.get?
  simp only [Array.getElem?_setIfInBounds, if_neg (Ne.symm hb)]
theorem eachInts {h : Heap} : ∀ {vs : List Value} {ks : List Int}, IntsAre vs ks → EachIs (fun v k => ∃ as, Reads h v k as) vs (ks.map PyData.int)
  | _, _, .nil => .nil
  | _, _, .cons n t r => .cons ⟨_, Reads.int n t⟩ (eachInts r)
theorem IntsAre.snoc : ∀ {vs : List Value} {ks : List Int} {n : Int} {t : Tok}, IntsAre vs ks → IntsAre (vs ++ [.int n t]) (ks ++ [n])
  | _, _, n, t, .nil => .cons n t .nil
  | _, _, n, t, .cons m u r => .cons m u (IntsAre.snoc r)
theorem keys_alike (ks : List Int) : PySem.W.AllAlike (ks.map PyData.int) := by
  intro d hd e he
  obtain ⟨i, _, rfl⟩ := List.mem_map.mp hd
  obtain ⟨j, _, rfl⟩ := List.mem_map.mp he
  rw [PySem.W.alike]
section
variable {X : Cx} {pins : List (Addr × Obj)} {σ : L2.St} {H : Hp} {s : Shared}
theorem cell_ne {h : Heap} {c k : Addr} {v : Option Value} {o : Obj} (hc : h.IsCell c v) (hk : h.get? k = some o) (ho : ∀ v, o.data ≠ .cell v) : c ≠ k := by
  rintro rfl
  obtain ⟨p, hp, hd⟩ := hc
  rw [hk] at hp; cases hp
  exact ho _ hd
theorem vals_each {α : Type} : ∀ {L : List (V × α)} {us : List Value}, EachIs (fun u (p : V × α) => RelV p.1 u) us L → Vals (L.map (·.1)) us
  | _, _, .nil => .nil
  | _, _, .cons h r => .cons h (vals_each r)
theorem each_vals : ∀ {xs : List V} {vs : List Value} {ks : List Int}, Vals xs vs → xs.length = ks.length → EachIs (fun u (p : V × Int) => RelV p.1 u) vs (xs.zip ks)
  | [], _, [], .nil, _ => .nil
  | x :: xs, _, n :: ks, .cons h r, e => .cons h (each_vals r (by simpa using e))
  | [], _, _ :: _, _, e => by simp at e
  | _ :: _, _, [], _, e => by simp at e
theorem sorted_vals {h : Heap} {xs : List V} {vs us : List Value} {ks : List Int} (rv : Vals xs vs) (hl : xs.length = ks.length) (hk : EachIs (fun v k => ∃ as, Reads h v k as) us (ks.map PyData.int)) :
    Vals (byKeys xs ks) (sortVals (dataKind h (ks.map PyData.int)) false us vs) := by
  have e : (xs.zip ks).map (fun p => PyData.int p.2) = ks.map PyData.int := by
    rw [show (fun p : V × Int => PyData.int p.2) = PyData.int ∘ Prod.snd from rfl, ← List.map_map, List.map_snd_zip (by omega)]
  have := PySem.W.keyedOut_each (rev := false) (bs := xs.zip ks) (vs := vs) (out := sortVals (dataKind h (ks.map PyData.int)) false us vs) (R := fun u (p : V × Int) => RelV p.1 u) (fun p => PyData.int p.2) (by
    rw [e]
    exact ⟨h, us, keys_alike ks, rfl, hk⟩) (each_vals rv hl)
  exact vals_each this
theorem keyed_core {f : Addr} {xs : List V} {vs : List Value} {R : List Int → Hp → Prop} {Q : VK} {k : Nat} {P : PySem.Fin → Shared → Prop} {E' : Value → Shared → Prop} (I : Inv X pins σ H s) (rv : Vals xs vs) (hz : xs.length ≤ sizeLine) (hr : Room k X.A)
    (turn : ∀ (pn : List (Addr × Obj)) (s1 : Shared) (H1 : Hp) (ks : List Int) (x : V) (u : Value), (∀ p ∈ pins, p ∈ pn) → Inv X pn σ H1 s1 → xs[ks.length]? = some x → RelV x u → R ks H1 →
      wpAny (model X.prog X.w) X.A.in1.in1 (call (.ref f) [u]) (EP X pn σ fun v H2 => ∃ n, v = .int n ∧ R (ks ++ [n]) H2) (fun _ _ => False) s1)
    (start : R [] H) (fin : ∀ ks H1 p, ks.length = xs.length → R ks H1 → H1 p = none → Q (.ref p) (upd H1 p (.lst (byKeys xs ks))))
    (hP : ∀ s', EP X pins σ Q (.ref s.heap.objs.size) s' → P (.done (.ret .none)) s') :
    wpAny (model X.prog X.w) X.A.in1.in1 (ksk_tree s.heap.objs.size (.ref f) false) P E' { s with heap := s.heap.push (seqObj "list" vs.toArray 0) } := by
  have hlen := rv.length
  have hz2 : vs.length ≤ sizeLine := by rw [← hlen]; exact hz
  have hA : (s.heap.push (seqObj "list" vs.toArray 0)).get? s.heap.objs.size = some (seqObj "list" vs.toArray 0) := Heap.get?_push_size _ rfl
  generalize ha : s.heap.objs.size = a at *
  have hu := get?_update_seq hA fun _ => (#[] : Array Value)
  generalize hE1 : (if ((fun _ => (#[] : Array Value)) vs.toArray).size == vs.toArray.size then (0 : Nat) else 0 + 1) = e1 at hu
  unfold ksk_tree
  refine wpAny_bind (listItems_at hA rfl ?_)
  refine wpAny_bind (listUpdate_at hA rfl ?_ (by simpa using hz2) (Nat.zero_le _))
  refine wpAny_bind (seqEpoch_at hu rfl ?_)
  refine wpAny_bind (wpAny_newTuple ?_ (by simpa using hz2))
  refine wpAny_bind (wpAny_newList ?_ (Nat.zero_le _))
  refine wpAny_holding ?_
  generalize hg0 : (s.heap.push (seqObj "list" vs.toArray 0)).update a (Obj.mapSeq fun _ => (#[] : Array Value)) = g0 at hu
  have old0 : ∀ b o, s.heap.get? b = some o → g0.get? b = some o := fun b o e => by
    rw [← hg0, Heap.get?_update_ne _ _ _ _ (Nat.ne_of_lt (by rw [← ha]; exact Heap.lt_size e))]
    exact Heap.get?_push_of_some _ e
  have sz0 : a < g0.objs.size := Heap.lt_size hu
  show wpAny _ _ (ksk_rest a (.ref f) false vs.toArray e1 (.ref (g0.push (seqObj "tuple" vs.toArray.toList.toArray 0)).objs.size)) _ _ { s with heap := (g0.push (seqObj "tuple" vs.toArray.toList.toArray 0)).push (seqObj "list" #[] 0) }
  generalize hg1 : g0.push (seqObj "tuple" vs.toArray.toList.toArray 0) = g1
  have old1 : ∀ b o, g0.get? b = some o → g1.get? b = some o := fun b o e => by rw [← hg1]; exact Heap.get?_push_of_some _ e
  have sz1 : a < g1.objs.size := by rw [← hg1, size_push']; exact Nat.lt_succ_of_lt sz0
  generalize hk : g1.objs.size = kS at *
  have atK : (g1.push (seqObj "list" #[] 0)).get? kS = some (seqObj "list" #[] 0) := by rw [← hk]; exact Heap.get?_push_size _ rfl
  have atA : (g1.push (seqObj "list" #[] 0)).get? a = some (seqObj "list" #[] e1) := Heap.get?_push_of_some _ (old1 _ _ hu)
  have aK : a ≠ kS := Nat.ne_of_lt sz1
  have sK : s.heap.objs.size ≤ kS := by rw [ha]; exact Nat.le_of_lt sz1
  have sA : s.heap.objs.size ≤ a := Nat.le_of_eq ha
  have I0 : Inv X pins σ H { s with heap := g1.push (seqObj "list" #[] 0) } := I.kept (t' := s.toks) fun b o e => Heap.get?_push_of_some _ (old1 _ _ (old0 _ _ e))
  have fr : ∀ {b : Addr}, s.heap.objs.size ≤ b → H b = none ∧ b ≠ X.env.locals ∧ b ∉ X.fs := fun {b} hb => ⟨I.hok.fresh hb, fun e => absurd I.lt (by rw [← e]; exact Nat.not_lt_of_le hb), I.nofs hb⟩
  have pinOld : ∀ p ∈ X.pn ++ pins, p.1 < s.heap.objs.size := fun p hpn => Heap.lt_size (I.pin p hpn).1
  have I1 : Inv X ((kS, seqObj "list" #[] 0) :: (a, seqObj "list" #[] e1) :: pins) σ H { s with heap := g1.push (seqObj "list" #[] 0) } := I0.pins_of fun p hp => by
    rcases List.mem_cons.mp hp with rfl | hp
    · exact ⟨atK, (fr sK).1, (fr sK).2.1, (fr sK).2.2, fun v z => nomatch z⟩
    · rcases List.mem_cons.mp hp with rfl | hp
      · exact ⟨atA, (fr sA).1, (fr sA).2.1, (fr sA).2.2, fun v z => nomatch z⟩
      · exact I0.pin p (List.mem_append_right _ hp)
  unfold ksk_rest
  refine wpAny_bind (wpAny_rule ?_)
  rw [List.forIn_toArray]
  refine wpAny_bind (ksk_fold (fun i s' => ∃ H1 kA ep ks, Inv X ((kS, seqObj "list" kA ep) :: (a, seqObj "list" #[] e1) :: pins) σ H1 s' ∧ IntsAre kA.toList ks ∧ ks.length = i ∧ R ks H1) vs 0 _ ⟨H, #[], 0, [], I1, .nil, rfl, start⟩ ?step ?done)
  case step =>
    rintro j u s' hj ⟨H1, kA, ep, ks, J, hks, hkl, hR⟩
    have hkl : ks.length = j := by omega
    have hjl : j < vs.length := (List.getElem?_eq_some_iff.mp hj).1
    obtain ⟨x, hx, rx⟩ : ∃ x, xs[j]? = some x ∧ RelV x u := by
      have hx : xs[j]? = some (xs[j]'(by omega)) := List.getElem?_eq_getElem _
      obtain ⟨u', e1, e2⟩ := rv.get hx
      rw [hj] at e1; cases e1
      exact ⟨_, hx, e2⟩
    have hka : kA.size = j := by
      have := hks.length
      rw [Array.length_toList] at this
      omega
    refine wpAny_bind (wpAny_attempt (wpAny_mono (turn _ s' H1 ks x u (fun p hp => List.mem_cons_of_mem _ (List.mem_cons_of_mem _ hp)) J (by rw [hkl]; exact hx) rx hR) (fun w s2 hw => ?_) fun _ _ z => z.elim))
    obtain ⟨v, H2, J2, rw2, n, rfl, hR2⟩ := hw
    obtain ⟨tk, rfl⟩ := rw2
    have nk := (J2.pin (kS, seqObj "list" kA ep) (List.mem_append_right _ List.mem_cons_self)).1
    have nkH := (J2.pin (kS, seqObj "list" kA ep) (List.mem_append_right _ List.mem_cons_self)).2.1
    have hup := get?_update_seq nk fun z => z.push (Value.int n tk)
    generalize (if ((fun z => z.push (Value.int n tk)) kA : Array Value).size == kA.size then ep else ep + 1) = ep2 at hup
    dsimp only
    refine wpAny_bind (listUpdate_at nk rfl ?_ (by rw [hka]; omega) (by rw [Array.size_push, hka]; omega))
    have J3 : Inv X ((a, seqObj "list" #[] e1) :: pins) σ H2 s2 := J2.pins_of fun p hp => J2.pin p (List.mem_append_right _ (List.mem_cons_of_mem _ hp))
    have J4 := J3.turned (it := kS) (h' := s2.heap.update kS (Obj.mapSeq fun z => z.push (Value.int n tk))) (t' := s2.toks) (fun b o hb e => by rw [Heap.get?_update_ne _ _ _ _ hb]; exact e) nkH (fr sK).2.1 (.inr (Nat.le_trans I.sz sK)) (fun y c hc => by
        obtain ⟨w, hw⟩ := J2.cell y c hc
        exact cell_ne hw nk fun v z => nomatch z) (fun p hp => by
        rcases List.mem_append.mp hp with hp | hp
        · exact Nat.ne_of_lt (Nat.lt_of_lt_of_le (pinOld p (List.mem_append_left _ hp)) sK)
        · rcases List.mem_cons.mp hp with rfl | hp
          · exact aK
          · exact Nat.ne_of_lt (Nat.lt_of_lt_of_le (pinOld p (List.mem_append_right _ hp)) sK))
    refine wpAny_pure ⟨rfl, H2, kA.push (.int n tk), ep2, ks ++ [n], J4.pins_of fun p hp => ?_, by rw [Array.toList_push]; exact IntsAre.snoc hks, by rw [List.length_append, hkl]; simp, hR2⟩
    rcases List.mem_cons.mp hp with rfl | hp
    · exact ⟨hup, nkH, (fr sK).2.1, (fr sK).2.2, fun v z => nomatch z⟩
    · exact J4.pin p (List.mem_append_right _ hp)
  case done =>
    rintro s' ⟨H1, kA, ep, ks, J, hks, hkl, hR⟩
    have hkl : ks.length = vs.length := by omega
    have pk := J.pin (kS, seqObj "list" kA ep) (List.mem_append_right _ List.mem_cons_self)
    have pa := J.pin (a, seqObj "list" #[] e1) (List.mem_append_right _ (List.mem_cons_of_mem _ List.mem_cons_self))
    have hka : kA.size = vs.length := by
      have := hks.length
      rw [Array.length_toList] at this
      omega
    refine wpAny_bind (listItems_at pk.1 rfl ?_)
    have un : X.A.in1.in1.units = X.A.units + 2 := rfl
    refine keyH_end (κ := dataKind s'.heap (ks.map PyData.int)) (h₁ := without s'.heap kS) (fun b o hb e => ?_) without_none pk.1 pa.1 aK.symm (SortsAt.data (s := s') (eachInts hks) (keys_alike ks) (.inr fun d hd => ?_) fun d hd => ?_) hka hz2 fun h' tk c kp hD => ?_
    · by_cases hbk : b = kS
      · rw [hbk, without_none] at e; cases e
      · rw [without_ne hbk] at e; exact e
    · obtain ⟨i, _, rfl⟩ := List.mem_map.mp hd
      exact ⟨(fun z => nomatch z), fun _ z => nomatch z⟩
    · obtain ⟨i, _, rfl⟩ := List.mem_map.mp hd
      rw [PyData.depth, un]
      have := hr.un
      omega
    · have keepB : ∀ b o, b ≠ a → b ≠ kS → s'.heap.get? b = some o → h'.get? b = some o := fun b o h1 h2 e => kp b o h1 (by rw [without_ne h2]; exact e)
      have hall : ∀ b, b ∈ [kS, a] → s.heap.objs.size ≤ b ∧ H1 b = none ∧ (∃ o, s'.heap.get? b = some o ∧ ∀ v, o.data ≠ .cell v) := fun b hb => by
        rcases List.mem_cons.mp hb with rfl | hb
        · exact ⟨sK, pk.2.1, _, pk.1, fun v z => nomatch z⟩
        · rw [List.mem_singleton.mp hb]; exact ⟨sA, pa.2.1, _, pa.1, fun v z => nomatch z⟩
      have lN : X.env.locals ≠ a ∧ X.env.locals ≠ kS := ⟨Ne.symm (fr sA).2.1, Ne.symm (fr sK).2.1⟩
      have hout : (byKeys xs ks).length ≤ sizeLine := by
        unfold byKeys
        rw [List.length_map, (List.mergeSort_perm _ _).length_eq, List.length_zip]
        omega
      have srt : Vals (byKeys xs ks) (sortVals (dataKind s'.heap (ks.map PyData.int)) false kA.toList vs) := sorted_vals rv (by omega) (eachInts hks)
      have J0 : Inv X pins σ H1 s' := J.pins_of fun p hp => J.pin p (List.mem_append_right _ (List.mem_cons_of_mem _ (List.mem_cons_of_mem _ hp)))
      refine hP _ ⟨.ref a, upd H1 a (.lst (byKeys xs ks)), ?_, rfl, fin ks H1 a (by omega) hR pa.2.1⟩
      refine J0.step (g' := s'.gens) (d' := s'.drawn) (t' := tk) (ch := [kS, a]) (fun b hb => ?_) (fun b o h1 h2 h3 e _ => keepB b o (fun z => h3 (by rw [z]; simp)) (fun z => h3 (by rw [z]; simp)) e) (fun b o h1 h2 h3 e _ => ⟨o.slots, keepB b o (fun z => h3 (by rw [z]; simp)) (fun z => h3 (by rw [z]; simp)) e⟩)
        (fun b o h3 e n => by rw [upd_ne (fun z => h3 (by rw [z]; simp))]; exact n) (fun b o h3 e => ⟨o, keepB b o (fun z => h3 (by rw [z]; simp)) (fun z => h3 (by rw [z]; simp)) e⟩) (fun b xs e => by rw [upd_ne (ne_of_none e pa.2.1)]; exact e) (fun b o u e => by rw [upd_ne (ne_of_none e pa.2.1)]; exact e) (fun b ps e => ⟨#[], by rw [upd_ne (ne_of_none e pa.2.1)]; simpa using e⟩) (fun m ⟨o, es, ep, e, r⟩ => ⟨o, es, ep, keepB _ o lN.1 lN.2 e, r⟩) (fun b u e => ?_) J0.bare
      · obtain ⟨h1, _, o, h3, h4⟩ := hall b hb
        exact ⟨.inr (Nat.le_trans I.sz h1), (fr h1).2.1, fun y c hc => by
          obtain ⟨w, hw⟩ := J0.cell y c hc
          exact cell_ne hw h3 h4, fun p hp => Nat.ne_of_lt (Nat.lt_of_lt_of_le (pinOld p hp) h1)⟩
      · by_cases hba : b = a
        · rw [hba, upd_same] at e
          cases e
          rw [hba]
          exact ⟨hout, _, _, srt, hD⟩
        · rw [upd_ne hba] at e
          refine (J0.hok b u e).stay (fun d o hd q => keepB d o ?_ ?_ q) (fun d q => by rw [upd_ne (ne_of_none q pa.2.1)]; exact q) fun d ys q => by rw [upd_ne (ne_of_none q pa.2.1)]; exact q
          · rcases hd with z | z
            · rw [z]; exact hba
            · exact ne_of_none z pa.2.1
          · rcases hd with z | z
            · rw [z]; exact ne_of_none e pk.2.1
            · exact ne_of_none z pk.2.1
theorem keyed_run {l f : Addr} {xs : List V} {R : List Int → Hp → Prop} {Q : VK} {k : Nat} (I : Inv X pins σ H s) (hl : SqT X.K H l xs ∨ SqL X.K H l xs) (hr : Room k X.A)
    (turn : ∀ (pn : List (Addr × Obj)) (s1 : Shared) (H1 : Hp) (ks : List Int) (x : V) (u : Value), (∀ p ∈ pins, p ∈ pn) → Inv X pn σ H1 s1 → xs[ks.length]? = some x → RelV x u → R ks H1 →
      wpAny (model X.prog X.w) X.A.in1.in1 (call (.ref f) [u]) (EP X pn σ fun v H2 => ∃ n, v = .int n ∧ R (ks ++ [n]) H2) (fun _ _ => False) s1)
    (start : R [] H) (fin : ∀ ks H1 p, ks.length = xs.length → R ks H1 → H1 p = none → Q (.ref p) (upd H1 p (.lst (byKeys xs ks)))) :
    wpAny (model X.prog X.w) X.A (call (.builtin "sorted") [.ref l] [(Str.ofString "key", .ref f)]) (EP X pins σ Q) X.xe s := by
  have it : ∃ (T : String) (o : Obj) (vs : List Value) (n : Nat), (T = "list" ∨ T = "tuple") ∧ s.heap.get? l = some o ∧ o.cls = .type T ∧ o.data = .seq vs.toArray n ∧ Vals xs vs ∧ xs.length ≤ sizeLine := by
    rcases hl with hq | hq
    · obtain ⟨vs, rv, ⟨o, ho, hc, n, hdt⟩, hz⟩ := I.tuple hq
      exact ⟨"tuple", o, vs, n, .inr rfl, ho, hc, hdt, rv, hz⟩
    · obtain ⟨vs, rv, pl, hz⟩ := I.list hq
      obtain ⟨o, ho, hc, n, hdt⟩ := pl.isList
      exact ⟨"list", o, vs, n, .inl rfl, ho, hc, hdt, rv, hz⟩
  obtain ⟨T, o, vs, n, hT, ho, hc, hdt, rv, hz⟩ := it
  have hlen := rv.length
  refine call_function_entry_kw kind_sorted plain_sorted entry_sorted (ksk_s1 _ _) ?_
  unfold Builtin.«sorted»
  refine wpAny_bind (m := checkCount "sorted" 1 1 _) (wpAny_pure ?_)
  refine wpAny_bind (wpAny_collect_seq l hT ho hc hdt (fun h' k1 => ?_) (by rw [List.size_toArray]; omega))
  refine wpAny_bind (wpAny_newList ?_ (by simp only [List.toList_toArray]; omega))
  have e0 : (vs.toArray).toList = vs := by simp
  rw [e0]
  have hoL : (h'.push (seqObj "list" vs.toArray 0)).get? h'.objs.size = some (seqObj "list" vs.toArray 0) := Heap.get?_push_size _ rfl
  have I1 : Inv X pins σ H { s with heap := h' } := I.kept (t' := s.toks) k1
  refine wpAny_bind (wpAny_holding (wpAny_call_entry_kw slot_list_sort ⟨_, hoL, rfl⟩ entry_list_sort ?_ (ksk_l1 _ _)))
  rw [ksk_t1]
  exact keyed_core (s := { s with heap := h' }) I1 rv hz hr turn start fin fun s' hs => ⟨_, rfl, wpAny_pure ⟨_, rfl, hs⟩⟩
end
end Mn

set_option maxRecDepth 100000
set_option maxHeartbeats 1000000
/-! Mn: sorted(xs, key=lambda x: ..), on values. -/
namespace Mn
open PySem PySem.Spec PyProof.Rows L2 LamX
section
variable {X : Cx}
def tLS (K : PySem.W.Frag) (P : Addr) (q : Str) (i : Nat) (ta : TA) (tb : TE) : TE := fun σ H Q => ta σ H fun vs H1 => ∃ (l : Addr) (xs : List V) (T : List (Addr × Str)), vs = [.ref l] ∧ (SqT K H1 l xs ∨ SqL K H1 l xs) ∧ (P, q) ∈ T ∧ (∀ p ∈ T, p.1 = P → p.2 = q) ∧ Tabs T H1 ∧
  ∃ R : Addr → List Int → Hp → Prop, (∀ c' H2, ExtN H1 H2 → Tabs T H2 → H2 c' = some (CodeO c' q) → R c' [] H2 ∧ (SqT K H2 l xs ∨ SqL K H2 l xs)) ∧ (∀ c' ks H2, R c' ks H2 → H2 c' = some (CodeO c' q)) ∧
    (∀ c' ks x H2, xs[ks.length]? = some x → R c' ks H2 → tb (σ.set i (some x)) H2 fun v H3 => ∃ n, v = .int n ∧ R c' (ks ++ [n]) H3) ∧
    ∀ c' ks H2 p, ks.length = xs.length → R c' ks H2 → H2 p = none → Q (.ref p) (upd H2 p (.lst (byKeys xs ks)))
theorem pe_lamsort {x : Str} {i k : Nat} {e : Expr} {ta : TA} {c P : Addr} {q : Str} {params : Arguments} {body : Expr} {scope : Scope} {p lpos kpos pos : Pos} {tb : TE} (hm : X.mg "sorted" = none) (ha : PA X [e] ta)
    (TB : TabB X.base X.mg c P) (hcode : X.env.code = .ref c) (hq : X.env.qual ++ "<lambda>" = q) (hr : Room (k + 4) X.A) (L : Lam1 X.env.scope scope x) (hdef : defaultsOf params X.env = ([], []))
    (hbind : ∀ (q : Str) (cl : List (Str × Addr)) (pm cv ctv u : Value), bindArgs (PySem.W.kla_fn "<lambda>" q params body scope cl pm cv ctv) ⟨[u], []⟩ = pure [(x, u)]) (hN : X.N.Nodup) (hi : X.N[i]? = some x)
    (hbody : ∀ (s : Shared) (H : Hp) (f c' : Addr), Room k (X.A.in1.in1.deeper (lamEnv X scope s.heap.objs.size f c')) → PE (lamCx X X.A.in1.in1 X.stack s H C8.E0 scope f c') body tb)
    (hg : Gl X "sorted" := by rfl) (he : backTo pos (starEach [e] X.env) = (false, eval e X.env) :: backTo pos (starEach [] X.env) := by rfl) (hpl : (backTo pos (starEach [e] X.env)).any (·.1) = false := by rfl) :
    PE X (.Call (.Name "sorted" p) [e] [⟨some "key", .Lambda params body scope lpos, kpos⟩] pos) (tLS X.K P q i ta tb) := by
  refine ⟨fun pins s σ H Q I h => ?_⟩
  refine wpAny_Call_Name_kw (ld_blt (x := "sorted") I hg hm (show bootBuiltins "sorted" = some (.builtin "sorted") by decide +kernel) ?_ (by decide) (by decide))
  refine PyProof.Rows.callWith_kw (thn (ha.run pos pins s σ H _ I h) fun us s1 ⟨vs, H1, I1, r1, q1⟩ => ?_) he hpl (by rfl) (by rfl)
  obtain ⟨l, xs, T, rfl, hsq, hmT, hu, hT, R, hstart, hcod, hturn, hfin⟩ := q1
  obtain rfl := Vals.ref1 r1
  subst hq
  show wpAny _ _ (evalAll [do let v ← eval (.Lambda params body scope lpos) X.env; standAt pos; pure v]) _ _ s1
  refine wpAny_evalAll_cons (wpAny_bind (lam_make2 I1 TB hcode hmT hu hT hdef (L.has I1.ok) fun f c' pm ctv H2 s2 I2 eN T2 hf hfn hfr hco => wpAny_bind (wpAny_standAt (wpAny_pure (wpAny_evalAll_nil ?_)))))
  obtain ⟨hR0, hsq2⟩ := hstart c' H2 eN T2 hco
  have fl : f ≠ X.env.locals := by
    rintro rfl
    obtain ⟨m, ⟨o, es, ep, ho, hd, _⟩, _⟩ := I2.loc
    rw [hf] at ho; cases ho
    cases hd
  have ffs : f ∉ X.fs := fun z => hfr (by
    rcases I2.ok.stk with e | ⟨e, _⟩
    · rw [e]; exact z
    · rw [e]
      have z : f ∈ frs X.outer := z
      unfold frs at z ⊢
      rw [List.filterMap_cons]
      split
      · exact z
      · exact List.mem_cons_of_mem _ z)
  have I3 := I2.pins_of (pins' := (f, PySem.W.kla_obj "<lambda>" (X.env.qual ++ "<lambda>") params body scope (cloFrom X.env.cells scope.names []) pm c' ctv) :: pins) fun p hp => by
    rcases List.mem_cons.mp hp with rfl | hp
    · exact ⟨hf, hfn, fl, ffs, fun v z => nomatch z⟩
    · exact I2.pin p (List.mem_append_right _ hp)
  have hrr : Room (k + 1) X.A.in1.in1 := (hr.mono (show k + 3 ≤ k + 4 by omega)).in1.in1
  refine wpAny_mono (keyed_run (R := R c') (Q := Q) I3 hsq2 hr (fun pn s3 H3 ks y u hsub J hx ry hR => ?_) hR0 (fun ks H3 p hl hR hp => hfin c' ks H3 p hl hR hp)) (fun u s' hs => ?_) fun _ _ z => z
  · have hpf := J.pin _ (List.mem_append_right _ (hsub _ List.mem_cons_self))
    exact lam1_call J L hpf.1 (hcod c' ks H3 hR) (hbind _ _ _ _ _ _) (I.ok.frames) hrr hN hi ry (hbody _ _ _ _ (hrr.deeper _)) (hturn c' ks y H3 hx hR)
  · obtain ⟨v, H', J, rv, z⟩ := hs
    exact ⟨v, H', J.pins_of fun p hp => J.pin p (List.mem_append_right _ (List.mem_cons_of_mem _ hp)), rv, z⟩
end
end Mn

set_option maxRecDepth 100000
set_option maxHeartbeats 1000000
/-! Mn: sorted(xs, key=lambda x: ..), on data. -/
namespace Mn
open PySem PySem.Spec PyProof.Rows L2 LamX
/-- the tables of code objects in a store -/
def tabsOf (S : Sto) : List (Addr × Str) := (List.range S.nx).filterMap fun n => match S.ob n with
  | some (.tab P q) => some (P, q)
  | _ => none
theorem mem_tabs {S : Sto} {p : Addr × Str} : p ∈ tabsOf S ↔ ∃ n, n < S.nx ∧ S.ob n = some (.tab p.1 p.2) := by
  unfold tabsOf
  rw [List.mem_filterMap]
  constructor
  · rintro ⟨n, hn, e⟩
    refine ⟨n, List.mem_range.mp hn, ?_⟩
    split at e
    · rename_i P q h
      cases e; exact h
    · cases e
  · rintro ⟨n, hn, e⟩
    exact ⟨n, List.mem_range.mpr hn, by rw [e]⟩
section
variable {K : PySem.W.Frag} {ph : Ph} {S : Sto} {H H2 : Hp}
theorem Sim.tabs (s : Sim K ph S H) : Tabs (tabsOf S) H := fun p hp => by
  obtain ⟨n, _, e⟩ := mem_tabs.mp hp
  obtain ⟨h0, ps, h1, h2, h3⟩ := s.ok n _ e
  rw [h0] at h1
  exact ⟨ps, h1, h2, fun pos cv hc => let ⟨c, k1, k2, _⟩ := h3 pos cv hc; ⟨c, k1, k2⟩⟩
/-- a lambda was made -/
theorem code_own (s : Sim K ph S H) (eN : ExtN H H2) (T2 : Tabs (tabsOf S) H2) {c : Addr} {q : Str} (hc : H2 c = some (CodeO c q)) : ¬ Own ph S c := by
  rintro (hr | ⟨n, h1, h2⟩)
  · obtain ⟨⟨xs, e⟩, _⟩ := s.rsv c hr
    have := eN c _ e fun _ z => nomatch z
    rw [hc] at this
    unfold CodeO at this
    cases this
  · obtain ⟨o, e⟩ := Option.isSome_iff_exists.mp h1
    have ok := s.ok n o e
    rw [h2] at ok
    cases o with
    | lst ds =>
      obtain ⟨xs, e1, _⟩ := ok
      have := eN c _ e1 fun _ z => nomatch z
      rw [hc] at this
      unfold CodeO at this
      cases this
    | dic ks ds =>
      obtain ⟨xs, e1, _⟩ := ok
      have := eN c _ e1 fun _ z => nomatch z
      rw [hc] at this
      unfold CodeO at this
      cases this
    | tab P q' =>
      obtain ⟨e0, _⟩ := ok
      obtain ⟨ps, e1, _⟩ := T2 (P, q') (mem_tabs.mpr ⟨n, s.lt n _ e, e⟩)
      have e1 : H2 P = some (.tbl ps) := e1
      rw [← e0, hc] at e1
      unfold CodeO at e1
      cases e1
theorem ext_lam (s : Sim K ph S H) (eN : ExtN H H2) : Ext ph S H ph S H2 :=
  ⟨⟨Nat.le_refl _, fun _ _ => rfl, fun a o e t n => ⟨eN a o e t, n⟩⟩, rfl, fun r hr => by
    obtain ⟨⟨xs, e⟩, _⟩ := s.rsv r hr
    rw [e, eN r _ e fun _ z => nomatch z]⟩
theorem sim_lam (s : Sim K ph S H) (eN : ExtN H H2) (T2 : Tabs (tabsOf S) H2) : Sim K ph S H2 := by
  refine ⟨s.lt, s.inj, fun n o e => ?_, fun r hr => ?_⟩
  · have ok := s.ok n o e
    cases o with
    | lst ds =>
      obtain ⟨xs, h1, h2⟩ := ok
      exact ⟨xs, eN _ _ h1 (fun _ z => nomatch z), h2.ext (ext_lam s eN)⟩
    | dic ks ds =>
      obtain ⟨xs, h1, h2, h3⟩ := ok
      exact ⟨xs, eN _ _ h1 (fun _ z => nomatch z), h2, h3.ext (ext_lam s eN)⟩
    | tab P q =>
      obtain ⟨e0, _⟩ := ok
      obtain ⟨ps, h1, h2, h3⟩ := T2 (P, q) (mem_tabs.mpr ⟨n, s.lt n _ e, e⟩)
      refine ⟨e0, ps, by rw [e0]; exact h1, h2, fun pos cv hc => ?_⟩
      obtain ⟨c, k1, k2⟩ := h3 pos cv hc
      exact ⟨c, k1, k2, code_own s eN T2 k2⟩
  · obtain ⟨⟨xs, e⟩, h⟩ := s.rsv r hr
    exact ⟨⟨xs, eN _ _ e (fun _ z => nomatch z)⟩, h⟩
theorem sqL_extN {a : Addr} {xs : List V} (h : SqL K H a xs) (e : ExtN H H2) : SqL K H2 a xs := by
  rcases h with (h | ⟨o, h⟩) | h
  · exact .inl (.inl (e _ _ h fun _ z => nomatch z))
  · exact .inl (.inr ⟨o, e _ _ h fun _ z => nomatch z⟩)
  · exact .inr h
theorem sqT_extN {a : Addr} {xs : List V} (h : SqT K H a xs) (e : ExtN H H2) : SqT K H2 a xs := by
  rcases h with (h | ⟨o, h⟩) | h
  · exact .inl (.inl (e _ _ h fun _ z => nomatch z))
  · exact .inl (.inr ⟨o, e _ _ h fun _ z => nomatch z⟩)
  · exact .inr h
/-- lists by keys: data and values alike -/
theorem RepL.byKeys {ds : List D} {xs : List V} {ks : List Int} (r : RepL K ph S H ds xs) : RepL K ph S H (byKeys ds ks) (byKeys xs ks) := by
  let T := (ds.zip xs).zip ks
  have hl := r.len
  have e1 : ds.zip ks = T.map fun p => (p.1.1, p.2) := by
    show ds.zip ks = ((ds.zip xs).zip ks).map fun p => (p.1.1, p.2)
    rw [show (fun p : (D × V) × Int => (p.1.1, p.2)) = Prod.map Prod.fst id from rfl, ← List.zip_map]
    rw [List.map_fst_zip (by omega), List.map_id]
  have e2 : xs.zip ks = T.map fun p => (p.1.2, p.2) := by
    show xs.zip ks = ((ds.zip xs).zip ks).map fun p => (p.1.2, p.2)
    rw [show (fun p : (D × V) × Int => (p.1.2, p.2)) = Prod.map Prod.snd id from rfl, ← List.zip_map]
    rw [List.map_snd_zip (by omega), List.map_id]
  let le : (D × V) × Int → (D × V) × Int → Bool := fun a b => PySem.W.dataLe false (fun p : (D × V) × Int => PyData.int p.2) a b
  have m1 : Mn.byKeys ds ks = (T.mergeSort le).map fun p => p.1.1 := by
    unfold Mn.byKeys
    rw [e1, ← List.map_mergeSort (r := le) (f := fun p : (D × V) × Int => (p.1.1, p.2)) (fun a _ b _ => rfl), List.map_map]
    rfl
  have m2 : Mn.byKeys xs ks = (T.mergeSort le).map fun p => p.1.2 := by
    unfold Mn.byKeys
    rw [e2, ← List.map_mergeSort (r := le) (f := fun p : (D × V) × Int => (p.1.2, p.2)) (fun a _ b _ => rfl), List.map_map]
    rfl
  rw [m1, m2]
  have all : ∀ p ∈ T.mergeSort le, Rep K ph S H p.1.1 p.1.2 := fun p hp => by
    have hp := (List.mergeSort_perm T le).mem_iff.mp hp
    have hz := (List.of_mem_zip (a := p.1) (b := p.2) hp).1
    obtain ⟨i, hi⟩ := List.mem_iff_getElem?.mp hz
    obtain ⟨g1, g2⟩ := List.getElem?_zip_eq_some.mp hi
    obtain ⟨y, g3, g4⟩ := r.get g1
    rw [g2] at g3; cases g3
    exact g4
  generalize T.mergeSort le = L at all
  induction L with
  | nil => exact .nil
  | cons p L ih => exact .cons (all p List.mem_cons_self) (ih fun q hq => all q (List.mem_cons_of_mem _ hq))
end
/-- the keys, one behind the other -/
def keysM (i : Nat) (mb : EM D) (rho : Env) : List D → M (List Int)
  | [] => ret []
  | d :: ds => bnd (mb (rho.set i (some d))) fun v => match v with
    | .int n => bnd (keysM i mb rho ds) fun ks => ret (n :: ks)
    | _ => fail
noncomputable def mSortK (j : Nat) (P : Addr) (q : Str) (i : Nat) (ma : EM (List D)) (mb : EM D) : EM D := fun rho => bnd (ma rho) fun as S => match as with
  | [d] => match items d S, S.ob j with
    | some ds, some (.tab P' q') => if P' = P ∧ q' = q then bnd (keysM i mb rho ds) (fun ks => ret (.lst (byKeys ds ks))) S else none
    | _, _ => none
  | _ => none
theorem e_lamsort {X : Cx} {x : Str} {i k j : Nat} {e : Expr} {ma : EM (List D)} {c P : Addr} {q : Str} {params : Arguments} {body : Expr} {scope : Scope} {p lpos kpos pos : Pos} {mb : EM D} (hm : X.mg "sorted" = none) (ha : PA X [e] (rdA X.K ma))
    (TB : TabB X.base X.mg c P) (hcode : X.env.code = .ref c) (hq : X.env.qual ++ "<lambda>" = q) (hr : Room (k + 4) X.A) (hG : X.A.guards = some []) (L : Lam1 X.env.scope scope x) (hdef : defaultsOf params X.env = ([], []))
    (hbind : ∀ (q : Str) (cl : List (Str × Addr)) (pm cv ctv u : Value), bindArgs (PySem.W.kla_fn "<lambda>" q params body scope cl pm cv ctv) ⟨[u], []⟩ = pure [(x, u)]) (hN : X.N.Nodup) (hi : X.N[i]? = some x)
    (hbody : ∀ (s : Shared) (H : Hp) (f c' : Addr), Room k (lamCx X X.A.in1.in1 X.stack s H C8.E0 scope f c').A → (lamCx X X.A.in1.in1 X.stack s H C8.E0 scope f c').A.guards = some [] → PE (lamCx X X.A.in1.in1 X.stack s H C8.E0 scope f c') body (rdE X.K mb))
    (hg : Gl X "sorted" := by rfl) (he : backTo pos (starEach [e] X.env) = (false, eval e X.env) :: backTo pos (starEach [] X.env) := by rfl) (hpl : (backTo pos (starEach [e] X.env)).any (·.1) = false := by rfl) :
    PE X (.Call (.Name "sorted" p) [e] [⟨some "key", .Lambda params body scope lpos, kpos⟩] pos) (rdE X.K (mSortK j P q i ma mb)) :=
  PE.weak (pe_lamsort hm ha TB hcode hq hr L hdef hbind hN hi (fun s H f c' h => hbody s H f c' h hG) hg he hpl) fun sg H Q h => by
    obtain ⟨ph, S, rho, d, S', s, en, e, post⟩ := h
    obtain ⟨as, S1, e1, e2⟩ := bnd_inv e
    refine ⟨ph, S, rho, as, S1, s, en, e1, fun ph1 H1 vs E1 s1 r1 => ?_⟩
    split at e2
    · rename_i d0
      split at e2
      · rename_i ds P' q' hd hj
        split at e2
        · rename_i hPq
          obtain ⟨rfl, rfl⟩ := hPq
          obtain ⟨ksA, S2, e3, e4⟩ := bnd_inv e2
          cases e4
          obtain ⟨y, rfl, ry⟩ := RepL.one r1
          obtain ⟨a, xs, rfl, hsq, rxs⟩ := items_of s1 ry hd
          have hlen := rxs.len
          refine ⟨a, xs, tabsOf S1, rfl, hsq, mem_tabs.mpr ⟨j, s1.lt j _ hj, hj⟩, fun p hp hpP => ?_, s1.tabs, fun c' ks H2 => H2 c' = some (CodeO c' q') ∧ ∃ ph2 S2, Ext ph1 S1 H1 ph2 S2 H2 ∧ Sim X.K ph2 S2 H2 ∧ ¬ Own ph2 S2 c' ∧ ∃ ks', keysM i mb rho (ds.drop ks.length) S2 = some (ks', S') ∧ ks ++ ks' = ksA, fun c' H2 eN T2 hc => ⟨⟨hc, ph1, S1, ext_lam s1 eN, sim_lam s1 eN T2, code_own s1 eN T2 hc, ksA, by simpa using e3, rfl⟩, ?_⟩, fun c' ks H2 hR => hR.1, fun c' ks y H2 hy hR => ?_, fun c' ks H2 p hl hR hp => ?_⟩
          · obtain ⟨n, hn, en2⟩ := mem_tabs.mp hp
            have a1 := (s1.ok n _ en2).1
            have a2 := (s1.ok j _ hj).1
            have : n = j := s1.inj n j (by rw [en2]; rfl) (by rw [hj]; rfl) (by rw [a1, a2, hpP])
            rw [this, hj] at en2
            cases en2; rfl
          · exact hsq.imp (fun z => sqT_extN z eN) fun z => sqL_extN z eN
          · obtain ⟨hc, ph2, S2, E2, s2, no, ks', e5, e6⟩ := hR
            have hlt : ks.length < ds.length := by
              have := (List.getElem?_eq_some_iff.mp hy).1
              omega
            rw [List.drop_eq_getElem_cons hlt] at e5
            obtain ⟨v, S3, e7, e8⟩ := bnd_inv e5
            cases v with
            | int n =>
              obtain ⟨ks2, S4, e9, e10⟩ := bnd_inv e8
              cases e10
              obtain ⟨y', g1, g2⟩ := rxs.get (List.getElem?_eq_getElem hlt)
              rw [hy] at g1; cases g1
              refine ⟨ph2, S2, rho.set i (some ds[ks.length]), .int n, S3, s2, ((en.ext E1).ext E2).set i (g2.ext E2), e7, fun ph3 H3 v E3 s3 r3 => ⟨n, r3.intE, ?_, ph3, S3, E2.trans E3, s3, ?_, ks2, ?_, ?_⟩⟩
              · exact (E3.kp c' _ hc (fun ps => codeO_ne ps) no).1
              · exact (E3.kp c' _ hc (fun ps => codeO_ne ps) no).2
              · rw [List.length_append, List.length_singleton]; exact e9
              · rw [List.append_assoc]; exact e6
            | _ => cases e8
          · obtain ⟨hc, ph2, S2, E2, s2, no, ks', e5, e6⟩ := hR
            rw [List.drop_eq_nil_of_le (by omega)] at e5
            cases e5
            rw [List.append_nil] at e6
            subst e6
            refine post ph2 _ _ ((E1.trans E2).trans (Ext.tree s2 hp)) (s2.tree hp) ?_
            rw [Rep]
            exact ⟨p, _, rfl, ⟨upd_same, s2.fresh hp⟩, (RepL.byKeys (rxs.ext E2)).ext (Ext.tree s2 hp)⟩
        · cases e2
      · cases e2
    · cases e2
end Mn

set_option maxRecDepth 100000
set_option maxHeartbeats 1000000
/-! Mn: from the law's def to its claim, where lambdas are made. -/
namespace Mn
open PySem PySem.Spec PyProof.Rows L2 LamX
/-- the store at the start: the tables of code objects -/
def S0T (ts : List (Addr × Str)) : Sto := ⟨ts.length, fun n => ts[n]?.map fun p => .tab p.1 p.2⟩
theorem sim_start {K : PySem.W.Frag} {H : Hp} {ts : List (Addr × Str)} (nd : (ts.map (·.1)).Nodup) (hT : ∀ p ∈ ts, H p.1 = some (.tbl #[])) :
    Sim K ⟨fun n => ((ts[n]?).map (·.1)).getD 0, []⟩ (S0T ts) H := by
  have at_ : ∀ {n : Nat} {o : Ob}, (S0T ts).ob n = some o → ∃ p, ts[n]? = some p ∧ o = .tab p.1 p.2 := fun {n o} e => by
    have e : ts[n]?.map (fun p : Addr × Str => Ob.tab p.1 p.2) = some o := e
    cases hp : ts[n]? with
    | none => rw [hp] at e; cases e
    | some p => rw [hp] at e; cases e; exact ⟨p, rfl, rfl⟩
  refine ⟨fun n o e => ?_, fun m n h1 h2 e => ?_, fun n o e => ?_, fun r hr => (nomatch hr)⟩
  · obtain ⟨p, hp, _⟩ := at_ e
    exact (List.getElem?_eq_some_iff.mp hp).1
  · obtain ⟨o1, e1⟩ := Option.isSome_iff_exists.mp h1
    obtain ⟨o2, e2⟩ := Option.isSome_iff_exists.mp h2
    obtain ⟨p, hp, _⟩ := at_ e1
    obtain ⟨p', hp', _⟩ := at_ e2
    have e : ((ts[m]?).map (·.1)).getD 0 = ((ts[n]?).map (·.1)).getD 0 := e
    rw [hp, hp'] at e
    have e : p.1 = p'.1 := e
    have lt := (List.getElem?_eq_some_iff.mp hp).1
    refine (List.getElem?_inj (by rw [List.length_map]; exact lt) nd).mp ?_
    rw [List.getElem?_map, List.getElem?_map, hp, hp', Option.map_some, Option.map_some, e]
  · obtain ⟨p, hp, rfl⟩ := at_ e
    have h0 : ((ts[n]?).map (·.1)).getD 0 = p.1 := by rw [hp]; rfl
    show RepO K _ _ _ _ (((ts[n]?).map (·.1)).getD 0)
    rw [h0]
    exact ⟨rfl, #[], hT p (List.mem_of_getElem? hp), trivial, fun pos cv hc => by
      have z : codeAmong pos [] = some cv := hc
      simp [codeAmong] at z⟩
theorem law_spT {K : PySem.W.Frag} {H : Hp} {a : Addr} {ns : List Int} {m : List D → M D} {ts : List (Addr × Str)} (nd : (ts.map (·.1)).Nodup) (hT : ∀ p ∈ ts, H p.1 = some (.tbl #[])) (ha : ∀ p ∈ ts, p.1 ≠ a) (hS : SqL K H a (ns.map V.int)) (e : ∃ S', m [scr ns] (S0T ts) = some (.bl true, S')) :
    spM K 1 m [.ref a] H (fun v _ => v = .bl true) C8.E0 := by
  obtain ⟨S', e⟩ := e
  refine ⟨rfl, _, S0T ts, _, _, S', sim_start nd hT, .cons ?_ .nil, e, fun ph H' v E s r => r.blE⟩
  unfold scr
  rw [Rep]
  refine ⟨a, _, rfl, ?_, ints_rep ns⟩
  rcases hS with h | h
  · refine .inl ⟨h, ?_⟩
    rintro (q | ⟨n, q, z⟩)
    · cases q
    · obtain ⟨o, e1⟩ := Option.isSome_iff_exists.mp q
      have e1 : ts[n]?.map (fun p : Addr × Str => Ob.tab p.1 p.2) = some o := e1
      cases hp : ts[n]? with
      | none => rw [hp] at e1; cases e1
      | some p =>
        have z : ((ts[n]?).map (·.1)).getD 0 = a := z
        rw [hp] at z
        exact ha p (List.mem_of_getElem? hp) z
  · exact .inr (.inr h)
section
variable {P : Program} {w : World} {K : PySem.W.Frag} {mg mb : Str → Option Value} {k : Nat} {fa a : Addr} {fd : FuncData} {x : Str} {m : List D → M D} {s1 : Shared} {vs : List Value} {ns : List Int} {cs : List (Addr × Addr)}
/-- with a heap told in which nothing stands but the script, if that, and the tables -/
theorem lawGT_at (KX : K.In s1.heap) (hns : s1.heap.Ns mainGlobals mg) (hb : s1.heap.Ns builtinsNs mb) (hbb : ∀ x : Str, x ≠ "__name__" → mb x = bootBuiltins x) (hlim : s1.heap.NoLimit) (hsm : ∃ mm, s1.heap.Ns sysModules mm) (hg : s1.gens = #[])
    (ha : s1.heap.get? a = some { cls := .type "list", data := .seq vs.toArray }) (hr : Room k callerA) (hT : ∀ p ∈ cs, s1.heap.get? p.2 = some { cls := .none, data := .fields #[] }) (nT : ∀ p ∈ cs, K.lookup p.2 = none) (hC : ∀ p ∈ cs, PySem.W.CodeHd s1.heap p.1 p.2)
    (hbm : ∃ (bm : Addr) (ob : Obj), mg "__builtins__" = some (.ref bm) ∧ bm ≠ builtinsNs ∧ s1.heap.get? bm = some ob ∧ ob.cls = .type "module" ∧ ob.dict = some builtinsNs ∧ ob.data = .plain)
    (F : ∀ base : Heap, K.In base → base.Ns mainGlobals mg → (∀ p ∈ cs, TabB base mg p.1 p.2) → (∃ mm, base.Ns sysModules mm) → FnG P w K mg base k fa fd [x] m) (hbind : ∀ (s : Shared) (u : Value), BindsTo s fd ⟨[u], []⟩ [(x, u)])
    {H : Hp} (sp : spM K 1 m [.ref a] H (fun v _ => v = .bl true) C8.E0) (tH : ∀ p ∈ cs, H p.2 = some (.tbl #[])) (fz : ∀ b u, H b = some u → (b = a ∧ (∃ ob xs, u = .frz ob (.lst xs)) ∧ K.lookup a = none) ∨ ∃ p ∈ cs, b = p.2 ∧ u = .tbl #[]) (hok : HOk P w H s1.heap) :
    codeAny (model P w) callerA (.call (.ref fa) ⟨[.ref a], []⟩) (fun r s' => r = .ok (.ret (.bool true)) ∧ OldK s1.heap s'.heap ∧ s'.os = s1.os ∧ AllBare s'.gens) s1 := by
  -- what is neither a list nor a table is not tracked, nor is what K tells
  have clear : ∀ {b : Addr} {o : Obj}, s1.heap.get? b = some o → (((∀ us n, o.data ≠ .seq us n) ∧ o.data ≠ .fields #[]) ∨ K.lookup b = some o) → (hidT s1.heap H).get? b = some o := fun {b o} e c => hidT_get e (by
    cases q : H b with
    | none => rfl
    | some u =>
      exfalso
      rcases fz b u q with ⟨rfl, _, hk⟩ | ⟨p, hp, rfl, _⟩
      · rcases c with ⟨c, _⟩ | c
        · rw [ha] at e; cases e; exact c _ _ rfl
        · rw [hk] at c; cases c
      · rcases c with ⟨_, c⟩ | c
        · rw [hT p hp] at e; cases e; exact c rfl
        · rw [nT p hp] at c; cases c)
  have nsK : ∀ {b : Addr} {g : Str → Option Value}, s1.heap.Ns b g → (hidT s1.heap H).Ns b g := fun {b g} ⟨o, es, ep, e, d, r⟩ => ⟨o, es, ep, clear e (.inl ⟨fun us n z => (by rw [d] at z; cases z), fun z => (by rw [d] at z; cases z)⟩), d, r⟩
  have inb : K.In (hidT s1.heap H) := fun b o e => clear (KX b o e) (.inr e)
  have md : Mod K mg (hidT s1.heap H) := ⟨inb, nsK hns, ⟨mb, nsK hb, hbb⟩, let ⟨g, h1, h2⟩ := hlim; ⟨g, nsK h1, h2⟩⟩
  have notG : ∀ {b : Addr} {o : Obj}, s1.heap.get? b = some o → (∀ es ep, o.data ≠ .dict es ep) → b ≠ mainGlobals := fun {b o} e hd z => by
    obtain ⟨g, es, ep, e2, d, _⟩ := hns
    rw [z, e2] at e; cases e
    exact hd _ _ d
  have tabs : ∀ p ∈ cs, TabB (hidT s1.heap H) mg p.1 p.2 := fun p hp => by
    have atP := hT p hp
    constructor
    · obtain ⟨o, us, file, tf, flags, tg, inF, text, tt, e, r1, r2, r3, rest⟩ := hC p hp
      have d : o.data ≠ .fields #[] := fun z => by
        rw [r2] at z; cases z
        simp at r3
      exact ⟨o, us, file, tf, flags, tg, inF, text, tt, clear e (.inl ⟨fun us n z => (by rw [r2] at z; cases z), d⟩), r1, r2, r3, rest⟩
    · obtain ⟨bm, ob, g1, g2, g3, g4, g5, g6⟩ := hbm
      refine ⟨bm, ob, g1, g2, notG g3 (fun es ep z => by rw [g6] at z; cases z), fun z => ?_, clear g3 (.inl ⟨fun us n z => (by rw [g6] at z; cases z), fun z => (by rw [g6] at z; cases z)⟩), g4, g5, g6⟩
      rw [z, atP] at g3; cases g3
      cases g6
    · exact (notG atP fun es ep z => by cases z).symm
  refine codeAny_mono ((F _ inb (nsK hns) tabs (let ⟨mm, h⟩ := hsm; ⟨mm, nsK h⟩)).run callerA [] s1 H ⟨[.ref a], []⟩ [.ref a] [.ref a] _ hr rfl ⟨rfl, md, fun b o e => of_hidT e, Nat.le_of_eq (hidT_size _ _), trivial, fun b hb => (nomatch hb), hok, .of_eq hg⟩ (hbind s1 (.ref a)) (.cons rfl .nil) sp) fun r s' h => ?_
  match r, h with
  | .ok (.ret u), h =>
    obtain ⟨v, H', os, bare, un, hok', r', q⟩ := h
    obtain rfl : v = V.bl true := q
    obtain rfl : u = Value.bool true := r'
    have same : ∀ b o, (∀ p ∈ cs, b ≠ p.2) → s1.heap.get? b = some o → s'.heap.get? b = some o := fun b o nb e => by
      cases q : H b with
      | none => exact un.keep b o e q (fun z => nomatch z) (fun z => nomatch z)
      | some u =>
        rcases fz b u q with ⟨_, ⟨ob, xs, rfl⟩, _⟩ | ⟨p, hp, z, _⟩
        · have e1 := (hok b _ q).1
          have e2 := (hok' b _ (un.frzs b ob _ q)).1
          rw [e] at e1; cases e1
          exact e2
        · exact absurd z (nb p hp)
    have more : ∀ p ∈ cs, ∃ us : Array Value, s'.heap.get? p.2 = some { cls := .none, data := .fields us } := fun p hp => by
      obtain ⟨us, z⟩ := un.tbls p.2 #[] (tH p hp)
      exact ⟨_, hok' p.2 _ z⟩
    have dec : ∀ b : Addr, (∃ p ∈ cs, b = p.2) ∨ ∀ p ∈ cs, b ≠ p.2 := fun b => by
      by_cases z : ∃ p ∈ cs, b = p.2
      · exact .inl z
      · exact .inr fun p hp e => z ⟨p, hp, e⟩
    refine ⟨rfl, ⟨fun b o e => ?_, fun b o e => ?_⟩, os, bare⟩
    · rcases dec b with ⟨p, hp, rfl⟩ | nb
      · obtain ⟨us, hm⟩ := more p hp
        rw [hT p hp] at e; cases e
        exact .inr (.inl ⟨((hC p hp).tab (hT p hp)).isCodeTable, rfl, #[], us, rfl, by rw [Array.empty_append]; exact hm⟩)
      · exact .inl (same b o nb e)
    · rcases dec b with ⟨p, hp, rfl⟩ | nb
      · obtain ⟨us, hm⟩ := more p hp
        exact ⟨_, hm⟩
      · exact ⟨o, same b o nb e⟩
theorem lawGT {qs : List Str} (KX : K.In s1.heap) (hns : s1.heap.Ns mainGlobals mg) (hb : s1.heap.Ns builtinsNs mb) (hbb : ∀ x : Str, x ≠ "__name__" → mb x = bootBuiltins x) (hlim : s1.heap.NoLimit) (hsm : ∃ mm, s1.heap.Ns sysModules mm) (hg : s1.gens = #[])
    (ha : s1.heap.get? a = some { cls := .type "list", data := .seq vs.toArray }) (hi : IntsAre vs ns) (hl : ns.length ≤ sizeLine) (hr : Room k callerA) (hT : ∀ p ∈ cs, s1.heap.get? p.2 = some { cls := .none, data := .fields #[] }) (nT : ∀ p ∈ cs, K.lookup p.2 = none) (hC : ∀ p ∈ cs, PySem.W.CodeHd s1.heap p.1 p.2)
    (hbm : ∃ (bm : Addr) (ob : Obj), mg "__builtins__" = some (.ref bm) ∧ bm ≠ builtinsNs ∧ s1.heap.get? bm = some ob ∧ ob.cls = .type "module" ∧ ob.dict = some builtinsNs ∧ ob.data = .plain)
    (F : ∀ base : Heap, K.In base → base.Ns mainGlobals mg → (∀ p ∈ cs, TabB base mg p.1 p.2) → (∃ mm, base.Ns sysModules mm) → FnG P w K mg base k fa fd [x] m) (hbind : ∀ (s : Shared) (u : Value), BindsTo s fd ⟨[u], []⟩ [(x, u)])
    (nd : (cs.map (·.2)).Nodup) (hq : qs.length = cs.length) (e : ∃ S', m [scr ns] (S0T ((cs.map (·.2)).zip qs)) = some (.bl true, S')) :
    codeAny (model P w) callerA (.call (.ref fa) ⟨[.ref a], []⟩) (fun r s' => r = .ok (.ret (.bool true)) ∧ OldK s1.heap s'.heap ∧ s'.os = s1.os ∧ AllBare s'.gens) s1 := by
  have rv := vals_ints hi
  have hz : ((cs.map (·.2)).zip qs).map (·.1) = cs.map (·.2) := List.map_fst_zip (by rw [List.length_map]; omega)
  have nd' : (((cs.map (·.2)).zip qs).map (·.1)).Nodup := by rw [hz]; exact nd
  have inT : ∀ p ∈ (cs.map (·.2)).zip qs, p.1 ∈ cs.map (·.2) := fun p hp => by rw [← hz]; exact List.mem_map_of_mem hp
  have aT : a ∉ cs.map (·.2) := fun z => by
    obtain ⟨p, hp, e⟩ := List.mem_map.mp z
    have := hT p hp
    rw [e, ha] at this
    cases this
  have memT : ∀ p ∈ cs, p.2 ∈ cs.map (·.2) := fun p hp => List.mem_map.mpr ⟨p, hp, rfl⟩
  have isT : ∀ b, b ∈ cs.map (·.2) → ∃ p ∈ cs, b = p.2 := fun b hb => let ⟨p, hp, e⟩ := List.mem_map.mp hb; ⟨p, hp, e.symm⟩
  have tOk : ∀ {H : Hp} {b : Addr}, b ∈ cs.map (·.2) → ObjOk P w H s1.heap b (.tbl #[]) := fun {H b} hb => by
    obtain ⟨p, hp, rfl⟩ := isT b hb
    exact hT p hp
  cases hk : K.lookup a with
  | some o =>
    have z := KX a o hk
    rw [ha] at z; cases z
    let H : Hp := fun b => if b ∈ cs.map (·.2) then some (.tbl #[]) else none
    have at_b : ∀ {b : Addr} {u : HO}, H b = some u → b ∈ cs.map (·.2) ∧ u = .tbl #[] := fun {b u} q => by
      by_cases h : b ∈ cs.map (·.2)
      · have q : (if b ∈ cs.map (·.2) then some (HO.tbl #[]) else none) = some u := q
        rw [if_pos h] at q; exact ⟨h, (Option.some.inj q).symm⟩
      · have q : (if b ∈ cs.map (·.2) then some (HO.tbl #[]) else none) = some u := q
        rw [if_neg h] at q; cases q
    exact lawGT_at KX hns hb hbb hlim hsm hg ha hr hT nT hC hbm F hbind (H := H) (law_spT nd' (fun p hp => if_pos (inT p hp)) (fun p hp z => aT (by rw [← z]; exact inT p hp)) (.inr ⟨_, vs.toArray, _, hk, rfl, rfl, rfl, by rw [List.size_toArray, hi.length]; exact hl, by simpa using rv⟩) e) (fun p hp => if_pos (memT p hp)) (fun b u q => by
      obtain ⟨h1, rfl⟩ := at_b q
      obtain ⟨p, hp, e⟩ := isT b h1
      exact .inr ⟨p, hp, e, rfl⟩) fun b u q => by
      obtain ⟨h1, rfl⟩ := at_b q
      exact tOk h1
  | none =>
    let H : Hp := fun b => if b = a then some (HO.frz { cls := .type "list", data := .seq vs.toArray } (.lst (ns.map V.int))) else if b ∈ cs.map (·.2) then some (.tbl #[]) else none
    have ata : H a = some (HO.frz { cls := .type "list", data := .seq vs.toArray } (.lst (ns.map V.int))) := if_pos rfl
    have att : ∀ {b : Addr}, b ∈ cs.map (·.2) → H b = some (.tbl #[]) := fun {b} hb => by
      show (if b = a then some (HO.frz { cls := .type "list", data := .seq vs.toArray } (.lst (ns.map V.int))) else if b ∈ cs.map (·.2) then some (.tbl #[]) else none) = _
      rw [if_neg (fun z => aT (by rw [← z]; exact hb)), if_pos hb]
    have at_b : ∀ {b : Addr} {u : HO}, H b = some u → (b = a ∧ u = .frz { cls := .type "list", data := .seq vs.toArray } (.lst (ns.map V.int))) ∨ (b ∈ cs.map (·.2) ∧ u = .tbl #[]) := fun {b u} q => by
      by_cases h : b = a
      · rw [h, ata] at q; exact .inl ⟨h, (Option.some.inj q).symm⟩
      · by_cases h2 : b ∈ cs.map (·.2)
        · rw [att h2] at q; exact .inr ⟨h2, (Option.some.inj q).symm⟩
        · have q : (if b = a then some (HO.frz { cls := .type "list", data := .seq vs.toArray } (.lst (ns.map V.int))) else if b ∈ cs.map (·.2) then some (.tbl #[]) else none) = some u := q
          rw [if_neg h, if_neg h2] at q; cases q
    refine lawGT_at KX hns hb hbb hlim hsm hg ha hr hT nT hC hbm F hbind (H := H) (law_spT nd' (fun p hp => att (inT p hp)) (fun p hp z => aT (by rw [← z]; exact inT p hp)) (.inl (.inr ⟨_, ata⟩)) e) (fun p hp => att (memT p hp)) (fun b u q => ?_) fun b u q => ?_
    · rcases at_b q with ⟨h1, h2⟩ | ⟨h1, rfl⟩
      · exact .inl ⟨h1, ⟨_, _, h2⟩, hk⟩
      · obtain ⟨p, hp, e⟩ := isT b h1
        exact .inr ⟨p, hp, e, rfl⟩
    · rcases at_b q with ⟨rfl, rfl⟩ | ⟨h1, rfl⟩
      · exact ⟨ha, by rw [List.length_map]; exact hl, vs, _, rv, ha⟩
      · exact tOk h1
end
/-- the goal that k_head leaves, from the law's plain function, where lambdas are made in the defs nm -/
theorem walkGT {l : PySem.W.OpenLaw} {n k : Nat} {q : Program} {loose : List Str} {XP : (Str → Option Value) → Heap → Prop} {YP : World → Heap → Prop} {d : DefRec} {K : Params → PySem.W.Frag} {x : Str} {m : (Nat → Addr) → List D → M D} {nm qs : List Str}
    (hn : l.most = some n) (hn2 : n ≤ sizeLine) (hdf : d.params.defaults = []) (hr : Room k callerA) (hY : ∀ (w : World) (h : Heap), YP w h → (K w.params).In h) (hrec : ∀ y ∈ nm, ((recsOf q).find? fun e => e.name == y).isSome = true) (hq : qs.length = nm.length) (hi : importsNone q = true)
    (hm : ∀ (ts : Nat → Addr) (ns : List Int), ns.length ≤ n → ∃ S', m ts [scr ns] (S0T (((List.range nm.length).map ts).zip qs)) = some (.bl true, S'))
    (F : ∀ (w : World) (mg : Str → Option Value) (fa : Addr) (h : Heap), (K w.params).In h → h.Ns mainGlobals mg → mg d.name = some (.ref fa) →
      ∃ (fd : FuncData) (cs : List (Addr × Addr)), nm.map (PySem.W.tabIn (K w.params)) = cs.map some ∧ (∀ p ∈ cs, (K w.params).lookup p.2 = none) ∧ (cs.map (·.2)).Nodup ∧ (∀ (s : Shared) (u : Value), BindsTo s fd ⟨[u], []⟩ [(x, u)]) ∧
        ∀ base : Heap, (K w.params).In base → base.Ns mainGlobals mg → (∀ p ∈ cs, TabB base mg p.1 p.2) → (∃ mm, base.Ns sysModules mm) → FnG l.prog w (K w.params) mg base k fa fd [x] (m fun i => ((cs[i]?).map (·.2)).getD 0)) :
    PySem.W.WalkO q loose XP YP l.row.toRowW d [] (fun f vs => PySem.call f vs) := by
  refine Att.attach_call hn hdf fun w s0 s1 mg mb fa o pm cd doc a vs ns G Y ho hd hcd hmg hobj hints hlen hg => ?_
  have KX := hY w _ Y
  obtain ⟨fd, cs, hcs, nT, nd, hb, hF⟩ := F w mg fa _ KX G.T.g hmg
  have hlen2 : nm.length = cs.length := by
    have := congrArg List.length hcs
    rwa [List.length_map, List.length_map] at this
  have facts : ∀ p ∈ cs, PySem.W.CodeHd s1.heap p.1 p.2 ∧ s1.heap.get? p.2 = some { cls := .none, data := .fields #[] } := fun p hp => by
    obtain ⟨i, hi⟩ := List.mem_iff_getElem?.mp hp
    have h1 : (nm.map (PySem.W.tabIn (K w.params)))[i]? = some (some p) := by rw [hcs, List.getElem?_map, hi]; rfl
    rw [List.getElem?_map] at h1
    cases hy : nm[i]? with
    | none => rw [hy] at h1; cases h1
    | some y =>
      rw [hy] at h1
      have h1 : PySem.W.tabIn (K w.params) y = some p := by simpa using h1
      obtain ⟨dr, hdr⟩ := Option.isSome_iff_exists.mp (hrec y (List.mem_of_getElem? hy))
      exact PySem.W.tab_of G.T KX hdr h1
  have ets : (List.range nm.length).map (fun i => ((cs[i]?).map (·.2)).getD 0) = cs.map (·.2) := by
    refine List.ext_getElem (by simp [hlen2]) fun i h1 h2 => ?_
    rw [List.getElem_map, List.getElem_map, List.getElem_range]
    have : i < cs.length := by simpa using h2
    rw [List.getElem?_eq_getElem this]; rfl
  have e := hm (fun i => ((cs[i]?).map (·.2)).getD 0) ns hlen
  rw [ets] at e
  exact lawGT KX G.T.g G.T.b G.T.builtins G.T.nolimit (let ⟨mm, h, _⟩ := (G.T.seer hi).mods; ⟨mm, h⟩) hg hobj hints (Nat.le_trans hlen hn2) hr (fun p hp => (facts p hp).2) nT (fun p hp => (facts p hp).1) G.T.bmain hF hb nd (by omega) e
end Mn

set_option maxRecDepth 100000
set_option maxHeartbeats 1000000
/-! Mn: defs that make lambdas, defs that call themselves. -/
namespace Mn
open PySem PySem.Spec PyProof.Rows L2
section
variable {P : Program} {w : World} {K : PySem.W.Frag} {mg : Str → Option Value} {base : Heap} {k : Nat} {f : Addr} {fd : FuncData} {ps N : List Str}
theorem fnG_fail : FnG P w K mg base k f fd ps fun _ => fail := ⟨fun A outer s H args us vs Q hr hg e0 hb r hsp => by
  obtain ⟨hl, ph, S, ds, d, S', sim, rl, e, post⟩ := hsp
  cases e⟩
end
end Mn

set_option maxRecDepth 100000
set_option maxHeartbeats 1000000
/-! Mn: dicts. -/
namespace Mn
open PySem PySem.Spec PyProof.Rows L2
def keyD : D → Option Key
  | .int i => some (.inl i)
  | .str s => some (.inr s)
  | _ => none
def unkey : Key → D
  | .inl i => .int i
  | .inr s => .str s
section
variable {K : PySem.W.Frag} {ph : Ph} {S : Sto} {H : Hp}
theorem keyD_of {d : D} {v : V} {k : Key} (r : Rep K ph S H d v) (h : keyD d = some k) : v = kV k := by
  cases d with
  | int i => cases h; exact r.intE
  | str x => cases h; exact r.strE
  | _ => cases h
theorem unkey_rep (k : Key) : Rep K ph S H (unkey k) (kV k) := by
  cases k with
  | inl i => show Rep K ph S H (.int i) (.int i); rw [Rep]
  | inr s => show Rep K ph S H (.str s) (.str s); rw [Rep]
/-- what stands at a key -/
def valD : List Key → List D → Key → Option D
  | k :: ks, d :: ds, k' => if k = k' then some d else valD ks ds k'
  | _, _, _ => none
theorem valD_of : ∀ {kvs : List (Key × V)} {ds : List D} {k : Key} {d : D}, RepL K ph S H ds (kvs.map (·.2)) → valD (kvs.map (·.1)) ds k = some d → ∃ v, valV kvs k = some v ∧ Rep K ph S H d v
  | [], ds, k, d, r, h => by cases h
  | kv :: kvs, [], k, d, r, h => by cases h
  | kv :: kvs, e :: ds, k, d, r, h => by
    obtain ⟨x, xs, e1, r1, r2⟩ := r.cons_inv
    rw [List.map_cons] at e1 h
    injection e1 with e1 e2
    have h : (if kv.1 = k then some e else valD (kvs.map (·.1)) ds k) = some d := h
    by_cases hk : kv.1 = k
    · rw [if_pos hk] at h; cases h
      exact ⟨kv.2, valV_pos hk, by rw [e1]; exact r1⟩
    · rw [if_neg hk] at h
      obtain ⟨v, h1, h2⟩ := valD_of (by rw [e2]; exact r2) h
      exact ⟨v, by rw [valV_neg hk]; exact h1, h2⟩
theorem valD_no : ∀ {kvs : List (Key × V)} {ds : List D} {k : Key}, RepL K ph S H ds (kvs.map (·.2)) → valD (kvs.map (·.1)) ds k = none → valV kvs k = none
  | [], ds, k, r, h => valV_nil
  | kv :: kvs, [], k, r, h => by
    have := r.nil_inv
    simp at this
  | kv :: kvs, e :: ds, k, r, h => by
    obtain ⟨x, xs, e1, r1, r2⟩ := r.cons_inv
    rw [List.map_cons] at e1 h
    injection e1 with e1 e2
    have h : (if kv.1 = k then some e else valD (kvs.map (·.1)) ds k) = none := h
    by_cases hk : kv.1 = k
    · rw [if_pos hk] at h; cases h
    · rw [if_neg hk] at h
      rw [valV_neg hk]
      exact valD_no (by rw [e2]; exact r2) h
/-- a key stored -/
def putPs : List Key → List D → Key → D → List Key × List D
  | k :: ks, d :: ds, k', e => if k = k' then (k :: ks, e :: ds) else ((k :: (putPs ks ds k' e).1), d :: (putPs ks ds k' e).2)
  | _, _, k', e => ([k'], [e])
/-- the same on values, one key once -/
def putVs : List (Key × V) → Key → V → List (Key × V)
  | [], k, v => [(k, v)]
  | kv :: kvs, k, v => if kv.1 = k then (kv.1, v) :: kvs else kv :: putVs kvs k v
theorem putVs_eq : ∀ {kvs : List (Key × V)} {k : Key} {v : V}, (kvs.map (·.1)).Nodup → putK kvs k v = putVs kvs k v
  | [], k, v, _ => rfl
  | kv :: kvs, k, v, nd => by
    rw [List.map_cons, List.nodup_cons] at nd
    have ih := putVs_eq (k := k) (v := v) nd.2
    unfold putK at ih ⊢
    rw [List.any_cons]
    by_cases hk : kv.1 = k
    · have hn : ∀ p ∈ kvs, ¬ p.1 = k := fun p hp e => nd.1 (by rw [hk, ← e]; exact List.mem_map_of_mem hp)
      have hm : kvs.map (fun kv => if kv.1 = k then (kv.1, v) else kv) = kvs := by
        conv => rhs; rw [← List.map_id kvs]
        exact List.map_congr_left fun p hp => if_neg (hn p hp)
      rw [decide_eq_true hk, Bool.true_or, if_pos rfl, List.map_cons, if_pos hk, hm]
      show _ = (if kv.1 = k then (kv.1, v) :: kvs else kv :: putVs kvs k v)
      rw [if_pos hk]
    · show _ = (if kv.1 = k then (kv.1, v) :: kvs else kv :: putVs kvs k v)
      rw [if_neg hk, decide_eq_false hk, Bool.false_or, ← ih]
      by_cases ha : (kvs.any fun kv => decide (kv.1 = k)) = true
      · rw [if_pos ha, if_pos ha, List.map_cons, if_neg hk]
      · rw [if_neg ha, if_neg ha, List.cons_append]
theorem putVs_rep : ∀ {kvs : List (Key × V)} {ds : List D} {k : Key} {v : V} {d : D}, RepL K ph S H ds (kvs.map (·.2)) → Rep K ph S H d v →
    ((putVs kvs k v).map (·.1)) = (putPs (kvs.map (·.1)) ds k d).1 ∧ RepL K ph S H (putPs (kvs.map (·.1)) ds k d).2 ((putVs kvs k v).map (·.2))
  | [], ds, k, v, d, r, rd => by
    cases ds with
    | nil => exact ⟨rfl, .cons rd .nil⟩
    | cons e ds =>
      obtain ⟨x, xs, e1, _⟩ := r.cons_inv
      cases e1
  | kv :: kvs, [], k, v, d, r, rd => by
    have := r.nil_inv
    simp at this
  | kv :: kvs, e :: ds, k, v, d, r, rd => by
    obtain ⟨x, xs, e1, r1, r2⟩ := r.cons_inv
    rw [List.map_cons] at e1
    injection e1 with e1 e2
    have ih := putVs_rep (k := k) (v := v) (d := d) (kvs := kvs) (ds := ds) (by rw [e2]; exact r2) rd
    show (((if kv.1 = k then (kv.1, v) :: kvs else kv :: putVs kvs k v).map (·.1)) = (if kv.1 = k then (kv.1 :: kvs.map (·.1), d :: ds) else ((kv.1 :: (putPs (kvs.map (·.1)) ds k d).1), e :: (putPs (kvs.map (·.1)) ds k d).2)).1) ∧ _
    show _ ∧ RepL K ph S H (if kv.1 = k then (kv.1 :: kvs.map (·.1), d :: ds) else ((kv.1 :: (putPs (kvs.map (·.1)) ds k d).1), e :: (putPs (kvs.map (·.1)) ds k d).2)).2 ((if kv.1 = k then (kv.1, v) :: kvs else kv :: putVs kvs k v).map (·.2))
    by_cases hk : kv.1 = k
    · rw [if_pos hk, if_pos hk]
      exact ⟨rfl, .cons rd (by rw [e2]; exact r2)⟩
    · rw [if_neg hk, if_neg hk]
      exact ⟨by rw [List.map_cons, ih.1], .cons (by show Rep K ph S H e kv.2; rw [e1]; exact r1) ih.2⟩
end
/-! ### d[k], d[k] = v, {} -/
def dixM (dx dk : D) : M D := fun S => match keyD dk with
  | some k => match dx with
    | .dic ks ds => (valD ks ds k).map fun d => (d, S)
    | .ref n => match S.ob n with
      | some (.dic ks ds) => (valD ks ds k).map fun d => (d, S)
      | _ => none
    | _ => none
  | none => none
section
variable {X : Cx} {o i e : Expr} {mo mi mv : EM D} {pos pos' : Pos}
theorem e_dix (hu : X.A.units + 200 < cLine) (ho : PE X o (rdE X.K mo)) (hi : PE X i (rdE X.K mi)) (hs : NoSl i := by exact fun _ _ => rfl) : PE X (.Subscript o i pos) (rdE X.K (mBin dixM mo mi)) :=
  PE.weak (pe_dget (by omega) ho hi hs) fun sg H Q h => by
    obtain ⟨ph, S, rho, d, S', s, en, e, post⟩ := h
    obtain ⟨dx, S1, e1, e2⟩ := bnd_inv e
    obtain ⟨dk, S2, e3, e4⟩ := bnd_inv e2
    refine ⟨ph, S, rho, dx, S1, s, en, e1, fun ph1 H1 x E1 s1 r1 => ⟨ph1, S1, rho, dk, S2, s1, en.ext E1, e3, fun ph2 H2 y E2 s2 r2 => ?_⟩⟩
    unfold dixM at e4
    split at e4
    · rename_i k hk
      obtain rfl := keyD_of r2 hk
      have r1' := r1.ext E2
      split at e4
      · rename_i ks ds
        cases hv : valD ks ds k with
        | none => rw [hv] at e4; cases e4
        | some c =>
          rw [hv] at e4; cases e4
          obtain ⟨a, kvs, rfl, h1, rfl, h3⟩ := r1'.dicE
          obtain ⟨v, h4, h5⟩ := valD_of h3 hv
          exact ⟨a, v, rfl, by rw [← h4]; exact DGet.k h1.1, post ph2 H2 v (E1.trans E2) s2 h5⟩
      · rename_i n
        split at e4
        · rename_i ks ds hd
          cases hv : valD ks ds k with
          | none => rw [hv] at e4; cases e4
          | some c =>
            rw [hv] at e4; cases e4
            obtain ⟨_, rfl⟩ := r1'.refE
            obtain ⟨kvs, h1, rfl, h3⟩ := s2.ok n _ hd
            obtain ⟨v, h4, h5⟩ := valD_of h3 hv
            exact ⟨_, v, rfl, by rw [← h4]; exact DGet.k h1, post ph2 H2 v (E1.trans E2) s2 h5⟩
        · cases e4
      · cases e4
    · cases e4
def putDM (x y z : D) : M Unit := fun S => match x, keyD y with
  | .ref n, some k => match S.ob n with
    | some (.dic ks ds) => if ks.length < 1000000 ∧ ks.Nodup then some ((), S.set n (.dic (putPs ks ds k z).1 (putPs ks ds k z).2)) else none
    | _ => none
  | _, _ => none
def mPutD (mo mi mv : EM D) : SM := fun rho => bnd (mv rho) fun v => bnd (mo rho) fun o => bnd (mi rho) fun i => bnd (putDM o i v) fun _ => ret (.nx, rho)
theorem s_putD (hu : X.A.units + 200 < cLine) (he : PE X e (rdE X.K mv)) (ho : PE X o (rdE X.K mo)) (hi : PE X i (rdE X.K mi)) (hs : swapsWith e (some (.Subscript o i pos')) pos.line X.env = pure false := by rfl) :
    PS X (.Assign [.Subscript o i pos'] e pos) (rdS X.K (mPutD mo mi mv)) := by
  refine PS.weak (ps_dput (by omega) ho hi he hs) fun N sg H h => ?_
  obtain ⟨ph, S, rho, fl, rho', S', s, en, e, post⟩ := h
  obtain ⟨dv, S1, e1, q2⟩ := bnd_inv e
  obtain ⟨da, S2, e2, q3⟩ := bnd_inv q2
  obtain ⟨di, S3, e3, q4⟩ := bnd_inv q3
  obtain ⟨u, S4, e4, q5⟩ := bnd_inv q4
  cases q5
  refine ⟨ph, S, rho, dv, S1, s, en, e1, fun ph1 H1 v E1 s1 r1 => ⟨ph1, S1, rho, da, S2, s1, en.ext E1, e2, fun ph2 H2 x E2 s2 r2 => ⟨ph2, S2, rho, di, S3, s2, (en.ext E1).ext E2, e3, fun ph3 H3 y E3 s3 r3 => ?_⟩⟩⟩
  unfold putDM at e4
  split at e4
  · rename_i n k hk
    obtain rfl := keyD_of r3 hk
    split at e4
    · rename_i ks ds hd
      split at e4
      · rename_i hl
        cases e4
        obtain ⟨_, rfl⟩ := (r2.ext E3).refE
        obtain ⟨kvs, h1, rfl, h3⟩ := s3.ok n _ hd
        have hs3 : (S3.ob n).isSome = true := by rw [hd]; rfl
        have rv := (r1.ext E2).ext E3
        have pe := putVs_rep (k := k) h3 rv
        have E4 : Ext ph3 S3 H3 ph3 (S3.set n (.dic (putPs (kvs.map (·.1)) ds k dv).1 (putPs (kvs.map (·.1)) ds k dv).2)) (upd H3 (ph3.f n) (.dK (putVs kvs k v))) := Ext.setO s3 hs3
        have s4 := s3.setO (o := .dK (putVs kvs k v)) (u := .dic (putPs (kvs.map (·.1)) ds k dv).1 (putPs (kvs.map (·.1)) ds k dv).2) hs3 ⟨putVs kvs k v, upd_same, pe.1, pe.2.ext E4⟩
        refine ⟨ph3.f n, _, rfl, DPut.k h1 (by have := hl.1; rw [List.length_map] at this; exact Nat.lt_of_lt_of_le this (by decide)), ?_⟩
        rw [putVs_eq hl.2]
        exact post ph3 _ sg (((E1.trans E2).trans E3).trans E4) s4 ((((en.ext E1).ext E2).ext E3).ext E4)
      · cases e4
    · cases e4
  · cases e4
def mDicN : EM D := fun _ S => some (.ref S.nx, S.new (.dic [] []))
theorem e_dicN : PE X (.Dict [] [] pos) (rdE X.K mDicN) := PE.weak pe_dnewK fun sg H Q h => by
  obtain ⟨ph, S, rho, d, S', s, en, e, post⟩ := h
  cases e
  intro p hp
  have E : Ext ph S H (phN ph S p) (S.new (.dic [] [])) (upd H p (.dK [])) := Ext.newO s hp
  refine post (phN ph S p) _ _ E (s.newO hp ⟨[], upd_same, rfl, .nil⟩) ?_
  rw [Rep]
  exact ⟨Nat.lt_succ_self _, by rw [phN_new]⟩
end
end Mn

set_option maxRecDepth 100000
set_option maxHeartbeats 1000000
/-! Mn: list(d.items()), dict(pairs). -/
namespace Mn
open PySem PySem.Spec PyProof.Rows L2
/-- what is tracked behind list(d.items()): the list at c, the pairs at ts -/
def itemsH (H : Hp) (h' : Heap) (c : Addr) (ts : List Addr) (kvs : List (Key × V)) : Hp := fun b =>
  if b = c then some (.lst (ts.map V.ref)) else match (ts.zip kvs).lookup b with
    | some q => (h'.get? b).map fun o => .frz o (.tup [kV q.1, q.2])
    | none => H b
theorem lookup_zip {β : Type} : ∀ {ts : List Addr} {ys : List β} {j : Nat} {t : Addr} {y : β}, ts.Nodup → ts[j]? = some t → ys[j]? = some y → (ts.zip ys).lookup t = some y
  | [], _, j, t, y, _, h, _ => by simp at h
  | a :: ts, [], j, t, y, _, _, h => by simp at h
  | a :: ts, b :: ys, 0, t, y, nd, h1, h2 => by
    simp at h1 h2
    subst h1 h2
    simp [List.lookup]
  | a :: ts, b :: ys, j + 1, t, y, nd, h1, h2 => by
    rw [List.nodup_cons] at nd
    have h1 : ts[j]? = some t := by simpa using h1
    have h2 : ys[j]? = some y := by simpa using h2
    have : t ≠ a := fun e => nd.1 (by rw [← e]; exact List.mem_of_getElem? h1)
    rw [List.zip_cons_cons, List.lookup_cons]
    have e : (t == a) = false := by simpa using this
    rw [e]
    exact lookup_zip nd.2 h1 h2
theorem lookup_no {β : Type} : ∀ {ts : List Addr} {ys : List β} {t : Addr}, t ∉ ts → (ts.zip ys).lookup t = none
  | [], ys, t, _ => by simp
  | a :: ts, [], t, _ => by simp
  | a :: ts, b :: ys, t, h => by
    rw [List.mem_cons, not_or] at h
    have e : (t == a) = false := by simpa using h.1
    rw [List.zip_cons_cons, List.lookup_cons, e]
    exact lookup_no h.2
section
variable {X : Cx} {pins : List (Addr × Obj)} {sg : L2.St} {H : Hp} {s : Shared}
theorem items_laidF {h' : Heap} {tk : Nat} {kvs : List (Key × V)} {vs : List (Key × Value)} {acc : Array Value} {n : Nat} {ts : List Addr} (I : Inv X pins sg H s) (hz : kvs.length ≤ sizeLine) (kv : KV kvs vs) (old : ∀ b o, s.heap.get? b = some o → h'.get? b = some o)
    (hS : h'.get? s.heap.objs.size = some { cls := .type "list", dict := none, data := .seq acc n, slots := #[] }) (hl : ts.length = vs.length) (G : PySem.W.KdxG (mixKind X.prog X.w) vs s.heap.objs.size h' ts) (hacc : acc.toList = ts.map Value.ref) :
    (∀ b o, H b = some o → itemsH H h' s.heap.objs.size ts kvs b = some o) ∧ H s.heap.objs.size = none ∧ (∀ t ∈ ts, H t = none) ∧ s.heap.objs.size ∉ ts ∧ itemsH H h' s.heap.objs.size ts kvs s.heap.objs.size = some (.lst (ts.map V.ref)) ∧
      (∀ (j : Nat) (t : Addr) (q : Key × V), ts[j]? = some t → kvs[j]? = some q → ∃ o : Obj, itemsH H h' s.heap.objs.size ts kvs t = some (.frz o (.tup [kV q.1, q.2])) ∧ o.cls = .type "tuple" ∧ o.dict = none) ∧ Inv X pins sg (itemsH H h' s.heap.objs.size ts kvs) { s with heap := h', toks := tk } := by
  have lk : kvs.length = vs.length := Paired.length kv
  have nS : s.heap.objs.size ∉ ts := fun z => Nat.lt_irrefl _ (G.above _ z)
  have nd : ts.Nodup := G.rise.imp fun {a b} h => Nat.ne_of_lt h
  have newT : ∀ t ∈ ts, H t = none := fun t ht => I.hok.fresh (Nat.le_of_lt (G.above t ht))
  have newS : H s.heap.objs.size = none := I.hok.fresh (Nat.le_refl _)
  have atS : itemsH H h' s.heap.objs.size ts kvs s.heap.objs.size = some (.lst (ts.map V.ref)) := if_pos rfl
  have atT : ∀ (j : Nat) (t : Addr) (q : Key × V), ts[j]? = some t → kvs[j]? = some q → ∃ (key x : Value), RelV (kV q.1) key ∧ RelV q.2 x ∧ h'.get? t = some { cls := .type "tuple", data := .seq #[key, x] } ∧ itemsH H h' s.heap.objs.size ts kvs t = some (.frz { cls := .type "tuple", data := .seq #[key, x] } (.tup [kV q.1, q.2])) := fun j t q h1 h2 => by
    obtain ⟨key, k, x, g1, g2, g3⟩ := G.pairs j t h1
    obtain ⟨q', h3, h4, h5⟩ := LiI.paired_get kv h2
    rw [g1] at h3; cases h3
    have hne : t ≠ s.heap.objs.size := fun z => nS (by rw [← z]; exact List.mem_of_getElem? h1)
    refine ⟨key, x, ?_, h5, g3, ?_⟩
    · rw [h4]
      exact relV_key (show keyIs k key = true from g2)
    · unfold itemsH
      rw [if_neg hne, lookup_zip nd h1 h2]
      simp only [g3, Option.map_some]
  have off : ∀ b, b ∉ ts → b ≠ s.heap.objs.size → itemsH H h' s.heap.objs.size ts kvs b = H b := fun b h1 h2 => by
    unfold itemsH
    rw [if_neg h2, lookup_no h1]
  have low : ∀ b o, s.heap.get? b = some o → b ∉ ts ∧ b ≠ s.heap.objs.size := fun b o e => ⟨fun z => absurd (Heap.lt_size e) (Nat.not_lt.mpr (Nat.le_of_lt (G.above b z))), Nat.ne_of_lt (Heap.lt_size e)⟩
  have kp : ∀ b u, H b = some u → itemsH H h' s.heap.objs.size ts kvs b = some u := fun b u e => by
    rw [off b (fun z => by rw [newT b z] at e; cases e) fun z => by rw [z, newS] at e; cases e]
    exact e
  refine ⟨kp, newS, newT, nS, atS, fun j t q h1 h2 => let ⟨key, x, _, _, _, g⟩ := atT j t q h1 h2; ⟨_, g, rfl, rfl⟩, ?_⟩
  refine I.call' (ch := []) rfl ⟨fun b o q _ _ _ => old b o q, fun b o q _ _ _ => ⟨o.slots, old b o q⟩, fun b o q n _ => ?_, fun b o q _ => ⟨o, old b o q⟩, fun b xs q => kp b _ q, fun b o u q => kp b _ q, fun b ps q => ⟨#[], by rw [kp b _ q]; simp⟩⟩ (fun b u q => ?_) I.bare fun b z => (nomatch z)
  · rw [off b (low b o q).1 (low b o q).2]; exact n
  · by_cases hb : b ∈ ts
    · obtain ⟨j, hj⟩ := List.mem_iff_getElem?.mp hb
      have hjl := (List.getElem?_eq_some_iff.mp hj).1
      obtain ⟨key, x, r1, r2, g1, g2⟩ := atT j b _ hj (List.getElem?_eq_getElem (by omega))
      rw [g2] at q; cases q
      exact ⟨g1, by show 2 ≤ sizeLine; decide, [key, x], .cons r1 (.cons r2 .nil), ⟨_, g1, rfl, _, rfl⟩⟩
    · by_cases hc : b = s.heap.objs.size
      · rw [hc] at q ⊢
        rw [atS] at q; cases q
        refine ⟨by rw [List.length_map]; omega, acc.toList, n, by rw [hacc]; exact LiI.vals_refs ts, ?_⟩
        rw [Array.toArray_toList]; exact hS
      · rw [off b hb hc] at q
        exact (I.hok b u q).stay (fun d o _ z => old d o z) (fun d z => kp d _ z) fun d ys z => kp d _ z
/-- list(e.items()), the pairs with their objects -/
def rItemsF : V → Hp → VK → Prop := fun x H Q => ∃ (d : Addr) (kvs : List (Key × V)), x = .ref d ∧ H d = some (.dK kvs) ∧
  ∀ (H' : Hp) (p : Addr) (ts : List Addr), (∀ b o, H b = some o → H' b = some o) → H p = none → (∀ t ∈ ts, H t = none) → p ∉ ts → ts.length = kvs.length → H' p = some (.lst (ts.map V.ref)) →
    (∀ (j : Nat) (t : Addr) (q : Key × V), ts[j]? = some t → kvs[j]? = some q → ∃ o : Obj, H' t = some (.frz o (.tup [kV q.1, q.2])) ∧ o.cls = .type "tuple" ∧ o.dict = none) → Q (.ref p) H'
theorem pe_listItemsF {e : Expr} {te : TE} {p apos cpos pos : Pos} (calm : X.calm = true) (he : PE X e te) (hm : X.mg "list" = none) (hg : Gl X "list" := by rfl)
    (hbase : attributeBase e "items" X.env (eval e X.env) = eval e X.env := by rfl) (hline : (apos.endLine == cpos.line) = true := by rfl)
    (hs : starEach [.Call (.Attribute e "items" apos) [] [] cpos] X.env = (false, eval (.Call (.Attribute e "items" apos) [] [] cpos) X.env) :: starEach [] X.env := by rfl) :
    PE X (.Call (.Name "list" p) [.Call (.Attribute e "items" apos) [] [] cpos] [] pos) (fun sg H Q => te sg H fun x H1 => rItemsF x H1 Q) := by
  constructor
  intro pins s sg H Q I hq
  apply wpAny_Call_Name_kw
  apply ld_blt I hg hm (show bootBuiltins "list" = some (.type "list") by decide +kernel)
  refine PyProof.Rows.callWith_type1 ?items hs rfl
  rw [hs]
  show wpAny _ _ (spliced ((false, eval (.Call (.Attribute e "items" apos) [] [] cpos) X.env) :: backTo pos (starEach [] X.env))) _ _ s
  apply Calls.spliced_cons
  refine wpAny_Call_method (T := "dict") (id := "dict.items") hbase rfl hline F.plainAttrs_dict F.slot_dict_items F.type_dict_items (thn (he.run pins s sg H _ I hq) ?_)
  rintro u s1 ⟨x, H1, I1, rx, d, kvs, rfl, hd, q⟩
  obtain rfl : u = Value.ref d := rx
  obtain ⟨hz, low, vs, kv, hdo⟩ := I1.hok d _ hd
  obtain ⟨ep, hat⟩ := hdo.dictAt
  have lk : kvs.length = vs.length := Paired.length kv
  have kept : ∀ b ob, s1.heap.get? b = some ob → (s1.heap.push { cls := .type "dict_items", data := .fields #[.ref d] }).get? b = some ob := fun b ob z => Heap.get?_push_of_some _ z
  have I2 := I1.kept (t' := s1.toks) kept
  refine ⟨hdo.typeIs, hdo.mapOf.noDict, ?_⟩
  show wpAny _ _ (callWith cpos (.builtin "dict.items") [.ref d] [] []) _ X.xe s1
  refine method_meetsIn F.slot_dict_items F.entry_dict_items rfl (PySem.evalArgs_none ?_)
  refine ⟨rfl, hdo.typeIs, F.args_dict_items_1 _, _, meets_dict_items (mixKind X.prog X.w) d low, ⟨vs, hdo⟩, Calls.spliced_nil ?_⟩
  refine PySem.W.kdx_call (knd := mixKind X.prog X.w) (kvs := vs) (ep := ep) (I1.ok.hd calm) ⟨_, Heap.get?_push_size _ rfl, rfl, rfl⟩ (hat.push _) (by omega) ?_
  intro h' tk acc c ts old hS hl G hacc
  obtain ⟨k1, k2, k3, k4, k5, k6, J⟩ := items_laidF (tk := tk) I2 hz kv old hS hl G hacc
  exact ⟨.ref _, _, J, rfl, q _ _ ts k1 k2 k3 k4 (by omega) k5 k6⟩
end
section
variable {K : PySem.W.Frag} {ph : Ph} {S : Sto} {H H2 : Hp}
/-- nothing that was tracked is otherwise -/
theorem ext_keep (s : Sim K ph S H) (k : ∀ b o, H b = some o → H2 b = some o) : Ext ph S H ph S H2 :=
  ⟨⟨Nat.le_refl _, fun _ _ => rfl, fun a o e t n => ⟨k a o e, n⟩⟩, rfl, fun r hr => by
    obtain ⟨⟨xs, e⟩, _⟩ := s.rsv r hr
    rw [e, k r _ e]⟩
theorem sim_keep (s : Sim K ph S H) (k : ∀ b o, H b = some o → H2 b = some o) : Sim K ph S H2 :=
  ⟨s.lt, s.inj, fun n o e => (s.ok n o e).ext (ext_keep s k) (by
    obtain ⟨u, h⟩ := (s.ok n o e).there
    rw [h, k _ _ h]), fun r hr => by
    obtain ⟨⟨xs, e⟩, h⟩ := s.rsv r hr
    exact ⟨⟨xs, k _ _ e⟩, h⟩⟩
def pairsKD (ks : List Key) (ds : List D) : List D := (ks.zip ds).map fun p => D.tup [unkey p.1, p.2]
theorem pairsKD_rep {ds : List D} {kvs : List (Key × V)} {ts : List Addr} (r : RepL K ph S H2 ds (kvs.map (·.2))) (hl : ts.length = kvs.length) (hn : ∀ t ∈ ts, ¬ Own ph S t)
    (h : ∀ (j : Nat) (t : Addr) (q : Key × V), ts[j]? = some t → kvs[j]? = some q → ∃ o : Obj, H2 t = some (.frz o (.tup [kV q.1, q.2])) ∧ o.cls = .type "tuple" ∧ o.dict = none) :
    RepL K ph S H2 (pairsKD (kvs.map (·.1)) ds) (ts.map V.ref) := by
  have hd : ds.length = kvs.length := by
    have := r.len
    rw [List.length_map] at this
    exact this.symm
  refine RepL.of_get ?_ fun i d x e1 e2 => ?_
  · unfold pairsKD
    rw [List.length_map, List.length_map, List.length_zip, List.length_map]
    omega
  · unfold pairsKD at e1
    rw [List.getElem?_map] at e1 e2
    cases hz : ((kvs.map (·.1)).zip ds)[i]? with
    | none => rw [hz] at e1; cases e1
    | some p =>
      rw [hz] at e1; cases e1
      obtain ⟨g1, g2⟩ := List.getElem?_zip_eq_some.mp hz
      rw [List.getElem?_map] at g1
      cases hk : kvs[i]? with
      | none => rw [hk] at g1; cases g1
      | some q =>
        rw [hk] at g1
        have g1 : q.1 = p.1 := Option.some.inj g1
        cases ht : ts[i]? with
        | none => rw [ht] at e2; cases e2
        | some t =>
          rw [ht] at e2; cases e2
          obtain ⟨o, h1, h2, h3⟩ := h i t q ht hk
          obtain ⟨v, g3, g4⟩ := r.get g2
          rw [List.getElem?_map, hk] at g3
          cases g3
          rw [Rep]
          refine ⟨t, _, rfl, .inl ⟨⟨o, h1, h2, h3⟩, hn t (List.mem_of_getElem? ht)⟩, .cons ?_ (.cons g4 .nil)⟩
          rw [← g1]
          exact unkey_rep q.1
end
def itemsDM (d : D) : M D := fun S => match d with
  | .dic ks ds => some (.lst (pairsKD ks ds), S)
  | .ref n => match S.ob n with
    | some (.dic ks ds) => some (.lst (pairsKD ks ds), S)
    | _ => none
  | _ => none
theorem e_items {X : Cx} {e : Expr} {me : EM D} {p apos cpos pos : Pos} (hm : X.mg "list" = none) (he : PE X e (rdE X.K me)) (calm : X.calm = true := by rfl) (hg : Gl X "list" := by rfl)
    (hbase : attributeBase e "items" X.env (eval e X.env) = eval e X.env := by rfl) (hline : (apos.endLine == cpos.line) = true := by rfl)
    (hs : starEach [.Call (.Attribute e "items" apos) [] [] cpos] X.env = (false, eval (.Call (.Attribute e "items" apos) [] [] cpos) X.env) :: starEach [] X.env := by rfl) :
    PE X (.Call (.Name "list" p) [.Call (.Attribute e "items" apos) [] [] cpos] [] pos) (rdE X.K (mUn itemsDM me)) :=
  PE.weak (pe_listItemsF calm he hm hg hbase hline hs) fun sg H Q h => by
    obtain ⟨ph, S, rho, d, S', s, en, e, post⟩ := h
    obtain ⟨dx, S1, e1, e2⟩ := bnd_inv e
    refine ⟨ph, S, rho, dx, S1, s, en, e1, fun ph1 H1 x E1 s1 r1 => ?_⟩
    have go : ∀ (a : Addr) (kvs : List (Key × V)) (ds : List D), H1 a = some (.dK kvs) → RepL X.K ph1 S1 H1 ds (kvs.map (·.2)) → d = .lst (pairsKD (kvs.map (·.1)) ds) → S' = S1 → rItemsF (.ref a) H1 Q := fun a kvs ds h1 h2 h3 h4 => by
      subst h3 h4
      refine ⟨a, kvs, rfl, h1, fun H' p ts k1 k2 k3 k4 k5 k6 k7 => ?_⟩
      have E := ext_keep s1 k1
      refine post ph1 H' _ (E1.trans E) (sim_keep s1 k1) ?_
      rw [Rep]
      exact ⟨p, _, rfl, ⟨k6, s1.fresh k2⟩, pairsKD_rep (h2.ext E) k5 (fun t ht => s1.fresh (k3 t ht)) k7⟩
    unfold itemsDM at e2
    split at e2
    · rename_i ks ds
      cases e2
      obtain ⟨a, kvs, rfl, h1, rfl, h3⟩ := r1.dicE
      exact go a kvs ds h1.1 h3 rfl rfl
    · rename_i n
      split at e2
      · rename_i ks ds hd
        cases e2
        obtain ⟨_, rfl⟩ := r1.refE
        obtain ⟨kvs, h1, rfl, h3⟩ := s1.ok n _ hd
        exact go _ kvs ds h1 h3 rfl rfl
      · cases e2
    · cases e2
/-! ### dict(pairs) -/
def kvOf : D → Option (Key × D)
  | .tup [k, v] => (keyD k).map fun k => (k, v)
  | _ => none
def kvsOf : List D → Option (List (Key × D))
  | [] => some []
  | d :: ds => (kvOf d).bind fun p => (kvsOf ds).map (p :: ·)
def foldPs (l : List (Key × D)) : List Key × List D := l.foldl (fun acc p => putPs acc.1 acc.2 p.1 p.2) ([], [])
def dictPM (as : List D) : M D := fun S => match as with
  | [d] => match (itemsL d S).bind kvsOf with
    | some l => some (.dic (foldPs l).1 (foldPs l).2, S)
    | none => none
  | _ => none
section
variable {K : PySem.W.Frag} {ph : Ph} {S : Sto} {H : Hp}
theorem putVs_nd : ∀ {kvs : List (Key × V)} {k : Key} {v : V}, (kvs.map (·.1)).Nodup → ((putVs kvs k v).map (·.1)).Nodup ∧ ∀ j, j ∈ (putVs kvs k v).map (·.1) → j = k ∨ j ∈ kvs.map (·.1)
  | [], k, v, _ => ⟨by simp [putVs], fun j hj => .inl (by simpa [putVs] using hj)⟩
  | kv :: kvs, k, v, nd => by
    rw [List.map_cons, List.nodup_cons] at nd
    have ih := putVs_nd (k := k) (v := v) nd.2
    by_cases hk : kv.1 = k
    · have e : putVs (kv :: kvs) k v = (kv.1, v) :: kvs := if_pos hk
      rw [e, List.map_cons]
      exact ⟨List.nodup_cons.mpr nd, fun j hj => (List.mem_cons.mp hj).elim (fun z => .inl (z.trans hk)) fun z => .inr (List.mem_cons_of_mem _ z)⟩
    · have e : putVs (kv :: kvs) k v = kv :: putVs kvs k v := if_neg hk
      rw [e, List.map_cons]
      refine ⟨List.nodup_cons.mpr ⟨fun z => ?_, ih.1⟩, fun j hj => ?_⟩
      · rcases ih.2 _ z with z | z
        · exact hk z
        · exact nd.1 z
      · rcases List.mem_cons.mp hj with z | z
        · exact .inr (by rw [z]; exact List.mem_cons_self)
        · exact (ih.2 j z).imp id fun z => List.mem_cons_of_mem _ z
theorem merge_rep : ∀ {l : List (Key × D)} {kvs acc : List (Key × V)} {ks : List Key} {ds : List D}, Paired (fun (kv : Key × V) (p : Key × D) => kv.1 = p.1 ∧ Rep K ph S H p.2 kv.2) kvs l → (acc.map (·.1)).Nodup → acc.map (·.1) = ks → RepL K ph S H ds (acc.map (·.2)) →
    (mergeK acc kvs).map (·.1) = (l.foldl (fun acc p => putPs acc.1 acc.2 p.1 p.2) (ks, ds)).1 ∧ RepL K ph S H (l.foldl (fun acc p => putPs acc.1 acc.2 p.1 p.2) (ks, ds)).2 ((mergeK acc kvs).map (·.2))
  | [], _, acc, ks, ds, .nil, nd, e, r => ⟨e, r⟩
  | p :: l, _, acc, ks, ds, .cons (a := kv) (l₁ := kvs) h t, nd, e, r => by
    subst e
    have pe := putVs_rep (k := kv.1) (v := kv.2) r h.2
    have nd2 := putVs_nd (k := kv.1) (v := kv.2) nd
    have ih := merge_rep (acc := putVs acc kv.1 kv.2) t nd2.1 pe.1 pe.2
    have e1 : mergeK acc (kv :: kvs) = mergeK (putVs acc kv.1 kv.2) kvs := by
      show mergeK (putK acc kv.1 kv.2) kvs = _
      rw [putVs_eq nd]
    rw [e1, List.foldl_cons]
    rw [h.1] at ih
    have e2 : ((putPs (acc.map (·.1)) ds p.1 p.2).1, (putPs (acc.map (·.1)) ds p.1 p.2).2) = putPs (acc.map (·.1)) ds p.1 p.2 := rfl
    rw [e2] at ih
    rw [h.1]
    exact ih
theorem kvs_rep : ∀ {es : List D} {xs : List V} {l : List (Key × D)}, RepL K ph S H es xs → kvsOf es = some l → ∃ (ps : List Addr) (kvs : List (Key × V)), xs = ps.map V.ref ∧ Paired (fun p kv => SqT K H p [kV kv.1, kv.2]) ps kvs ∧ Paired (fun (kv : Key × V) (p : Key × D) => kv.1 = p.1 ∧ Rep K ph S H p.2 kv.2) kvs l
  | [], xs, l, r, h => by cases h; rw [r.nil_inv]; exact ⟨[], [], rfl, .nil, .nil⟩
  | d :: es, xs, l, r, h => by
    obtain ⟨x, xr, rfl, r1, r2⟩ := r.cons_inv
    unfold kvsOf at h
    cases hk : kvOf d with
    | none => rw [hk] at h; cases h
    | some p =>
      rw [hk] at h
      cases hl : kvsOf es with
      | none => rw [hl] at h; cases h
      | some l' =>
        rw [hl] at h; cases h
        obtain ⟨ps, kvs, rfl, p1, p2⟩ := kvs_rep r2 hl
        unfold kvOf at hk
        split at hk
        · rename_i dk dv
          cases hkd : keyD dk with
          | none => rw [hkd] at hk; cases hk
          | some k =>
            rw [hkd] at hk; cases hk
            obtain ⟨a, ys, rfl, h1, h2⟩ := r1.tupE
            obtain ⟨y, z, rfl, h3, h4⟩ := RepL.two h2
            obtain rfl := keyD_of h3 hkd
            exact ⟨a :: ps, (k, z) :: kvs, rfl, .cons h1.sq p1, .cons ⟨rfl, h4⟩ p2⟩
        · cases hk
theorem c_dictP {X : Cx} : CaM X.K (fun xs H Q => ∃ (a : Addr) (ps : List Addr) (kvs : List (Key × V)), xs = [.ref a] ∧ SqL X.K H a (ps.map V.ref) ∧ Paired (fun p kv => SqT X.K H p [kV kv.1, kv.2]) ps kvs ∧ ∀ p, H p = none → Q (.ref p) (upd H p (.dK (mergeK [] kvs)))) dictPM := by
  intro ph S H xs dxs d S' Q s rx e post
  unfold dictPM at e
  split at e
  · rename_i dd
    split at e
    · rename_i l hl
      cases e
      obtain ⟨es, h1, h2⟩ := Option.bind_eq_some_iff.mp hl
      obtain ⟨x, rfl, r⟩ := rx.one
      obtain ⟨a, ys, rfl, h3, h4⟩ := itemsL_of s r h1
      obtain ⟨ps, kvs, rfl, p1, p2⟩ := kvs_rep h4 h2
      refine ⟨a, ps, kvs, rfl, .inl (.inl h3), p1, fun p hp => ?_⟩
      have m := merge_rep (acc := []) p2 List.nodup_nil rfl .nil
      refine post ph _ _ (Ext.tree s hp) (s.tree hp) ?_
      rw [Rep]
      exact ⟨p, _, rfl, ⟨upd_same, s.fresh hp⟩, m.1, m.2.ext (Ext.tree s hp)⟩
    · cases e
  · cases e
end
end Mn

set_option maxRecDepth 100000
set_option maxHeartbeats 1000000
/-! Mn: an int less a truth. -/
namespace Mn
open PySem PySem.Spec PyProof.Rows L2
theorem refl_int_bool_sub : reflectedDiffers (.type "int") (.type "bool") "sub" = pure false := by
  first
    | rfl
    | kernel_rfl
    | (unfold reflectedDiffers; kernel_rfl)
theorem op_sub_ib {X : Cx} : OpR X (binaryOp .Sub) (fun x y H Q => ∃ i k, x = .int i ∧ y = .bl k ∧ Q (.int (i - b2i k)) H) := by
  intro pins s sg H x y v u Q I rx ry h
  obtain ⟨i, k, rfl, rfl, q⟩ := h
  obtain ⟨t, rfl⟩ := rx
  cases ry
  exact binaryOp_sub_gives (op := .Sub) (T := "int") (U := "bool") (by decide) (typeIs_int s i t) rfl PySem.F.fills_int_sub PySem.F.fills_bool_sub isSubtype_bool_int refl_int_bool_sub PySem.F.slot_int_sub PySem.F.entry_int_sub (PySem.F.args_int_sub_2 _ _)
    (AutoIntG7.int___sub___int_bool_0 i t k) trivial ⟨.int (i - b2i k), H, I.tok _, ⟨_, rfl⟩, q⟩
def subBM (dx dy : D) : M D := fun S => match dx, dy with
  | .int i, .int j => some (.int (i - j), S)
  | .int i, .bl b => some (.int (i - b2i b), S)
  | _, _ => none
theorem op_subB {X : Cx} : OpR X (binaryOp .Sub) (fun x y H Q => rI0 (fun i j => .int (i - j)) x y H Q ∨ ∃ i k, x = .int i ∧ y = .bl k ∧ Q (.int (i - b2i k)) H) := op_sub.or op_sub_ib
theorem m_subB {K : PySem.W.Frag} : OpM K (fun x y H Q => rI0 (fun i j => .int (i - j)) x y H Q ∨ ∃ i k, x = .int i ∧ y = .bl k ∧ Q (.int (i - b2i k)) H) subBM := by
  intro ph S H x y dx dy d S' Q s rx ry e post
  unfold subBM at e
  split at e
  · cases e
    obtain rfl := rx.intE
    obtain rfl := ry.intE
    exact .inl ⟨_, _, rfl, rfl, post.now s (by rw [Rep])⟩
  · cases e
    obtain rfl := rx.intE
    obtain rfl := ry.blE
    exact .inr ⟨_, _, rfl, rfl, post.now s (by rw [Rep])⟩
  · cases e
end Mn

set_option maxRecDepth 100000
set_option maxHeartbeats 1000000
/-! Mn: repr of data that hold dicts. -/
namespace Mn
open PySem PySem.Spec PyProof.Rows L2
def keyP : Key → PyData
  | .inl i => .int i
  | .inr x => .str x
mutual
/-- the data as they are shown, dicts among them -/
def pdR : D → Option PyData
  | .non => some .none
  | .bl b => some (.bool b)
  | .int i => some (.int i)
  | .str x => some (.str x)
  | .tup ds => (pdRL ds).map .tuple
  | .lst ds => (pdRL ds).map .list
  | .rol ds => (pdRL ds).map .list
  | .dic ks ds => (pdRL ds).map fun ps => .dict ((ks.map keyP).zip ps)
  | .ref _ => none
def pdRL : List D → Option (List PyData)
  | [] => some []
  | d :: ds => (pdR d).bind fun p => (pdRL ds).map (p :: ·)
end
section
variable {X : Cx} {pins : List (Addr × Obj)} {sg : L2.St} {ph : Ph} {S : Sto} {H : Hp} {s : Shared}
theorem key_reads {h : Heap} {k : Key} {u : Value} (hk : keyIs k u = true) : Reads h u (keyP k) [] := by
  have r := relV_key hk
  cases k with
  | inl i => obtain ⟨t, rfl⟩ := r; exact Reads.int i t
  | inr x => obtain ⟨t, rfl⟩ := r; exact Reads.str x t
theorem vals_kv : ∀ {kvs : List (Key × V)} {vs : List (Key × Value)}, KV kvs vs → Vals (kvs.map (·.2)) (vs.map (·.2))
  | [], _, .nil => .nil
  | _ :: _, _, .cons h1 h2 => .cons h1.2 (vals_kv h2)
theorem pdRL_len : ∀ {ds : List D} {ps : List PyData}, pdRL ds = some ps → ps.length = ds.length
  | [], ps, h => by rw [pdRL] at h; cases h; rfl
  | d :: ds, ps, h => by
    rw [pdRL] at h
    cases hp : pdR d with
    | none => rw [hp] at h; cases h
    | some p =>
      rw [hp] at h
      cases hq : pdRL ds with
      | none => rw [hq] at h; cases h
      | some qs => rw [hq] at h; cases h; rw [List.length_cons, List.length_cons, pdRL_len hq]
theorem pairs_of {h : Heap} {sm : Addr} : ∀ {kvs : List (Key × V)} {vs : List (Key × Value)} {ps : List PyData}, KV kvs vs → (∀ us, Vals (kvs.map (·.2)) us → ∃ as, ReadsAll h us ps as ∧ sm ∉ as) → ps.length = kvs.length → ∃ bs, PyProof.V.PairsRead h keyP vs ((kvs.map (·.1)).map keyP |>.zip ps) bs ∧ sm ∉ bs
  | [], _, ps, .nil, f, hl => by
    exact ⟨[], .nil, by simp⟩
  | kv :: kvs, _, [], .cons (b := q) (l₂ := vs) h1 h2, f, hl => by cases hl
  | kv :: kvs, _, p :: ps, .cons (b := q) (l₂ := vs) h1 h2, f, hl => by
    obtain ⟨as, ra, na⟩ := f (q.2 :: vs.map (·.2)) (.cons h1.2 (vals_kv h2))
    cases ra with
    | cons ra rb =>
      rename_i as1 as2
      obtain ⟨bs, rp, nb⟩ := pairs_of (h := h) (sm := sm) (ps := ps) h2 (fun us hus => by
        obtain ⟨as, ra, na⟩ := f (q.2 :: us) (.cons h1.2 hus)
        cases ra with
        | cons ra rb => exact ⟨_, rb, fun z => na (List.mem_append_right _ z)⟩) (by simpa using hl)
      have e : q = (kv.1, q.2) := by rw [h1.1]
      rw [e, List.map_cons, List.map_cons, List.zip_cons_cons]
      exact ⟨as1 ++ bs, .cons ra rp, fun z => (List.mem_append.mp z).elim (fun z => na (List.mem_append_left _ z)) nb⟩
mutual
theorem reads_of (I : Inv X pins sg H s) (hsm : ∀ o, s.heap.get? sysModules = some o → ∃ es ep, o.data = .dict es ep) : ∀ (d : D) (v : V) (p : PyData) (u : Value), Rep X.K ph S H d v → pdR d = some p → RelV v u → ∃ as, Reads s.heap u p as ∧ sysModules ∉ as
  | .non, v, p, u, r, h, e => by rw [Rep] at r; rw [pdR] at h; cases h; subst r; obtain rfl : u = Value.none := e; exact ⟨_, Reads.none, by simp⟩
  | .bl b, v, p, u, r, h, e => by rw [Rep] at r; rw [pdR] at h; cases h; subst r; obtain rfl : u = Value.bool b := e; exact ⟨_, Reads.bool b, by simp⟩
  | .int b, v, p, u, r, h, e => by rw [Rep] at r; rw [pdR] at h; cases h; subst r; obtain ⟨t, rfl⟩ := e; exact ⟨_, Reads.int b t, by simp⟩
  | .str b, v, p, u, r, h, e => by rw [Rep] at r; rw [pdR] at h; cases h; subst r; obtain ⟨t, rfl⟩ := e; exact ⟨_, Reads.str b t, by simp⟩
  | .tup ds, v, p, u, r, h, e => by
    rw [Rep] at r; rw [pdR] at h
    obtain ⟨a, xs, rfl, h1, h2⟩ := r
    obtain rfl : u = Value.ref a := e
    cases hp : pdRL ds with
    | none => rw [hp] at h; cases h
    | some ps =>
      rw [hp] at h; cases h
      obtain ⟨its, rv, ⟨o, ho, hc, n, hd⟩, _⟩ := I.tuple h1.sq
      obtain ⟨as, ra, na⟩ := reads_ofL I hsm ds xs ps its h2 hp rv
      exact ⟨as, Reads.tuple ho hc hd (by simpa using ra), na⟩
  | .lst ds, v, p, u, r, h, e => by
    rw [Rep] at r; rw [pdR] at h
    obtain ⟨a, xs, rfl, h1, h2⟩ := r
    obtain rfl : u = Value.ref a := e
    cases hp : pdRL ds with
    | none => rw [hp] at h; cases h
    | some ps =>
      rw [hp] at h; cases h
      obtain ⟨its, rv, pl, _⟩ := I.list (.inl (.inl h1.1))
      obtain ⟨o, ho, hc, n, hd⟩ := pl.isList
      obtain ⟨as, ra, na⟩ := reads_ofL I hsm ds xs ps its h2 hp rv
      refine ⟨a :: as, Reads.list ho hc hd (by simpa using ra), fun z => ?_⟩
      rcases List.mem_cons.mp z with z | z
      · rw [← z] at ho
        obtain ⟨es, ep, z⟩ := hsm o ho
        rw [hd] at z; cases z
      · exact na z
  | .rol ds, v, p, u, r, h, e => by
    rw [Rep] at r; rw [pdR] at h
    obtain ⟨a, xs, rfl, h1, h2⟩ := r
    obtain rfl : u = Value.ref a := e
    cases hp : pdRL ds with
    | none => rw [hp] at h; cases h
    | some ps =>
      rw [hp] at h; cases h
      obtain ⟨its, rv, pl, _⟩ := I.list h1.sq
      obtain ⟨o, ho, hc, n, hd⟩ := pl.isList
      obtain ⟨as, ra, na⟩ := reads_ofL I hsm ds xs ps its h2 hp rv
      refine ⟨a :: as, Reads.list ho hc hd (by simpa using ra), fun z => ?_⟩
      rcases List.mem_cons.mp z with z | z
      · rw [← z] at ho
        obtain ⟨es, ep, z⟩ := hsm o ho
        rw [hd] at z; cases z
      · exact na z
  | .dic ks ds, v, p, u, r, h, e => by
    rw [Rep] at r; rw [pdR] at h
    obtain ⟨a, kvs, rfl, h1, rfl, h2⟩ := r
    obtain rfl : u = Value.ref a := e
    cases hp : pdRL ds with
    | none => rw [hp] at h; cases h
    | some ps =>
      rw [hp] at h; cases h
      obtain ⟨_, low, vs, kv, hd⟩ := I.hok a _ h1.1
      obtain ⟨bs, rp, nb⟩ := pairs_of (h := s.heap) (sm := sysModules) kv (fun us ru => reads_ofL I hsm ds _ ps us h2 hp ru) (by rw [pdRL_len hp, ← h2.len, List.length_map])
      refine ⟨a :: bs, PyProof.V.reads_dictOf (fun k key hk => key_reads hk) hd rp, fun z => ?_⟩
      rcases List.mem_cons.mp z with z | z
      · rw [← z] at low
        exact absurd low (by decide)
      · exact nb z
  | .ref _, v, p, u, r, h, e => by rw [pdR] at h; cases h
theorem reads_ofL (I : Inv X pins sg H s) (hsm : ∀ o, s.heap.get? sysModules = some o → ∃ es ep, o.data = .dict es ep) : ∀ (ds : List D) (xs : List V) (ps : List PyData) (us : List Value), RepL X.K ph S H ds xs → pdRL ds = some ps → Vals xs us → ∃ as, ReadsAll s.heap us ps as ∧ sysModules ∉ as
  | [], xs, ps, us, r, h, e => by rw [r.nil_inv] at e; rw [pdRL] at h; cases h; cases e; exact ⟨[], .nil, by simp⟩
  | d :: ds, xs, ps, us, r, h, e => by
    obtain ⟨x, xr, rfl, r1, r2⟩ := r.cons_inv
    rw [pdRL] at h
    cases hp : pdR d with
    | none => rw [hp] at h; cases h
    | some p =>
      rw [hp] at h
      cases hq : pdRL ds with
      | none => rw [hq] at h; cases h
      | some qs =>
        rw [hq] at h; cases h
        cases e with
        | cons e1 e2 =>
          obtain ⟨as, h1, n1⟩ := reads_of I hsm d x p _ r1 hp e1
          obtain ⟨bs, h2, n2⟩ := reads_ofL I hsm ds xr qs _ r2 hq e2
          exact ⟨as ++ bs, .cons h1 h2, fun z => (List.mem_append.mp z).elim n1 n2⟩
end
end
/-! ### the rule -/
def refD : D → Bool
  | .tup _ => true
  | .lst _ => true
  | .dic _ _ => true
  | _ => false
def rReprR (K : PySem.W.Frag) : List V → Hp → VK → Prop := fun xs H Q => rRepr K xs H Q ∨ ∃ ph S x d p, xs = [x] ∧ Rep K ph S H d x ∧ refD d = true ∧ pdR d = some p ∧ p.showable = true ∧ p.depth ≤ 100 ∧ p.shown.length ≤ sizeLine ∧ Q (.str p.shown) H
theorem cr_reprR {X : Cx} (hsm : ∃ mm, X.base.Ns sysModules mm) (hg : X.A.guards = some []) (hu : X.A.units + 200 < cLine) : CallR X (.builtin "repr") (rReprR X.K) := by
  intro pins s sg H xs us Q I r h
  rcases h with h | ⟨ph, S, x, d, p, rfl, rd, hr, hp, hs, hdp, hz, q⟩
  · exact cr_repr hg hu pins s sg H xs us Q I r h
  · obtain ⟨u, rfl, ru⟩ := vals1 r
    obtain ⟨as, rs, na⟩ := reads_of I (fun o ho => by
      obtain ⟨mm, o', es, ep, e, dd, _⟩ := hsm
      have e2 := (I.bk sysModules o' e)
      rw [ho] at e2; cases e2
      exact ⟨es, ep, dd⟩) d x p u rd hp ru
    have fin : ∀ h' t tk, (∀ b o, s.heap.get? b = some o → h'.get? b = some o) → EP X pins sg Q (.str p.shown t) { s with heap := h', toks := tk } := fun h' t tk k =>
      ⟨.str p.shown, H, I.kept k, ⟨t, rfl⟩, q⟩
    cases d with
    | tup ds =>
      rw [Rep] at rd
      obtain ⟨a, xs, rfl, _⟩ := rd
      cases ru
      exact repr_of_reads' rs hs (fun _ => na) hg (by omega) (fun _ _ e => e) fin hz
    | lst ds =>
      rw [Rep] at rd
      obtain ⟨a, xs, rfl, _⟩ := rd
      cases ru
      exact repr_of_reads' rs hs (fun _ => na) hg (by omega) (fun _ _ e => e) fin hz
    | dic ks ds =>
      rw [Rep] at rd
      obtain ⟨a, xs, rfl, _⟩ := rd
      cases ru
      exact repr_of_reads' rs hs (fun _ => na) hg (by omega) (fun _ _ e => e) fin hz
    | _ => cases hr
/-- repr of trees in which dicts stand -/
def reprRM (ds : List D) : M D := fun S => match ds with
  | [d] => if refD d = true then (match pdR d with
    | some p => if p.showable = true ∧ p.depth ≤ 100 ∧ p.shown.length ≤ lim then some (.str p.shown, S) else none
    | none => none) else none
  | _ => none
theorem c_reprR {K : PySem.W.Frag} : CaM K (rReprR K) reprRM := by
  intro ph S H xs dxs d S' Q s rx e post
  unfold reprRM at e
  split at e
  · split at e
    · rename_i hr
      split at e
      · rename_i p hp
        split at e
        · rename_i hc
          cases e
          obtain ⟨x, rfl, r⟩ := rx.one
          exact .inr ⟨ph, S, x, _, p, rfl, r, hr, hp, hc.1, hc.2.1, hc.2.2, post.now s rstr⟩
        · cases e
      · cases e
    · cases e
  · cases e
theorem tab_mk {K : PySem.W.Frag} {x : Str} {f c P : Addr} {oc toc : Value} {od tod : Option Addr} {sl tsl : Array (Option Value)} {fd : FuncData} {vs : Array Value} (a : PySem.W.nsIn K mainGlobals x = some (some (.ref f))) (l : K.lookup f = some ⟨oc, od, .func fd, sl⟩) (q : fd.code = .ref c)
    (t : K.lookup c = some ⟨toc, tod, .fields vs, tsl⟩) (v : (vs[11]? : Option Value) = some (.ref P)) : PySem.W.tabIn K x = some (c, P) := by
  unfold PySem.W.tabIn
  simp only [a, l, q, t, v]
end Mn

set_option maxRecDepth 100000
set_option maxHeartbeats 1000000
/-! Mn: t[::-1] of tuples, == with (), str of ints, repr of anything. -/
namespace Mn
open PySem PySem.Spec PyProof.Rows L2
/-! ### t[::-1] -/
section
variable {prog : Program} {w : World} {A : Around} {E : Value → Shared → Prop} {s : Shared}
theorem rev_adjust (n : Nat) : Builtin.Slice.sliceAdjust none none (-1) (n : Int) = ((n : Int) - 1, -1) := by
  unfold Builtin.Slice.sliceAdjust
  simp
theorem rev_places (n : Nat) : Builtin.Slice.slicePlaces ((n : Int) - 1) (-1) (-1) = n := by
  unfold Builtin.Slice.slicePlaces
  rw [if_neg (by decide)]
  by_cases h : (n : Int) - 1 > -1
  · rw [if_pos h]
    have : ((n : Int) - 1 - -1 - 1) / (- -1) + 1 = (n : Int) := by rw [show (- -1 : Int) = 1 by decide, Int.ediv_one]; omega
    rw [this, Int.toNat_natCast]
  · rw [if_neg h]
    have : n = 0 := by omega
    rw [this]; rfl
theorem sliceApplied_rev {sl : Addr} {vl vu vs : Value} {n : Nat} {Q : Int × Int × Nat → Shared → Prop} (hs : s.heap.IsSliceOf sl vl vu vs) (pl : IsPart vl none) (pu : IsPart vu none) (ps : IsPart vs (some (-1)))
    (h : Q ((n : Int) - 1, -1, n) s) : wpAny (model prog w) A (Builtin.Slice.sliceApplied (.ref sl) (pure (n : Int))) Q E s := by
  obtain ⟨os, hos, hcs, hds⟩ := id hs
  unfold Builtin.Slice.sliceApplied Builtin.Slice.sliceFields
  refine wpAny_bind (wpAny_bind (wpAny_field hos hds (x := vl) rfl (wpAny_bind (wpAny_field hos hds (x := vu) rfl (wpAny_bind (wpAny_field hos hds (x := vs) rfl (wpAny_pure ?_)))))))
  refine wpAny_bind (HT.slicePart_ ps ?_)
  show wpAny _ _ (if ((-1 : Int) == 0) = true then _ else _) _ _ s
  rw [if_neg (by decide)]
  refine wpAny_bind (HT.slicePart_ pl (wpAny_bind (HT.slicePart_ pu (wpAny_bind (wpAny_pure ?_)))))
  show wpAny _ _ (match Builtin.Slice.sliceAdjust none none (-1) (n : Int) with | (lo, hi) => pure (lo, (-1 : Int), Builtin.Slice.slicePlaces lo hi (-1))) _ _ s
  rw [rev_adjust n]
  show wpAny _ _ (pure ((n : Int) - 1, (-1 : Int), Builtin.Slice.slicePlaces ((n : Int) - 1) (-1) (-1))) _ _ s
  rw [rev_places]
  exact wpAny_pure h
theorem rev_pick (xs : Array Value) : ((List.range xs.size).filterMap fun (m : Nat) => xs[((xs.size : Int) - 1 + (m : Int) * (-1)).toNat]?).toArray = xs.toList.reverse.toArray := by
  have e : ((List.range xs.size).filterMap fun (m : Nat) => xs[((xs.size : Int) - 1 + (m : Int) * (-1)).toNat]?) = (List.range xs.size).filterMap fun (m : Nat) => xs[xs.size - 1 - m]? := by
    have key : ∀ l : List Nat, (∀ m ∈ l, m < xs.size) → (l.filterMap fun (m : Nat) => xs[((xs.size : Int) - 1 + (m : Int) * (-1)).toNat]?) = l.filterMap fun (m : Nat) => xs[xs.size - 1 - m]? := by
      intro l
      induction l with
      | nil => intro _; rfl
      | cons m l ih =>
        intro h
        have hm := h m List.mem_cons_self
        have : ((xs.size : Int) - 1 + (m : Int) * (-1)).toNat = xs.size - 1 - m := by omega
        rw [List.filterMap_cons, List.filterMap_cons, ih fun k hk => h k (List.mem_cons_of_mem _ hk), this]
    exact key _ fun m hm => List.mem_range.mp hm
  rw [e]
  have e2 : ((List.range xs.size).filterMap fun (m : Nat) => xs[xs.size - 1 - m]?) = ((List.range xs.size).map fun k => xs.size - 1 - k).filterMap (xs[·]?) := by
    rw [List.filterMap_map]; rfl
  rw [e2, PySem.W.krv_range, List.filterMap_reverse, PySem.W.krv_all]
theorem getItem_tuple_rev {t sl : Addr} {items : Array Value} {vl vu vs : Value} {Q : Value → Shared → Prop} (ht : IsTup s.heap t items) (hs : s.heap.IsSliceOf sl vl vu vs) (pl : IsPart vl none) (pu : IsPart vu none) (ps : IsPart vs (some (-1)))
    (h : Q (.ref s.heap.objs.size) { s with heap := s.heap.push { cls := .type "tuple", data := .seq items.toList.reverse.toArray } })
    (hsz : items.size ≤ sizeLine) : wpAny (model prog w) A (getItem (.ref t) (.ref sl)) Q E s := by
  have htake : sizeOk (.seq items.toList.reverse.toArray) := by
    show items.toList.reverse.toArray.size ≤ sizeLine
    rw [List.size_toArray, List.length_reverse, Array.length_toList]
    exact hsz
  obtain ⟨os, hos, hcs, hds⟩ := id hs
  have hTs : s.TypeIs (.ref sl) "slice" := ⟨os, hos, hcs⟩
  unfold getItem
  try with_reducible refine wpAny_holding ?_
  first | refine wpAny_bind (wpAny_pure ?_) | skip
  refine wpAny_bind (wpAny_sequenceKey ht.typeIs (by decide) ?_)
  refine wpAny_bind (wpAny_callSpecial?_slot (name := Str.ofString "__getitem__") ht.typeIs PyProof.Rows.slot_tuple_getitem
    (wpAny_call_entry PyProof.Rows.slot_tuple_getitem ht.typeIs entry_tuple_getitem ?_ (args_tuple_getitem _ _)))
  show wpAny _ _ (Builtin.Tuple.tupleItemsOf (.ref t) >>= _) _ _ s
  refine wpAny_bind (PyProof.Rows.tupleItemsOf_ ht ?_)
  refine wpAny_bind (wpAny_typeOf hTs ?_)
  rw [if_pos (by decide)]
  refine wpAny_bind (sliceApplied_rev hs pl pu ps ?_)
  have hno : ¬ (((items.size : Int) - 1 == 0 && (-1 : Int) == 1 && items.size == items.size) = true) := by
    intro q
    rw [Bool.and_eq_true, Bool.and_eq_true] at q
    exact absurd q.1.2 (by decide)
  show wpAny _ _ (if ((items.size : Int) - 1 == 0 && (-1 : Int) == 1 && items.size == items.size) = true then _ else _) _ _ s
  rw [if_neg hno, rev_pick]
  first
    | exact wpAny_bind (m := Builtin.Tuple.tupleExact _) (wpAny_newObj_type (wpAny_pure ⟨_, rfl, wpAny_pure h⟩) htake)
    | exact wpAny_bind (m := Builtin.Tuple.tupleExact _) (wpAny_newObj_type (wpAny_bind (wpAny_pure (wpAny_pure ⟨_, rfl, wpAny_pure h⟩))) htake)
    | exact wpAny_bind (wpAny_bind (m := Builtin.Tuple.tupleExact _) (wpAny_newObj_type (wpAny_pure (wpAny_pure ⟨_, rfl, wpAny_pure h⟩)) htake))
    | exact wpAny_bind (wpAny_bind (m := Builtin.Tuple.tupleExact _) (wpAny_newObj_type (wpAny_pure ⟨_, rfl, wpAny_pure h⟩) htake))
end
section
variable {X : Cx}
def tRevT (K : PySem.W.Frag) (te : TE) : TE := fun σ H Q => te σ H fun x H1 => ∃ a xs, x = .ref a ∧ SqT K H1 a xs ∧ newT H1 xs.reverse Q
theorem pe_revT {e : Expr} {te : TE} {k : Nat} {p1 p2 p3 pos : Pos} (he : PE X e te) : PE X (.Subscript e (.Slice none none (some (.UnaryOp .USub (.Constant (.int 1) k p1) p2)) p3) pos) (tRevT X.K te) := by
  refine ⟨fun pins s σ H Q I h => ?_⟩
  refine Subscript_ (thn (he.run pins s σ H _ I h) fun v s1 ⟨x, H1, I1, r1, q1⟩ => ?_)
  obtain ⟨a, xs, ex, hx, q⟩ := q1
  subst ex
  cases r1
  have hst : PO X (some (.UnaryOp .USub (.Constant (.int 1) k p1) p2)) (tPart (tUn (rU fun i => .int (-i)) (tC (.int 1)))) := po_some (pe_un un_neg pe_int)
  refine wpAny_Slice (thn (po_none.run pins s1 σ H1 (fun o H2 => o = none ∧ H2 = H1) I1 ⟨rfl, rfl⟩) fun vl s2 ⟨l, H2, I2, pl, el, e2⟩ => ?_)
  subst el e2
  refine thn (po_none.run pins s2 σ H2 (fun o H3 => o = none ∧ H3 = H2) I2 ⟨rfl, rfl⟩) fun vu s3 ⟨u, H3, I3, pu, eu, e3⟩ => ?_
  subst eu e3
  refine thn (hst.run pins s3 σ H3 (fun o H4 => o = some (-1) ∧ H4 = H3) I3 ⟨1, rfl, -1, rfl, rfl, rfl⟩) fun vs s4 ⟨o, H4, I4, ps, eo, e4⟩ => ?_
  subst eo e4
  have I5 : Inv X pins σ H4 { s4 with heap := s4.heap.push { cls := .type "slice", data := .fields #[vl, vu, vs] } } := I4.kept (t' := s4.toks) fun b ob q => Heap.get?_push_of_some _ q
  obtain ⟨its, r, ht, hz⟩ := I5.tuple hx
  have hlen := r.length
  show wpAny (model X.prog X.w) X.A (subscriptTail e (.Slice none none (some (.UnaryOp .USub (.Constant (.int 1) k p1) p2)) p3) (.ref a) (.ref s4.heap.objs.size)) (EP X pins σ Q) X.xe { s4 with heap := s4.heap.push { cls := .type "slice", data := .fields #[vl, vu, vs] } }
  refine tail_any (ops := [.ref a, .ref s4.heap.objs.size]) ht.typeIs (PyProof.Rows.slot_tuple_getitem.lookup) ?_ (by with_unfolding_all rfl)
  refine getItem_tuple_rev ht (Heap.IsSliceOf.new _ vl vu vs) pl pu ps ?_ (by rw [List.size_toArray]; omega)
  have e5 : (its.toArray).toList.reverse = its.reverse := by simp
  rw [e5]
  exact newT_ok I5 (by rw [List.length_reverse]; exact hz) r.reverse q
def revM (d : D) : M D := fun S => match d with
  | .tup ds => some (.tup ds.reverse, S)
  | _ => none
theorem RepL.rev {K : PySem.W.Frag} {ph : Ph} {S : Sto} {H : Hp} : ∀ {ds es : List D} {xs ys : List V}, RepL K ph S H ds xs → RepL K ph S H es ys → RepL K ph S H (ds.reverseAux es) (xs.reverseAux ys)
  | [], es, xs, ys, r, r2 => by rw [r.nil_inv]; exact r2
  | d :: ds, es, xs, ys, r, r2 => by
    obtain ⟨x, xr, rfl, r1, r3⟩ := r.cons_inv
    exact RepL.rev (ds := ds) (xs := xr) r3 (.cons r1 r2)
theorem e_rev {e : Expr} {ma : EM D} {k : Nat} {p1 p2 p3 pos : Pos} (he : PE X e (rdE X.K ma)) : PE X (.Subscript e (.Slice none none (some (.UnaryOp .USub (.Constant (.int 1) k p1) p2)) p3) pos) (rdE X.K (mUn revM ma)) :=
  PE.weak (pe_revT he) fun sg H Q h => by
    obtain ⟨ph, S, rho, d, S', s, en, e, post⟩ := h
    obtain ⟨a, S1, e1, e2⟩ := bnd_inv e
    refine ⟨ph, S, rho, a, S1, s, en, e1, fun ph1 H1 x E1 s1 r1 => ?_⟩
    unfold revM at e2
    split at e2
    · rename_i ds
      cases e2
      rw [Rep] at r1
      obtain ⟨b, xs, rfl, h1, h2⟩ := r1
      exact ⟨b, xs, rfl, h1.sq, new_tup s1 (RepL.rev h2 .nil) (post.of E1)⟩
    · cases e2
/-! ### == with the empty tuple -/
def rEq0 (K : PySem.W.Frag) (neg : Bool) : R2 := fun x y H Q => ∃ a b xs, x = .ref a ∧ y = .ref b ∧ SqT K H a xs ∧ SqT K H b [] ∧ Q (.bl (if neg then !xs.isEmpty else xs.isEmpty)) H
theorem op_eq0 (hu : X.A.units + 200 < cLine) : OpR X (compareOp .Eq) (rEq0 X.K false) := by
  intro pins s sg H x y v u Q I rx ry h
  obtain ⟨a, b, xs, rfl, rfl, ha, hb, q⟩ := h
  cases rx
  cases ry
  obtain ⟨its, r1, p1, _⟩ := I.tuple ha
  obtain ⟨its2, r2, p2, _⟩ := I.tuple hb
  have e2 : its2 = [] := by have := r2.length; exact List.eq_nil_of_length_eq_zero this.symm
  subst e2
  refine SeqAt.eq_tupleAt (e := fun _ => true) p1 p2 (by omega) (fun j h1 h2 => absurd h2 (by simp)) ⟨.bl _, H, I, ?_, q⟩
  have hl := r1.length
  cases its with
  | nil => cases xs with
    | nil => rfl
    | cons _ _ => simp at hl
  | cons _ _ => cases xs with
    | nil => simp at hl
    | cons _ _ => rfl
theorem op_ne0 (hu : X.A.units + 200 < cLine) : OpR X (compareOp .NotEq) (rEq0 X.K true) := by
  intro pins s sg H x y v u Q I rx ry h
  obtain ⟨a, b, xs, rfl, rfl, ha, hb, q⟩ := h
  cases rx
  cases ry
  obtain ⟨its, r1, p1, _⟩ := I.tuple ha
  obtain ⟨its2, r2, p2, _⟩ := I.tuple hb
  have e2 : its2 = [] := by have := r2.length; exact List.eq_nil_of_length_eq_zero this.symm
  subst e2
  refine SeqAt.RcNeAt.tuples (e := fun _ => true) p1 p2 (by omega) (fun j h1 h2 => absurd h2 (by simp)) _ _ _ _ ⟨.bl _, H, I, ?_, q⟩
  have hl := r1.length
  cases its with
  | nil => cases xs with
    | nil => rfl
    | cons _ _ => simp at hl
  | cons _ _ => cases xs with
    | nil => simp at hl
    | cons _ _ => rfl
def eq0M (dx dy : D) : M D := fun S => match dx, dy with
  | .tup ds, .tup [] => some (.bl ds.isEmpty, S)
  | _, _ => none
def ne0M (dx dy : D) : M D := fun S => match dx, dy with
  | .tup ds, .tup [] => some (.bl (!ds.isEmpty), S)
  | _, _ => none
theorem tup_len {K : PySem.W.Frag} {ph : Ph} {S : Sto} {H : Hp} {ds : List D} {xs : List V} (r : RepL K ph S H ds xs) : xs.isEmpty = ds.isEmpty := by
  cases ds with
  | nil => rw [r.nil_inv]; rfl
  | cons d ds => obtain ⟨x, xr, rfl, _⟩ := r.cons_inv; rfl
theorem m_eqE {K : PySem.W.Frag} : OpM K (rEq0 K false) eq0M := by
  intro ph S H x y dx dy d S' Q s rx ry e post
  unfold eq0M at e
  split at e
  · cases e
    rw [Rep] at rx ry
    obtain ⟨a, xs, rfl, h1, h2⟩ := rx
    obtain ⟨b, ys, rfl, h3, h4⟩ := ry
    rw [h4.nil_inv] at h3
    exact ⟨a, b, xs, rfl, rfl, h1.sq, h3.sq, by rw [if_neg (by decide), tup_len h2]; exact post.now s (by rw [Rep])⟩
  · cases e
theorem m_neE {K : PySem.W.Frag} : OpM K (rEq0 K true) ne0M := by
  intro ph S H x y dx dy d S' Q s rx ry e post
  unfold ne0M at e
  split at e
  · cases e
    rw [Rep] at rx ry
    obtain ⟨a, xs, rfl, h1, h2⟩ := rx
    obtain ⟨b, ys, rfl, h3, h4⟩ := ry
    rw [h4.nil_inv] at h3
    exact ⟨a, b, xs, rfl, rfl, h1.sq, h3.sq, by rw [if_pos rfl, tup_len h2]; exact post.now s (by rw [Rep])⟩
  · cases e
/-! ### str of an int, repr of anything -/
def strIM (ds : List D) : M D := fun S => match ds with
  | [.int i] => if i.natAbs.log2 < 1920 then some (.str (toString i), S) else none
  | _ => none
theorem c_strI {K : PySem.W.Frag} : CaM K (fun xs H Q => ∃ i : Int, xs = [.int i] ∧ i.natAbs.log2 < 1920 ∧ Q (.str (toString i)) H) strIM := by
  intro ph S H xs dxs d S' Q s rx e post
  unfold strIM at e
  split at e
  · rename_i i
    split at e
    · rename_i hi
      cases e
      obtain ⟨x, rfl, r⟩ := rx.one
      obtain rfl := r.intE
      exact ⟨i, rfl, hi, post.now s (by rw [Rep])⟩
    · cases e
  · cases e
def reprXM (ds : List D) : M D := fun S => match reprM ds S with
  | some r => some r
  | none => reprRM ds S
theorem c_reprX {K : PySem.W.Frag} : CaM K (rReprR K) reprXM := by
  intro ph S H xs dxs d S' Q s rx e post
  unfold reprXM at e
  split at e
  · rename_i r hr
    cases e
    exact .inl (c_repr _ _ _ _ _ _ _ _ s rx hr post)
  · exact c_reprR _ _ _ _ _ _ _ _ s rx e post
end
end Mn

set_option maxRecDepth 100000
set_option maxHeartbeats 0
namespace K56
open PySem PySem.Spec PyProof.Rows L2 Mn
abbrev pw : Program := PySem.Challenge.pw_enoughlooks_k56_shapes_of_any_value
/-! ### atoms_of -/
abbrev s_atoms_of : Stmt := topOf pw 3
abbrev N_atoms_of : List Str := ["question", "column", "index", "atom"]
abbrev P_atoms_of : List Str := ["question", "column"]
theorem sc_atoms_of : FnScope N_atoms_of P_atoms_of (defScope s_atoms_of) := ⟨rfl, rfl, rfl, by decide +kernel, rfl, by decide +kernel, by decide +kernel⟩
noncomputable def b_atoms_of : SM := (mSeq (mRet (mCall tupleM (mCons (mLc (fun rho => bnd ((mCons (mBin ixM (mV 0) (mC (.int 1))) mNil) rho) enumM) [2, 3] (gT 2 (gsCons (gV 2) (gsCons (gV 3) gsNil))) (mB (mBin inM (mV 1) (mBin ixM (mV 3) (mC (.int 2))))) (mV 2)) mNil)))
    mNx)
noncomputable def d_atoms_of : List D → M D := mDef N_atoms_of.length (b_atoms_of)
theorem ok_atoms_of {P : Program} {w : World} {K : PySem.W.Frag} {mg : Str → Option Value} {base : Heap} {a : Addr} {fd : FuncData} (F : Fun K "atoms_of" "atoms_of" s_atoms_of a fd) (z_enumerate : mg "enumerate" = none) (z_tuple : mg "tuple" = none) : FnG P w K mg base 1 a fd P_atoms_of d_atoms_of :=
  fnG_of (N := N_atoms_of) (b_atoms_of) F sc_atoms_of fun cdv A outer s H E hr hg =>
    (s_cons (s_ret (e_callT call_tupF c_tuple (by rfl) z_tuple (by decide +kernel) (a_cons (e_lc rfl sc_atoms_of.nd (own := [("index", 2), ("atom", 3)]) (blkOk_by (own := [("index", 2), ("atom", 3)]) (N := N_atoms_of) (sc := defScope s_atoms_of) (by decide +kernel)) (i_enum z_enumerate (a_cons (e_ix (e_v 0) e_int) a_nil)) (fun _ _ _ _ _ => (g_tup (gs_cons (g_v sc_atoms_of.nd) (gs_cons (g_v sc_atoms_of.nd) gs_nil)))) (fun _ _ _ _ _ => (ts_one (t_cmp (op_inP (uOf hr)) m_in (e_v 1) (e_ix (e_v 3) e_int)))) (fun _ _ _ _ _ => (e_v 2))) a_nil)))
    s_nil)
/-! ### is_above -/
abbrev s_is_above : Stmt := topOf pw 7
abbrev N_is_above : List Str := ["question", "one", "other", "mine", "its", "atom"]
abbrev P_is_above : List Str := ["question", "one", "other"]
theorem sc_is_above : FnScope N_is_above P_is_above (defScope s_is_above) := ⟨rfl, rfl, rfl, by decide +kernel, rfl, by decide +kernel, by decide +kernel⟩
noncomputable def b_is_above : SM := (mSeq (mAsg (mTup (mCons (mFn P_atoms_of.length d_atoms_of (mCons (mV 0) (mCons (mV 1) mNil))) (mCons (mFn P_atoms_of.length d_atoms_of (mCons (mV 0) (mCons (mV 2) mNil))) mNil))) (gT 2 (gsCons (gV 3) (gsCons (gV 4) gsNil))))
    (mSeq (mIfS (mB (mBin eqM (mV 3) (mV 4))) (mSeq (mRet (mBin ltM (mTIdx (mBin ixM (mV 0) (mC (.int 0))) (mCons (mV 1) mNil)) (mTIdx (mBin ixM (mV 0) (mC (.int 0))) (mCons (mV 2) mNil))))
    mNx) mNx)
    (mSeq (mRet (mCall allM (mCons (mLc (mISeq (mV 4)) [5] (gV 5) mYes (mBin inM (mV 5) (mV 3))) mNil)))
    mNx)))
noncomputable def d_is_above : List D → M D := mDef N_is_above.length (b_is_above)
theorem ok_is_above {P : Program} {w : World} {K : PySem.W.Frag} {mg : Str → Option Value} {base : Heap} {a : Addr} {fd : FuncData} (F : Fun K "is_above" "is_above" s_is_above a fd) (c_atoms_of : Cal P w K mg base 1 "atoms_of" P_atoms_of d_atoms_of) (z_all : mg "all" = none) : FnG P w K mg base 2 a fd P_is_above d_is_above :=
  fnG_of (N := N_is_above) (b_is_above) F sc_is_above fun cdv A outer s H E hr hg =>
    (s_cons (s_asg (vs := [3, 4]) (e_tup (a_cons (e_cal c_atoms_of hr hg (a_cons (e_v 0) (a_cons (e_v 1) a_nil))) (a_cons (e_cal c_atoms_of hr hg (a_cons (e_v 0) (a_cons (e_v 2) a_nil))) a_nil))) (g_tup (gs_cons (g_v sc_is_above.nd) (gs_cons (g_v sc_is_above.nd) gs_nil))))
    (s_cons (s_if (t_cmp (op_eqP (uOf hr)) m_eq (e_v 3) (e_v 4)) (s_cons (s_ret (e_cmp op_lt m_lt (e_tidx (e_ix (e_v 0) e_int) (a_cons (e_v 1) a_nil)) (e_tidx (e_ix (e_v 0) e_int) (a_cons (e_v 2) a_nil))))
    s_nil) s_nil)
    (s_cons (s_ret (e_callB (cr_all rfl) c_all (by rfl) z_all (by decide +kernel) (a_cons (e_lc rfl sc_is_above.nd (own := [("atom", 5)]) (blkOk_by (own := [("atom", 5)]) (N := N_is_above) (sc := defScope s_is_above) (by decide +kernel)) (i_seq (e_v 4)) (fun _ _ _ _ _ => (g_v sc_is_above.nd)) (fun _ _ _ _ _ => ts_nil) (fun _ _ _ _ _ => (e_cmp (op_inP (uOf hr)) m_in (e_v 5) (e_v 3)))) a_nil)))
    s_nil)))
/-! ### above_of -/
abbrev s_above_of : Stmt := topOf pw 8
abbrev N_above_of : List Str := ["question", "column", "one"]
abbrev P_above_of : List Str := ["question", "column"]
theorem sc_above_of : FnScope N_above_of P_above_of (defScope s_above_of) := ⟨rfl, rfl, rfl, by decide +kernel, rfl, by decide +kernel, by decide +kernel⟩
noncomputable def b_above_of : SM := (mSeq (mRet (mLc (mISeq (mBin ixM (mV 0) (mC (.int 0)))) [2] (gV 2) (mTru (mFn P_is_above.length d_is_above (mCons (mV 0) (mCons (mV 2) (mCons (mV 1) mNil))))) (mV 2)))
    mNx)
noncomputable def d_above_of : List D → M D := mDef N_above_of.length (b_above_of)
theorem ok_above_of {P : Program} {w : World} {K : PySem.W.Frag} {mg : Str → Option Value} {base : Heap} {a : Addr} {fd : FuncData} (F : Fun K "above_of" "above_of" s_above_of a fd) (c_is_above : Cal P w K mg base 2 "is_above" P_is_above d_is_above) : FnG P w K mg base 3 a fd P_above_of d_above_of :=
  fnG_of (N := N_above_of) (b_above_of) F sc_above_of fun cdv A outer s H E hr hg =>
    (s_cons (s_ret (e_lc rfl sc_above_of.nd (own := [("one", 2)]) (blkOk_by (own := [("one", 2)]) (N := N_above_of) (sc := defScope s_above_of) (by decide +kernel)) (i_seq (e_ix (e_v 0) e_int)) (fun _ _ _ _ _ => (g_v sc_above_of.nd)) (fun _ _ _ _ _ => (ts_one (t_tru (e_cal c_is_above hr hg (a_cons (e_v 0) (a_cons (e_v 2) (a_cons (e_v 1) a_nil))))))) (fun _ _ _ _ _ => (e_v 2))))
    s_nil)
/-! ### path_of -/
abbrev s_path_of : Stmt := topOf pw 9
abbrev N_path_of : List Str := ["question", "column", "above", "one"]
abbrev P_path_of : List Str := ["question", "column"]
theorem sc_path_of : FnScope N_path_of P_path_of (defScope s_path_of) := ⟨rfl, rfl, rfl, by decide +kernel, rfl, by decide +kernel, by decide +kernel⟩
noncomputable def b_path_of (ts : Nat → Addr) : SM := (mSeq (mSet 2 (mFn P_above_of.length d_above_of (mCons (mV 0) (mCons (mV 1) mNil))))
    (mSeq (mRet (mTup (mStar (mSortK 0 (ts 0) "path_of.<locals>.<lambda>" 3 (mCons (mV 2) mNil) (mCall lenM (mCons (mFn P_above_of.length d_above_of (mCons (mV 0) (mCons (mV 3) mNil))) mNil))) (mCons (mV 1) mNil))))
    mNx))
noncomputable def d_path_of (ts : Nat → Addr) : List D → M D := mDef N_path_of.length (b_path_of ts)
theorem ok_path_of {ts : Nat → Addr} {P : Program} {w : World} {K : PySem.W.Frag} {mg : Str → Option Value} {base : Heap} {a : Addr} {fd : FuncData} (F : Fun K "path_of" "path_of" s_path_of a fd) {cc : Addr} (hcd : fd.code = .ref cc) (TB : LamX.TabB base mg cc (ts 0)) (c_above_of : Cal P w K mg base 3 "above_of" P_above_of d_above_of) (z_len : mg "len" = none) (z_sorted : mg "sorted" = none) : FnG P w K mg base 8 a fd P_path_of (d_path_of ts) :=
  fnT_of (N := N_path_of) (b_path_of ts) F sc_path_of fun cdv hcv A outer s H E hr hg =>
    (s_cons (s_set sc_path_of.nd (e_cal (c_above_of.mono (by decide)) hr hg (a_cons (e_v 0) (a_cons (e_v 1) a_nil))))
    (s_cons (s_ret (e_tup (a_star (e_lamsort z_sorted (a_cons (e_v 2) a_nil) TB (hcv.symm.trans hcd) (by rfl) hr hg (lam1_by (sc := defScope s_path_of) (by decide +kernel)) (by rfl) (fun _ _ _ _ _ _ => rfl) sc_path_of.nd (by rfl) (fun s1 H1 f1 c1 hrL hgL => (e_callB cr_len c_len (by rfl) z_len (by decide +kernel) (a_cons (e_cal (c_above_of.mono (by decide)) hrL hgL (a_cons (e_v 0) (a_cons (e_v 3) a_nil))) a_nil)))) (a_cons (e_v 1) a_nil))))
    s_nil))
/-! ### parent_of -/
abbrev s_parent_of : Stmt := topOf pw 10
abbrev N_parent_of : List Str := ["question", "column", "path"]
abbrev P_parent_of : List Str := ["question", "column"]
theorem sc_parent_of : FnScope N_parent_of P_parent_of (defScope s_parent_of) := ⟨rfl, rfl, rfl, by decide +kernel, rfl, by decide +kernel, by decide +kernel⟩
noncomputable def b_parent_of (ts : Nat → Addr) : SM := (mSeq (mSet 2 (mFn P_path_of.length (d_path_of ts) (mCons (mV 0) (mCons (mV 1) mNil))))
    (mSeq (mRet (mIf (mB (mBin gtM (mCall lenM (mCons (mV 2) mNil)) (mC (.int 1)))) (mBin ixM (mV 2) (mUn negM (mC (.int 2)))) (mC .non)))
    mNx))
noncomputable def d_parent_of (ts : Nat → Addr) : List D → M D := mDef N_parent_of.length (b_parent_of ts)
theorem ok_parent_of {ts : Nat → Addr} {P : Program} {w : World} {K : PySem.W.Frag} {mg : Str → Option Value} {base : Heap} {a : Addr} {fd : FuncData} (F : Fun K "parent_of" "parent_of" s_parent_of a fd) (c_path_of : Cal P w K mg base 8 "path_of" P_path_of (d_path_of ts)) (z_len : mg "len" = none) : FnG P w K mg base 9 a fd P_parent_of (d_parent_of ts) :=
  fnG_of (N := N_parent_of) (b_parent_of ts) F sc_parent_of fun cdv A outer s H E hr hg =>
    (s_cons (s_set sc_parent_of.nd (e_cal c_path_of hr hg (a_cons (e_v 0) (a_cons (e_v 1) a_nil))))
    (s_cons (s_ret (e_if (t_cmp op_gt m_gt (e_callB cr_len c_len (by rfl) z_len (by decide +kernel) (a_cons (e_v 2) a_nil)) e_int) (e_ix (e_v 2) (e_un un_neg m_neg e_int)) e_non))
    s_nil))
/-! ### roots_of -/
abbrev s_roots_of : Stmt := topOf pw 12
abbrev N_roots_of : List Str := ["question", "one"]
abbrev P_roots_of : List Str := ["question"]
theorem sc_roots_of : FnScope N_roots_of P_roots_of (defScope s_roots_of) := ⟨rfl, rfl, rfl, by decide +kernel, rfl, by decide +kernel, by decide +kernel⟩
noncomputable def b_roots_of (ts : Nat → Addr) : SM := (mSeq (mRet (mCall tupleM (mCons (mLc (mISeq (mBin ixM (mV 0) (mC (.int 0)))) [1] (gV 1) (mB (mIsN (mFn P_parent_of.length (d_parent_of ts) (mCons (mV 0) (mCons (mV 1) mNil))))) (mV 1)) mNil)))
    mNx)
noncomputable def d_roots_of (ts : Nat → Addr) : List D → M D := mDef N_roots_of.length (b_roots_of ts)
theorem ok_roots_of {ts : Nat → Addr} {P : Program} {w : World} {K : PySem.W.Frag} {mg : Str → Option Value} {base : Heap} {a : Addr} {fd : FuncData} (F : Fun K "roots_of" "roots_of" s_roots_of a fd) (c_parent_of : Cal P w K mg base 9 "parent_of" P_parent_of (d_parent_of ts)) (z_tuple : mg "tuple" = none) : FnG P w K mg base 10 a fd P_roots_of (d_roots_of ts) :=
  fnG_of (N := N_roots_of) (b_roots_of ts) F sc_roots_of fun cdv A outer s H E hr hg =>
    (s_cons (s_ret (e_callT call_tupF c_tuple (by rfl) z_tuple (by decide +kernel) (a_cons (e_lc rfl sc_roots_of.nd (own := [("one", 1)]) (blkOk_by (own := [("one", 1)]) (N := N_roots_of) (sc := defScope s_roots_of) (by decide +kernel)) (i_seq (e_ix (e_v 0) e_int)) (fun _ _ _ _ _ => (g_v sc_roots_of.nd)) (fun _ _ _ _ _ => (ts_one (t_isN (e_cal c_parent_of hr hg (a_cons (e_v 0) (a_cons (e_v 1) a_nil)))))) (fun _ _ _ _ _ => (e_v 1))) a_nil)))
    s_nil)
/-! ### range_of -/
abbrev s_range_of : Stmt := topOf pw 4
abbrev N_range_of : List Str := ["question", "column", "its", "low", "high"]
abbrev P_range_of : List Str := ["question", "column"]
theorem sc_range_of : FnScope N_range_of P_range_of (defScope s_range_of) := ⟨rfl, rfl, rfl, by decide +kernel, rfl, by decide +kernel, by decide +kernel⟩
noncomputable def b_range_of : SM := (mSeq (mFor (mISeq (mBin ixM (mV 0) (mC (.int 2)))) (gT 3 (gsCons (gV 2) (gsCons (gV 3) (gsCons (gV 4) gsNil)))) (mSeq (mIfS (mB (mBin eqM (mV 2) (mV 1))) (mSeq (mRet (mTup (mCons (mV 3) (mCons (mV 4) mNil))))
    mNx) mNx)
    mNx))
    (mSeq (mRet (mTup (mCons (mC .non) (mCons (mC .non) mNil))))
    mNx))
noncomputable def d_range_of : List D → M D := mDef N_range_of.length (b_range_of)
theorem ok_range_of {P : Program} {w : World} {K : PySem.W.Frag} {mg : Str → Option Value} {base : Heap} {a : Addr} {fd : FuncData} (F : Fun K "range_of" "range_of" s_range_of a fd) : FnG P w K mg base 1 a fd P_range_of d_range_of :=
  fnG_of (N := N_range_of) (b_range_of) F sc_range_of fun cdv A outer s H E hr hg =>
    (s_cons (s_for (vs := [2, 3, 4]) PassesOwn.never (i_seq (e_ix (e_v 0) e_int)) (g_tup (gs_cons (g_v sc_range_of.nd) (gs_cons (g_v sc_range_of.nd) (gs_cons (g_v sc_range_of.nd) gs_nil)))) (s_cons (s_if (t_cmp (op_eqP (uOf hr)) m_eq (e_v 2) (e_v 1)) (s_cons (s_ret (e_tup (a_cons (e_v 3) (a_cons (e_v 4) a_nil))))
    s_nil) s_nil)
    s_nil))
    (s_cons (s_ret (e_tup (a_cons e_non (a_cons e_non a_nil))))
    s_nil))
/-! ### lets -/
abbrev s_lets : Stmt := topOf pw 5
abbrev N_lets : List Str := ["question", "column", "value", "low", "high"]
abbrev P_lets : List Str := ["question", "column", "value"]
theorem sc_lets : FnScope N_lets P_lets (defScope s_lets) := ⟨rfl, rfl, rfl, by decide +kernel, rfl, by decide +kernel, by decide +kernel⟩
noncomputable def b_lets : SM := (mSeq (mAsg (mFn P_range_of.length d_range_of (mCons (mV 0) (mCons (mV 1) mNil))) (gT 2 (gsCons (gV 3) (gsCons (gV 4) gsNil))))
    (mSeq (mRet (mAndV (mOrV (mIsN (mV 3)) (mBin geM (mV 2) (mV 3))) (mOrV (mIsN (mV 4)) (mBin leM (mV 2) (mV 4)))))
    mNx))
noncomputable def d_lets : List D → M D := mDef N_lets.length (b_lets)
theorem ok_lets {P : Program} {w : World} {K : PySem.W.Frag} {mg : Str → Option Value} {base : Heap} {a : Addr} {fd : FuncData} (F : Fun K "lets" "lets" s_lets a fd) (c_range_of : Cal P w K mg base 1 "range_of" P_range_of d_range_of) : FnG P w K mg base 2 a fd P_lets d_lets :=
  fnG_of (N := N_lets) (b_lets) F sc_lets fun cdv A outer s H E hr hg =>
    (s_cons (s_asg (vs := [3, 4]) (e_cal c_range_of hr hg (a_cons (e_v 0) (a_cons (e_v 1) a_nil))) (g_tup (gs_cons (g_v sc_lets.nd) (gs_cons (g_v sc_lets.nd) gs_nil))))
    (s_cons (s_ret (e_and (e_or (e_isN (e_v 3)) (e_one (e_cmp op_ge m_ge (e_v 2) (e_v 3)))) (e_one (e_or (e_isN (e_v 4)) (e_one (e_cmp op_le m_le (e_v 2) (e_v 4)))))))
    s_nil))
/-! ### children_of -/
abbrev s_children_of : Stmt := topOf pw 11
abbrev N_children_of : List Str := ["question", "column", "one"]
abbrev P_children_of : List Str := ["question", "column"]
theorem sc_children_of : FnScope N_children_of P_children_of (defScope s_children_of) := ⟨rfl, rfl, rfl, by decide +kernel, rfl, by decide +kernel, by decide +kernel⟩
noncomputable def b_children_of (ts : Nat → Addr) : SM := (mSeq (mRet (mCall tupleM (mCons (mLc (mISeq (mBin ixM (mV 0) (mC (.int 0)))) [2] (gV 2) (mB (mBin eqM (mFn P_parent_of.length (d_parent_of ts) (mCons (mV 0) (mCons (mV 2) mNil))) (mV 1))) (mV 2)) mNil)))
    mNx)
noncomputable def d_children_of (ts : Nat → Addr) : List D → M D := mDef N_children_of.length (b_children_of ts)
theorem ok_children_of {ts : Nat → Addr} {P : Program} {w : World} {K : PySem.W.Frag} {mg : Str → Option Value} {base : Heap} {a : Addr} {fd : FuncData} (F : Fun K "children_of" "children_of" s_children_of a fd) (c_parent_of : Cal P w K mg base 9 "parent_of" P_parent_of (d_parent_of ts)) (z_tuple : mg "tuple" = none) : FnG P w K mg base 10 a fd P_children_of (d_children_of ts) :=
  fnG_of (N := N_children_of) (b_children_of ts) F sc_children_of fun cdv A outer s H E hr hg =>
    (s_cons (s_ret (e_callT call_tupF c_tuple (by rfl) z_tuple (by decide +kernel) (a_cons (e_lc rfl sc_children_of.nd (own := [("one", 2)]) (blkOk_by (own := [("one", 2)]) (N := N_children_of) (sc := defScope s_children_of) (by decide +kernel)) (i_seq (e_ix (e_v 0) e_int)) (fun _ _ _ _ _ => (g_v sc_children_of.nd)) (fun _ _ _ _ _ => (ts_one (t_cmp (op_eqP (uOf hr)) m_eq (e_cal c_parent_of hr hg (a_cons (e_v 0) (a_cons (e_v 2) a_nil))) (e_v 1)))) (fun _ _ _ _ _ => (e_v 2))) a_nil)))
    s_nil)
/-! ### is_integer -/
abbrev s_is_integer : Stmt := topOf pw 1
abbrev N_is_integer : List Str := ["thing"]
abbrev P_is_integer : List Str := ["thing"]
theorem sc_is_integer : FnScope N_is_integer P_is_integer (defScope s_is_integer) := ⟨rfl, rfl, rfl, by decide +kernel, rfl, by decide +kernel, by decide +kernel⟩
noncomputable def b_is_integer : SM := (mSeq (mRet (mAndV (mUn (isiM "int") (mV 0)) (mNotV (mUn (isiM "bool") (mV 0)))))
    mNx)
noncomputable def d_is_integer : List D → M D := mDef N_is_integer.length (b_is_integer)
theorem ok_is_integer {P : Program} {w : World} {K : PySem.W.Frag} {mg : Str → Option Value} {base : Heap} {a : Addr} {fd : FuncData} (F : Fun K "is_integer" "is_integer" s_is_integer a fd) (z_isinstance : mg "isinstance" = none) (z_int : mg "int" = none) (z_bool : mg "bool" = none) : FnG P w K mg base 1 a fd P_is_integer d_is_integer :=
  fnG_of (N := N_is_integer) (b_is_integer) F sc_is_integer fun cdv A outer s H E hr hg =>
    (s_cons (s_ret (e_and (e_isi (T := "int") z_isinstance z_int (e_v 0) (by rfl)) (e_one (e_not (e_isi (T := "bool") z_isinstance z_bool (e_v 0) (by rfl))))))
    s_nil)
/-! ### is_branch -/
abbrev s_is_branch : Stmt := topOf pw 14
abbrev N_is_branch : List Str := ["question", "column", "thing", "place", "one", "other"]
abbrev P_is_branch : List Str := ["question", "column", "thing"]
theorem sc_is_branch : FnScope N_is_branch P_is_branch (defScope s_is_branch) := ⟨rfl, rfl, rfl, by decide +kernel, rfl, by decide +kernel, by decide +kernel⟩
/-! ### are_branches -/
abbrev s_are_branches : Stmt := topOf pw 15
abbrev N_are_branches : List Str := ["question", "columns", "thing", "column", "branch"]
abbrev P_are_branches : List Str := ["question", "columns", "thing"]
theorem sc_are_branches : FnScope N_are_branches P_are_branches (defScope s_are_branches) := ⟨rfl, rfl, rfl, by decide +kernel, rfl, by decide +kernel, by decide +kernel⟩
noncomputable def b_is_branch (ts : Nat → Addr) (r_is_branch r_are_branches : List D → M D) : SM := (mSeq (mIfS (mOr (mNot (mTru (mUn (isiM "tuple") (mV 2)))) (mB (mBin eq0M (mV 2) (mTup mNil)))) (mSeq (mRet (mC (.bl false)))
    mNx) mNx)
    (mSeq (mFor (mISeq (mV 2)) (gV 3) (mSeq (mIfS (mOr (mNot (mTru (mUn (isiM "tuple") (mV 3)))) (mOr (mB (mBin neM (mCall lenM (mCons (mV 3) mNil)) (mC (.int 2)))) (mNot (mTru (mFn P_is_integer.length d_is_integer (mCons (mBin ixM (mV 3) (mC (.int 0))) mNil)))))) (mSeq (mRet (mC (.bl false)))
    mNx) mNx)
    (mSeq (mIfS (mOr (mNot (mTru (mFn P_lets.length d_lets (mCons (mV 0) (mCons (mV 1) (mCons (mBin ixM (mV 3) (mC (.int 0))) mNil)))))) (mNot (mTru (mFn P_are_branches.length r_are_branches (mCons (mV 0) (mCons (mFn P_children_of.length (d_children_of ts) (mCons (mV 0) (mCons (mV 1) mNil))) (mCons (mBin ixM (mV 3) (mC (.int 1))) mNil))))))) (mSeq (mRet (mC (.bl false)))
    mNx) mNx)
    mNx)))
    (mSeq (mRet (mCall allM (mCons (mLc (fun rho => bnd ((mCons (mV 2) (mCons (mSl (mV 2) (mPart (mC (.int 1))) (fun _ => ret none)) mNil)) rho) zipM) [4, 5] (gT 2 (gsCons (gV 4) (gsCons (gV 5) gsNil))) mYes (mBin ltM (mBin ixM (mV 4) (mC (.int 0))) (mBin ixM (mV 5) (mC (.int 0))))) mNil)))
    mNx)))
noncomputable def b_are_branches (ts : Nat → Addr) (r_is_branch r_are_branches : List D → M D) : SM := (mSeq (mIfS (mOr (mNot (mTru (mUn (isiM "tuple") (mV 2)))) (mB (mBin neM (mCall lenM (mCons (mV 2) mNil)) (mCall lenM (mCons (mV 1) mNil))))) (mSeq (mRet (mC (.bl false)))
    mNx) mNx)
    (mSeq (mRet (mCall allM (mCons (mLc (fun rho => bnd ((mCons (mV 1) (mCons (mV 2) mNil)) rho) zipM) [3, 4] (gT 2 (gsCons (gV 3) (gsCons (gV 4) gsNil))) mYes (mFn P_is_branch.length r_is_branch (mCons (mV 0) (mCons (mV 3) (mCons (mV 4) mNil))))) mNil)))
    mNx))
noncomputable def dd_is_branch_are_branches (ts : Nat → Addr) : Nat → (List D → M D) × (List D → M D)
  | 0 => (fun _ => fail, fun _ => fail)
  | n + 1 => (mDef N_is_branch.length (b_is_branch ts (dd_is_branch_are_branches ts n).1 (dd_is_branch_are_branches ts n).2), mDef N_are_branches.length (b_are_branches ts (dd_is_branch_are_branches ts n).1 (dd_is_branch_are_branches ts n).2))
noncomputable def d_is_branch (ts : Nat → Addr) (n : Nat) : List D → M D := (dd_is_branch_are_branches ts n).1
noncomputable def d_are_branches (ts : Nat → Addr) (n : Nat) : List D → M D := (dd_is_branch_are_branches ts n).2
theorem ok_is_branch_are_branches {ts : Nat → Addr} {P : Program} {w : World} {K : PySem.W.Frag} {mg : Str → Option Value} {base : Heap} {a_is_branch : Addr} {fd_is_branch : FuncData} {a_are_branches : Addr} {fd_are_branches : FuncData} (F_is_branch : Fun K "is_branch" "is_branch" s_is_branch a_is_branch fd_is_branch) (F_are_branches : Fun K "are_branches" "are_branches" s_are_branches a_are_branches fd_are_branches) (hmg_is_branch : mg "is_branch" = some (.ref a_is_branch)) (hkk_is_branch : PySem.W.keepIn K (.ref a_is_branch) = true) (hB_is_branch : Binds K fd_is_branch P_is_branch []) (hmg_are_branches : mg "are_branches" = some (.ref a_are_branches)) (hkk_are_branches : PySem.W.keepIn K (.ref a_are_branches) = true) (hB_are_branches : Binds K fd_are_branches P_are_branches []) (c0_lets : Cal P w K mg base 10 "lets" P_lets d_lets) (c0_children_of : Cal P w K mg base 10 "children_of" P_children_of (d_children_of ts)) (c0_is_integer : Cal P w K mg base 10 "is_integer" P_is_integer d_is_integer) (z_zip : mg "zip" = none) (z_all : mg "all" = none) (z_isinstance : mg "isinstance" = none) (z_tuple : mg "tuple" = none) (z_len : mg "len" = none) : ∀ n : Nat, FnG P w K mg base (10 + n) a_is_branch fd_is_branch P_is_branch (d_is_branch ts n) ∧ FnG P w K mg base (10 + n) a_are_branches fd_are_branches P_are_branches (d_are_branches ts n)
  | 0 => ⟨fnG_fail, fnG_fail⟩
  | n + 1 => by
    have c_lets := c0_lets.mono (Nat.le_add_right 10 n)
    have c_children_of := c0_children_of.mono (Nat.le_add_right 10 n)
    have c_is_integer := c0_is_integer.mono (Nat.le_add_right 10 n)
    have ih := ok_is_branch_are_branches F_is_branch F_are_branches hmg_is_branch hkk_is_branch hB_is_branch hmg_are_branches hkk_are_branches hB_are_branches c0_lets c0_children_of c0_is_integer z_zip z_all z_isinstance z_tuple z_len n
    have c_is_branch : Cal P w K mg base (10 + n) "is_branch" P_is_branch (d_is_branch ts n) := ⟨a_is_branch, fd_is_branch, ih.1, hmg_is_branch, hkk_is_branch, hB_is_branch⟩
    have c_are_branches : Cal P w K mg base (10 + n) "are_branches" P_are_branches (d_are_branches ts n) := ⟨a_are_branches, fd_are_branches, ih.2, hmg_are_branches, hkk_are_branches, hB_are_branches⟩
    exact ⟨fnG_of (N := N_is_branch) (b_is_branch ts (dd_is_branch_are_branches ts n).1 (dd_is_branch_are_branches ts n).2) F_is_branch sc_is_branch fun cdv A outer s H E hr hg =>
      (s_cons (s_if (t_w (w_or (t_not (t_tru (e_isi (T := "tuple") z_isinstance z_tuple (e_v 2) (by rfl)))) (w_or1 (t_cmp (op_eq0 (uOf hr)) m_eqE (e_v 2) (e_tup a_nil))))) (s_cons (s_ret e_bl)
    s_nil) s_nil)
    (s_cons (s_for (vs := [3]) PassesOwn.never (i_seq (e_v 2)) (g_v sc_is_branch.nd) (s_cons (s_if (t_w (w_or (t_not (t_tru (e_isi (T := "tuple") z_isinstance z_tuple (e_v 3) (by rfl)))) (w_or (t_cmp (op_neP (uOf hr)) m_ne (e_callB cr_len c_len (by rfl) z_len (by decide +kernel) (a_cons (e_v 3) a_nil)) e_int) (w_or1 (t_not (t_tru (e_cal c_is_integer hr hg (a_cons (e_ix (e_v 3) e_int) a_nil)))))))) (s_cons (s_ret e_bl)
    s_nil) s_nil)
    (s_cons (s_if (t_w (w_or (t_not (t_tru (e_cal c_lets hr hg (a_cons (e_v 0) (a_cons (e_v 1) (a_cons (e_ix (e_v 3) e_int) a_nil)))))) (w_or1 (t_not (t_tru (e_cal c_are_branches hr hg (a_cons (e_v 0) (a_cons (e_cal c_children_of hr hg (a_cons (e_v 0) (a_cons (e_v 1) a_nil))) (a_cons (e_ix (e_v 3) e_int) a_nil))))))))) (s_cons (s_ret e_bl)
    s_nil) s_nil)
    s_nil)))
    (s_cons (s_ret (e_callB (cr_all rfl) c_all (by rfl) z_all (by decide +kernel) (a_cons (e_lc rfl sc_is_branch.nd (own := [("one", 4), ("other", 5)]) (blkOk_by (own := [("one", 4), ("other", 5)]) (N := N_is_branch) (sc := defScope s_is_branch) (by decide +kernel)) (i_zip z_zip (a_cons (e_v 2) (a_cons (e_sl (e_v 2) (o_some e_int) o_none) a_nil))) (fun _ _ _ _ _ => (g_tup (gs_cons (g_v sc_is_branch.nd) (gs_cons (g_v sc_is_branch.nd) gs_nil)))) (fun _ _ _ _ _ => ts_nil) (fun _ _ _ _ _ => (e_cmp op_lt m_lt (e_ix (e_v 4) e_int) (e_ix (e_v 5) e_int)))) a_nil)))
    s_nil))),
      fnG_of (N := N_are_branches) (b_are_branches ts (dd_is_branch_are_branches ts n).1 (dd_is_branch_are_branches ts n).2) F_are_branches sc_are_branches fun cdv A outer s H E hr hg =>
      (s_cons (s_if (t_w (w_or (t_not (t_tru (e_isi (T := "tuple") z_isinstance z_tuple (e_v 2) (by rfl)))) (w_or1 (t_cmp (op_neP (uOf hr)) m_ne (e_callB cr_len c_len (by rfl) z_len (by decide +kernel) (a_cons (e_v 2) a_nil)) (e_callB cr_len c_len (by rfl) z_len (by decide +kernel) (a_cons (e_v 1) a_nil)))))) (s_cons (s_ret e_bl)
    s_nil) s_nil)
    (s_cons (s_ret (e_callB (cr_all rfl) c_all (by rfl) z_all (by decide +kernel) (a_cons (e_lc rfl sc_are_branches.nd (own := [("column", 3), ("branch", 4)]) (blkOk_by (own := [("column", 3), ("branch", 4)]) (N := N_are_branches) (sc := defScope s_are_branches) (by decide +kernel)) (i_zip z_zip (a_cons (e_v 1) (a_cons (e_v 2) a_nil))) (fun _ _ _ _ _ => (g_tup (gs_cons (g_v sc_are_branches.nd) (gs_cons (g_v sc_are_branches.nd) gs_nil)))) (fun _ _ _ _ _ => ts_nil) (fun _ _ _ _ _ => (e_cal c_is_branch hr hg (a_cons (e_v 0) (a_cons (e_v 3) (a_cons (e_v 4) a_nil)))))) a_nil)))
    s_nil))⟩
/-! ### is_shape -/
abbrev s_is_shape : Stmt := topOf pw 16
abbrev N_is_shape : List Str := ["question", "thing"]
abbrev P_is_shape : List Str := ["question", "thing"]
theorem sc_is_shape : FnScope N_is_shape P_is_shape (defScope s_is_shape) := ⟨rfl, rfl, rfl, by decide +kernel, rfl, by decide +kernel, by decide +kernel⟩
noncomputable def b_is_shape (ts : Nat → Addr) : SM := (mSeq (mRet (mOrV (mIsN (mV 1)) (mFn P_are_branches.length (d_are_branches ts 12) (mCons (mV 0) (mCons (mFn P_roots_of.length (d_roots_of ts) (mCons (mV 0) mNil)) (mCons (mV 1) mNil))))))
    mNx)
noncomputable def d_is_shape (ts : Nat → Addr) : List D → M D := mDef N_is_shape.length (b_is_shape ts)
theorem ok_is_shape {ts : Nat → Addr} {P : Program} {w : World} {K : PySem.W.Frag} {mg : Str → Option Value} {base : Heap} {a : Addr} {fd : FuncData} (F : Fun K "is_shape" "is_shape" s_is_shape a fd) (c_roots_of : Cal P w K mg base 22 "roots_of" P_roots_of (d_roots_of ts)) (c_are_branches : Cal P w K mg base 22 "are_branches" P_are_branches (d_are_branches ts 12)) : FnG P w K mg base 23 a fd P_is_shape (d_is_shape ts) :=
  fnG_of (N := N_is_shape) (b_is_shape ts) F sc_is_shape fun cdv A outer s H E hr hg =>
    (s_cons (s_ret (e_or (e_isN (e_v 1)) (e_one (e_cal c_are_branches hr hg (a_cons (e_v 0) (a_cons (e_cal c_roots_of hr hg (a_cons (e_v 0) a_nil)) (a_cons (e_v 1) a_nil)))))))
    s_nil)
/-! ### _law_alike -/
abbrev s_law_alike : Stmt := topOf pw 22
abbrev N_law_alike : List Str := ["_law_found", "_law_due"]
abbrev P_law_alike : List Str := ["_law_found", "_law_due"]
theorem sc_law_alike : FnScope N_law_alike P_law_alike (defScope s_law_alike) := ⟨rfl, rfl, rfl, by decide +kernel, rfl, by decide +kernel, by decide +kernel⟩
noncomputable def b_law_alike : SM := (mSeq (mRet (mAndV (mBin eqM (mV 0) (mV 1)) (mBin eqM (mCall reprM (mCons (mV 0) mNil)) (mCall reprM (mCons (mV 1) mNil)))))
    mNx)
noncomputable def d_law_alike : List D → M D := mDef N_law_alike.length (b_law_alike)
theorem ok_law_alike {P : Program} {w : World} {K : PySem.W.Frag} {mg : Str → Option Value} {base : Heap} {a : Addr} {fd : FuncData} (F : Fun K "_law_alike" "_law_alike" s_law_alike a fd) (z_repr : mg "repr" = none) : FnG P w K mg base 1 a fd P_law_alike d_law_alike :=
  fnG_of (N := N_law_alike) (b_law_alike) F sc_law_alike fun cdv A outer s H E hr hg =>
    (s_cons (s_ret (e_and (e_cmp (op_eqP (uOf hr)) m_eq (e_v 0) (e_v 1)) (e_one (e_cmp (op_eqP (uOf hr)) m_eq (e_callB (cr_repr hg (uOf hr)) c_repr (by rfl) z_repr (by decide +kernel) (a_cons (e_v 0) a_nil)) (e_callB (cr_repr hg (uOf hr)) c_repr (by rfl) z_repr (by decide +kernel) (a_cons (e_v 1) a_nil))))))
    s_nil)
/-! ### _law_atoms_of -/
abbrev s_law_atoms_of : Stmt := topOf pw 29
abbrev N_law_atoms_of : List Str := ["_law_question", "_law_column", "_law_index", "_law_atom"]
abbrev P_law_atoms_of : List Str := ["_law_question", "_law_column"]
theorem sc_law_atoms_of : FnScope N_law_atoms_of P_law_atoms_of (defScope s_law_atoms_of) := ⟨rfl, rfl, rfl, by decide +kernel, rfl, by decide +kernel, by decide +kernel⟩
noncomputable def b_law_atoms_of : SM := (mSeq (mRet (mLc (fun rho => bnd ((mCons (mBin ixM (mV 0) (mC (.int 1))) mNil) rho) enumM) [2, 3] (gT 2 (gsCons (gV 2) (gsCons (gV 3) gsNil))) (mB (mBin inM (mV 1) (mBin ixM (mV 3) (mC (.int 2))))) (mV 2)))
    mNx)
noncomputable def d_law_atoms_of : List D → M D := mDef N_law_atoms_of.length (b_law_atoms_of)
theorem ok_law_atoms_of {P : Program} {w : World} {K : PySem.W.Frag} {mg : Str → Option Value} {base : Heap} {a : Addr} {fd : FuncData} (F : Fun K "_law_atoms_of" "_law_atoms_of" s_law_atoms_of a fd) (z_enumerate : mg "enumerate" = none) : FnG P w K mg base 1 a fd P_law_atoms_of d_law_atoms_of :=
  fnG_of (N := N_law_atoms_of) (b_law_atoms_of) F sc_law_atoms_of fun cdv A outer s H E hr hg =>
    (s_cons (s_ret (e_lc rfl sc_law_atoms_of.nd (own := [("_law_index", 2), ("_law_atom", 3)]) (blkOk_by (own := [("_law_index", 2), ("_law_atom", 3)]) (N := N_law_atoms_of) (sc := defScope s_law_atoms_of) (by decide +kernel)) (i_enum z_enumerate (a_cons (e_ix (e_v 0) e_int) a_nil)) (fun _ _ _ _ _ => (g_tup (gs_cons (g_v sc_law_atoms_of.nd) (gs_cons (g_v sc_law_atoms_of.nd) gs_nil)))) (fun _ _ _ _ _ => (ts_one (t_cmp (op_inP (uOf hr)) m_in (e_v 1) (e_ix (e_v 3) e_int)))) (fun _ _ _ _ _ => (e_v 2))))
    s_nil)
/-! ### _law_is_above -/
abbrev s_law_is_above : Stmt := topOf pw 30
abbrev N_law_is_above : List Str := ["_law_question", "_law_one", "_law_other", "_law_mine", "_law_its", "_law_index"]
abbrev P_law_is_above : List Str := ["_law_question", "_law_one", "_law_other"]
theorem sc_law_is_above : FnScope N_law_is_above P_law_is_above (defScope s_law_is_above) := ⟨rfl, rfl, rfl, by decide +kernel, rfl, by decide +kernel, by decide +kernel⟩
noncomputable def b_law_is_above : SM := (mSeq (mAsg (mTup (mCons (mFn P_law_atoms_of.length d_law_atoms_of (mCons (mV 0) (mCons (mV 1) mNil))) (mCons (mFn P_law_atoms_of.length d_law_atoms_of (mCons (mV 0) (mCons (mV 2) mNil))) mNil))) (gT 2 (gsCons (gV 3) (gsCons (gV 4) gsNil))))
    (mSeq (mIfS (mOr (mB (mBin eqM (mV 1) (mV 2))) (mB (mBin neM (mLc (mISeq (mV 4)) [5] (gV 5) (mB (mBin niM (mV 5) (mV 3))) (mV 5)) (mLst mNil)))) (mSeq (mRet (mC (.bl false)))
    mNx) mNx)
    (mSeq (mRet (mOrV (mBin gtM (mCall lenM (mCons (mV 3) mNil)) (mCall lenM (mCons (mV 4) mNil))) (mBin ltM (mTIdx (mBin ixM (mV 0) (mC (.int 0))) (mCons (mV 1) mNil)) (mTIdx (mBin ixM (mV 0) (mC (.int 0))) (mCons (mV 2) mNil)))))
    mNx)))
noncomputable def d_law_is_above : List D → M D := mDef N_law_is_above.length (b_law_is_above)
theorem ok_law_is_above {P : Program} {w : World} {K : PySem.W.Frag} {mg : Str → Option Value} {base : Heap} {a : Addr} {fd : FuncData} (F : Fun K "_law_is_above" "_law_is_above" s_law_is_above a fd) (c_law_atoms_of : Cal P w K mg base 1 "_law_atoms_of" P_law_atoms_of d_law_atoms_of) (z_len : mg "len" = none) : FnG P w K mg base 2 a fd P_law_is_above d_law_is_above :=
  fnG_of (N := N_law_is_above) (b_law_is_above) F sc_law_is_above fun cdv A outer s H E hr hg =>
    (s_cons (s_asg (vs := [3, 4]) (e_tup (a_cons (e_cal c_law_atoms_of hr hg (a_cons (e_v 0) (a_cons (e_v 1) a_nil))) (a_cons (e_cal c_law_atoms_of hr hg (a_cons (e_v 0) (a_cons (e_v 2) a_nil))) a_nil))) (g_tup (gs_cons (g_v sc_law_is_above.nd) (gs_cons (g_v sc_law_is_above.nd) gs_nil))))
    (s_cons (s_if (t_w (w_or (t_cmp (op_eqP (uOf hr)) m_eq (e_v 1) (e_v 2)) (w_or1 (t_cmp (op_neP (uOf hr)) m_ne (e_lc rfl sc_law_is_above.nd (own := [("_law_index", 5)]) (blkOk_by (own := [("_law_index", 5)]) (N := N_law_is_above) (sc := defScope s_law_is_above) (by decide +kernel)) (i_seq (e_v 4)) (fun _ _ _ _ _ => (g_v sc_law_is_above.nd)) (fun _ _ _ _ _ => (ts_one (t_cmp (op_niP (uOf hr)) m_ni (e_v 5) (e_v 3)))) (fun _ _ _ _ _ => (e_v 5))) (e_lst a_nil))))) (s_cons (s_ret e_bl)
    s_nil) s_nil)
    (s_cons (s_ret (e_or (e_cmp op_gt m_gt (e_callB cr_len c_len (by rfl) z_len (by decide +kernel) (a_cons (e_v 3) a_nil)) (e_callB cr_len c_len (by rfl) z_len (by decide +kernel) (a_cons (e_v 4) a_nil))) (e_one (e_cmp op_lt m_lt (e_tidx (e_ix (e_v 0) e_int) (a_cons (e_v 1) a_nil)) (e_tidx (e_ix (e_v 0) e_int) (a_cons (e_v 2) a_nil))))))
    s_nil)))
/-! ### _law_path -/
abbrev s_law_path : Stmt := topOf pw 31
abbrev N_law_path : List Str := ["_law_question", "_law_column", "_law_upper", "_law_found", "_law_one", "_law_at", "_law_other"]
abbrev P_law_path : List Str := ["_law_question", "_law_column"]
theorem sc_law_path : FnScope N_law_path P_law_path (defScope s_law_path) := ⟨rfl, rfl, rfl, by decide +kernel, rfl, by decide +kernel, by decide +kernel⟩
noncomputable def b_law_path : SM := (mSeq (mSet 2 (mLc (mISeq (mBin ixM (mV 0) (mC (.int 0)))) [4] (gV 4) (mTru (mFn P_law_is_above.length d_law_is_above (mCons (mV 0) (mCons (mV 4) (mCons (mV 1) mNil))))) (mV 4)))
    (mSeq (mSet 3 (mNew mNil))
    (mSeq (mFor (mISeq (mV 2)) (gV 4) (mSeq (mSet 5 (mCall lenM (mCons (mLc (mISeq (mV 2)) [6] (gV 6) (mTru (mFn P_law_is_above.length d_law_is_above (mCons (mV 0) (mCons (mV 6) (mCons (mV 4) mNil))))) (mV 6)) mNil)))
    (mSeq (mDrop (mMet (mV 3) (mCons (mTup (mCons (mV 5) (mCons (mV 4) mNil))) mNil) appM))
    mNx)))
    (mSeq (mRet (mBin addM (mLc (mISeq (mCall sortM (mCons (mV 3) mNil))) [5, 4] (gT 2 (gsCons (gV 5) (gsCons (gV 4) gsNil))) mYes (mV 4)) (mLst (mCons (mV 1) mNil))))
    mNx))))
noncomputable def d_law_path : List D → M D := mDef N_law_path.length (b_law_path)
theorem ok_law_path {P : Program} {w : World} {K : PySem.W.Frag} {mg : Str → Option Value} {base : Heap} {a : Addr} {fd : FuncData} (F : Fun K "_law_path" "_law_path" s_law_path a fd) (c_law_is_above : Cal P w K mg base 2 "_law_is_above" P_law_is_above d_law_is_above) (z_sorted : mg "sorted" = none) (z_len : mg "len" = none) : FnG P w K mg base 3 a fd P_law_path d_law_path :=
  fnG_of (N := N_law_path) (b_law_path) F sc_law_path fun cdv A outer s H E hr hg =>
    (s_cons (s_setLc rfl sc_law_path.nd (own := [("_law_one", 4)]) (blkOk_by (own := [("_law_one", 4)]) (N := N_law_path) (sc := defScope s_law_path) (by decide +kernel)) (i_seq (e_ix (e_v 0) e_int)) (fun _ _ _ _ _ => (g_v sc_law_path.nd)) (fun _ _ _ _ _ => (ts_one (t_tru (e_cal c_law_is_above hr hg (a_cons (e_v 0) (a_cons (e_v 4) (a_cons (e_v 1) a_nil))))))) (fun _ _ _ _ _ => (e_v 4)) (sw_true rfl rfl rfl (by decide +kernel)))
    (s_cons (s_set sc_law_path.nd (e_new a_nil))
    (s_cons (s_for (vs := [4]) PassesOwn.never (i_seq (e_v 2)) (g_v sc_law_path.nd) (s_cons (s_set sc_law_path.nd (e_callB cr_len c_len (by rfl) z_len (by decide +kernel) (a_cons (e_lc rfl sc_law_path.nd (own := [("_law_other", 6)]) (blkOk_by (own := [("_law_other", 6)]) (N := N_law_path) (sc := defScope s_law_path) (by decide +kernel)) (i_seq (e_v 2)) (fun _ _ _ _ _ => (g_v sc_law_path.nd)) (fun _ _ _ _ _ => (ts_one (t_tru (e_cal c_law_is_above hr hg (a_cons (e_v 0) (a_cons (e_v 6) (a_cons (e_v 4) a_nil))))))) (fun _ _ _ _ _ => (e_v 6))) a_nil)))
    (s_cons (s_expr (e_append (e_v 3) (a_cons (e_tup (a_cons (e_v 5) (a_cons (e_v 4) a_nil))) a_nil)))
    s_nil)))
    (s_cons (s_ret (e_bin op_addP m_add (e_lc rfl sc_law_path.nd (own := [("_law_at", 5), ("_law_one", 4)]) (blkOk_by (own := [("_law_at", 5), ("_law_one", 4)]) (N := N_law_path) (sc := defScope s_law_path) (by decide +kernel)) (i_seq (e_callB (cr_sortP (uOf hr)) c_sort (by rfl) z_sorted (by decide +kernel) (a_cons (e_v 3) a_nil))) (fun _ _ _ _ _ => (g_tup (gs_cons (g_v sc_law_path.nd) (gs_cons (g_v sc_law_path.nd) gs_nil)))) (fun _ _ _ _ _ => ts_nil) (fun _ _ _ _ _ => (e_v 4))) (e_lst (a_cons (e_v 1) a_nil))))
    s_nil))))
/-! ### _law_children -/
abbrev s_law_children : Stmt := topOf pw 32
abbrev N_law_children : List Str := ["_law_question", "_law_column", "_law_found", "_law_one", "_law_path_here"]
abbrev P_law_children : List Str := ["_law_question", "_law_column"]
theorem sc_law_children : FnScope N_law_children P_law_children (defScope s_law_children) := ⟨rfl, rfl, rfl, by decide +kernel, rfl, by decide +kernel, by decide +kernel⟩
noncomputable def b_law_children : SM := (mSeq (mSet 2 (mNew mNil))
    (mSeq (mFor (mISeq (mBin ixM (mV 0) (mC (.int 0)))) (gV 3) (mSeq (mSet 4 (mFn P_law_path.length d_law_path (mCons (mV 0) (mCons (mV 3) mNil))))
    (mSeq (mIfS (mB (mBin eqM (mIf (mB (mBin gtM (mCall lenM (mCons (mV 4) mNil)) (mC (.int 1)))) (mBin ixM (mV 4) (mUn negM (mC (.int 2)))) (mC .non)) (mV 1))) (mSeq (mDrop (mMet (mV 2) (mCons (mV 3) mNil) appM))
    mNx) mNx)
    mNx)))
    (mSeq (mRet (mV 2))
    mNx)))
noncomputable def d_law_children : List D → M D := mDef N_law_children.length (b_law_children)
theorem ok_law_children {P : Program} {w : World} {K : PySem.W.Frag} {mg : Str → Option Value} {base : Heap} {a : Addr} {fd : FuncData} (F : Fun K "_law_children" "_law_children" s_law_children a fd) (c_law_path : Cal P w K mg base 3 "_law_path" P_law_path d_law_path) (z_len : mg "len" = none) : FnG P w K mg base 4 a fd P_law_children d_law_children :=
  fnG_of (N := N_law_children) (b_law_children) F sc_law_children fun cdv A outer s H E hr hg =>
    (s_cons (s_set sc_law_children.nd (e_new a_nil))
    (s_cons (s_for (vs := [3]) PassesOwn.never (i_seq (e_ix (e_v 0) e_int)) (g_v sc_law_children.nd) (s_cons (s_set sc_law_children.nd (e_cal c_law_path hr hg (a_cons (e_v 0) (a_cons (e_v 3) a_nil))))
    (s_cons (s_if (t_cmp (op_eqP (uOf hr)) m_eq (e_if (t_cmp op_gt m_gt (e_callB cr_len c_len (by rfl) z_len (by decide +kernel) (a_cons (e_v 4) a_nil)) e_int) (e_ix (e_v 4) (e_un un_neg m_neg e_int)) e_non) (e_v 1)) (s_cons (s_expr (e_append (e_v 2) (a_cons (e_v 3) a_nil)))
    s_nil) s_nil)
    s_nil)))
    (s_cons (s_ret (e_v 2))
    s_nil)))
/-! ### _law_is_int -/
abbrev s_law_is_int : Stmt := topOf pw 23
abbrev N_law_is_int : List Str := ["_law_thing"]
abbrev P_law_is_int : List Str := ["_law_thing"]
theorem sc_law_is_int : FnScope N_law_is_int P_law_is_int (defScope s_law_is_int) := ⟨rfl, rfl, rfl, by decide +kernel, rfl, by decide +kernel, by decide +kernel⟩
noncomputable def b_law_is_int : SM := (mSeq (mRet (mAndV (mUn (isiM "int") (mV 0)) (mNotV (mUn (isiM "bool") (mV 0)))))
    mNx)
noncomputable def d_law_is_int : List D → M D := mDef N_law_is_int.length (b_law_is_int)
theorem ok_law_is_int {P : Program} {w : World} {K : PySem.W.Frag} {mg : Str → Option Value} {base : Heap} {a : Addr} {fd : FuncData} (F : Fun K "_law_is_int" "_law_is_int" s_law_is_int a fd) (z_isinstance : mg "isinstance" = none) (z_int : mg "int" = none) (z_bool : mg "bool" = none) : FnG P w K mg base 1 a fd P_law_is_int d_law_is_int :=
  fnG_of (N := N_law_is_int) (b_law_is_int) F sc_law_is_int fun cdv A outer s H E hr hg =>
    (s_cons (s_ret (e_and (e_isi (T := "int") z_isinstance z_int (e_v 0) (by rfl)) (e_one (e_not (e_isi (T := "bool") z_isinstance z_bool (e_v 0) (by rfl))))))
    s_nil)
/-! ### _law_range_of -/
abbrev s_law_range_of : Stmt := topOf pw 33
abbrev N_law_range_of : List Str := ["_law_question", "_law_column", "_law_found", "_law_one", "_law_low", "_law_high"]
abbrev P_law_range_of : List Str := ["_law_question", "_law_column"]
theorem sc_law_range_of : FnScope N_law_range_of P_law_range_of (defScope s_law_range_of) := ⟨rfl, rfl, rfl, by decide +kernel, rfl, by decide +kernel, by decide +kernel⟩
noncomputable def b_law_range_of : SM := (mSeq (mSet 2 (mLc (mISeq (mBin ixM (mV 0) (mC (.int 2)))) [3, 4, 5] (gT 3 (gsCons (gV 3) (gsCons (gV 4) (gsCons (gV 5) gsNil)))) (mB (mBin eqM (mV 3) (mV 1))) (mTup (mCons (mV 4) (mCons (mV 5) mNil)))))
    (mSeq (mRet (mIf (mB (mBin neM (mV 2) (mLst mNil))) (mBin ixM (mV 2) (mC (.int 0))) (mTup (mCons (mC .non) (mCons (mC .non) mNil)))))
    mNx))
noncomputable def d_law_range_of : List D → M D := mDef N_law_range_of.length (b_law_range_of)
theorem ok_law_range_of {P : Program} {w : World} {K : PySem.W.Frag} {mg : Str → Option Value} {base : Heap} {a : Addr} {fd : FuncData} (F : Fun K "_law_range_of" "_law_range_of" s_law_range_of a fd) : FnG P w K mg base 1 a fd P_law_range_of d_law_range_of :=
  fnG_of (N := N_law_range_of) (b_law_range_of) F sc_law_range_of fun cdv A outer s H E hr hg =>
    (s_cons (s_setLc rfl sc_law_range_of.nd (own := [("_law_one", 3), ("_law_low", 4), ("_law_high", 5)]) (blkOk_by (own := [("_law_one", 3), ("_law_low", 4), ("_law_high", 5)]) (N := N_law_range_of) (sc := defScope s_law_range_of) (by decide +kernel)) (i_seq (e_ix (e_v 0) e_int)) (fun _ _ _ _ _ => (g_tup (gs_cons (g_v sc_law_range_of.nd) (gs_cons (g_v sc_law_range_of.nd) (gs_cons (g_v sc_law_range_of.nd) gs_nil))))) (fun _ _ _ _ _ => (ts_one (t_cmp (op_eqP (uOf hr)) m_eq (e_v 3) (e_v 1)))) (fun _ _ _ _ _ => (e_tup (a_cons (e_v 4) (a_cons (e_v 5) a_nil)))) (sw_true rfl rfl rfl (by decide +kernel)))
    (s_cons (s_ret (e_if (t_cmp (op_neP (uOf hr)) m_ne (e_v 2) (e_lst a_nil)) (e_ix (e_v 2) e_int) (e_tup (a_cons e_non (a_cons e_non a_nil)))))
    s_nil))
/-! ### _law_is_in_range -/
abbrev s_law_is_in_range : Stmt := topOf pw 34
abbrev N_law_is_in_range : List Str := ["_law_question", "_law_column", "_law_value", "_law_low", "_law_high"]
abbrev P_law_is_in_range : List Str := ["_law_question", "_law_column", "_law_value"]
theorem sc_law_is_in_range : FnScope N_law_is_in_range P_law_is_in_range (defScope s_law_is_in_range) := ⟨rfl, rfl, rfl, by decide +kernel, rfl, by decide +kernel, by decide +kernel⟩
noncomputable def b_law_is_in_range : SM := (mSeq (mAsg (mFn P_law_range_of.length d_law_range_of (mCons (mV 0) (mCons (mV 1) mNil))) (gT 2 (gsCons (gV 3) (gsCons (gV 4) gsNil))))
    (mSeq (mRet (mAndV (mOrV (mIsN (mV 3)) (mBin leM (mV 3) (mV 2))) (mOrV (mIsN (mV 4)) (mBin leM (mV 2) (mV 4)))))
    mNx))
noncomputable def d_law_is_in_range : List D → M D := mDef N_law_is_in_range.length (b_law_is_in_range)
theorem ok_law_is_in_range {P : Program} {w : World} {K : PySem.W.Frag} {mg : Str → Option Value} {base : Heap} {a : Addr} {fd : FuncData} (F : Fun K "_law_is_in_range" "_law_is_in_range" s_law_is_in_range a fd) (c_law_range_of : Cal P w K mg base 1 "_law_range_of" P_law_range_of d_law_range_of) : FnG P w K mg base 2 a fd P_law_is_in_range d_law_is_in_range :=
  fnG_of (N := N_law_is_in_range) (b_law_is_in_range) F sc_law_is_in_range fun cdv A outer s H E hr hg =>
    (s_cons (s_asg (vs := [3, 4]) (e_cal c_law_range_of hr hg (a_cons (e_v 0) (a_cons (e_v 1) a_nil))) (g_tup (gs_cons (g_v sc_law_is_in_range.nd) (gs_cons (g_v sc_law_is_in_range.nd) gs_nil))))
    (s_cons (s_ret (e_and (e_or (e_isN (e_v 3)) (e_one (e_cmp op_le m_le (e_v 3) (e_v 2)))) (e_one (e_or (e_isN (e_v 4)) (e_one (e_cmp op_le m_le (e_v 2) (e_v 4)))))))
    s_nil))
/-! ### _law_is_form -/
abbrev s_law_is_form : Stmt := topOf pw 39
abbrev N_law_is_form : List Str := ["_law_question", "_law_columns", "_law_thing", "_law_column", "_law_branch", "_law_place", "_law_one", "_law_other"]
abbrev P_law_is_form : List Str := ["_law_question", "_law_columns", "_law_thing"]
theorem sc_law_is_form : FnScope N_law_is_form P_law_is_form (defScope s_law_is_form) := ⟨rfl, rfl, rfl, by decide +kernel, rfl, by decide +kernel, by decide +kernel⟩
noncomputable def b_law_is_form (self : List D → M D) : SM := (mSeq (mIfS (mOr (mNot (mTru (mUn (isiM "tuple") (mV 2)))) (mB (mBin neM (mCall lenM (mCons (mV 2) mNil)) (mCall lenM (mCons (mV 1) mNil))))) (mSeq (mRet (mC (.bl false)))
    mNx) mNx)
    (mSeq (mFor (fun rho => bnd ((mCons (mV 1) (mCons (mV 2) mNil)) rho) zipM) (gT 2 (gsCons (gV 3) (gsCons (gV 4) gsNil))) (mSeq (mIfS (mOr (mNot (mTru (mUn (isiM "tuple") (mV 4)))) (mB (mBin eq0M (mV 4) (mTup mNil)))) (mSeq (mRet (mC (.bl false)))
    mNx) mNx)
    (mSeq (mFor (mISeq (mV 4)) (gV 5) (mSeq (mIfS (mOr (mNot (mTru (mUn (isiM "tuple") (mV 5)))) (mOr (mB (mBin neM (mCall lenM (mCons (mV 5) mNil)) (mC (.int 2)))) (mOr (mNot (mTru (mFn P_law_is_int.length d_law_is_int (mCons (mBin ixM (mV 5) (mC (.int 0))) mNil)))) (mNot (mTru (mFn P_law_is_in_range.length d_law_is_in_range (mCons (mV 0) (mCons (mV 3) (mCons (mBin ixM (mV 5) (mC (.int 0))) mNil))))))))) (mSeq (mRet (mC (.bl false)))
    mNx) mNx)
    (mSeq (mIfS (mNot (mTru (mFn P_law_is_form.length self (mCons (mV 0) (mCons (mFn P_law_children.length d_law_children (mCons (mV 0) (mCons (mV 3) mNil))) (mCons (mBin ixM (mV 5) (mC (.int 1))) mNil)))))) (mSeq (mRet (mC (.bl false)))
    mNx) mNx)
    mNx)))
    (mSeq (mIfS (mB (mBin neM (mLc (fun rho => bnd ((mCons (mV 4) (mCons (mSl (mV 4) (mPart (mC (.int 1))) (fun _ => ret none)) mNil)) rho) zipM) [6, 7] (gT 2 (gsCons (gV 6) (gsCons (gV 7) gsNil))) (mB (mBin geM (mBin ixM (mV 6) (mC (.int 0))) (mBin ixM (mV 7) (mC (.int 0))))) (mC (.int 1))) (mLst mNil))) (mSeq (mRet (mC (.bl false)))
    mNx) mNx)
    mNx))))
    (mSeq (mRet (mC (.bl true)))
    mNx)))
noncomputable def d_law_is_form : Nat → List D → M D
  | 0 => fun _ => fail
  | n + 1 => mDef N_law_is_form.length (b_law_is_form (d_law_is_form n))
theorem ok_law_is_form {P : Program} {w : World} {K : PySem.W.Frag} {mg : Str → Option Value} {base : Heap} {a : Addr} {fd : FuncData} (F : Fun K "_law_is_form" "_law_is_form" s_law_is_form a fd) (hmg : mg "_law_is_form" = some (.ref a)) (hkk : PySem.W.keepIn K (.ref a) = true) (hB : Binds K fd P_law_is_form []) (c0_law_children : Cal P w K mg base 4 "_law_children" P_law_children d_law_children) (c0_law_is_int : Cal P w K mg base 4 "_law_is_int" P_law_is_int d_law_is_int) (c0_law_is_in_range : Cal P w K mg base 4 "_law_is_in_range" P_law_is_in_range d_law_is_in_range) (z_zip : mg "zip" = none) (z_isinstance : mg "isinstance" = none) (z_tuple : mg "tuple" = none) (z_len : mg "len" = none) : ∀ n : Nat, FnG P w K mg base (4 + n) a fd P_law_is_form (d_law_is_form n)
  | 0 => fnG_fail
  | n + 1 => by
    have c_law_children := c0_law_children.mono (Nat.le_add_right 4 n)
    have c_law_is_int := c0_law_is_int.mono (Nat.le_add_right 4 n)
    have c_law_is_in_range := c0_law_is_in_range.mono (Nat.le_add_right 4 n)
    have c_law_is_form : Cal P w K mg base (4 + n) "_law_is_form" P_law_is_form (d_law_is_form n) := ⟨a, fd, ok_law_is_form F hmg hkk hB c0_law_children c0_law_is_int c0_law_is_in_range z_zip z_isinstance z_tuple z_len n, hmg, hkk, hB⟩
    exact fnG_of (N := N_law_is_form) (b_law_is_form (d_law_is_form n)) F sc_law_is_form fun cdv A outer s H E hr hg =>
    (s_cons (s_if (t_w (w_or (t_not (t_tru (e_isi (T := "tuple") z_isinstance z_tuple (e_v 2) (by rfl)))) (w_or1 (t_cmp (op_neP (uOf hr)) m_ne (e_callB cr_len c_len (by rfl) z_len (by decide +kernel) (a_cons (e_v 2) a_nil)) (e_callB cr_len c_len (by rfl) z_len (by decide +kernel) (a_cons (e_v 1) a_nil)))))) (s_cons (s_ret e_bl)
    s_nil) s_nil)
    (s_cons (s_for (vs := [3, 4]) PassesOwn.never (i_zip z_zip (a_cons (e_v 1) (a_cons (e_v 2) a_nil))) (g_tup (gs_cons (g_v sc_law_is_form.nd) (gs_cons (g_v sc_law_is_form.nd) gs_nil))) (s_cons (s_if (t_w (w_or (t_not (t_tru (e_isi (T := "tuple") z_isinstance z_tuple (e_v 4) (by rfl)))) (w_or1 (t_cmp (op_eq0 (uOf hr)) m_eqE (e_v 4) (e_tup a_nil))))) (s_cons (s_ret e_bl)
    s_nil) s_nil)
    (s_cons (s_for (vs := [5]) PassesOwn.never (i_seq (e_v 4)) (g_v sc_law_is_form.nd) (s_cons (s_if (t_w (w_or (t_not (t_tru (e_isi (T := "tuple") z_isinstance z_tuple (e_v 5) (by rfl)))) (w_or (t_cmp (op_neP (uOf hr)) m_ne (e_callB cr_len c_len (by rfl) z_len (by decide +kernel) (a_cons (e_v 5) a_nil)) e_int) (w_or (t_not (t_tru (e_cal c_law_is_int hr hg (a_cons (e_ix (e_v 5) e_int) a_nil)))) (w_or1 (t_not (t_tru (e_cal c_law_is_in_range hr hg (a_cons (e_v 0) (a_cons (e_v 3) (a_cons (e_ix (e_v 5) e_int) a_nil))))))))))) (s_cons (s_ret e_bl)
    s_nil) s_nil)
    (s_cons (s_if (t_not (t_tru (e_cal c_law_is_form hr hg (a_cons (e_v 0) (a_cons (e_cal c_law_children hr hg (a_cons (e_v 0) (a_cons (e_v 3) a_nil))) (a_cons (e_ix (e_v 5) e_int) a_nil)))))) (s_cons (s_ret e_bl)
    s_nil) s_nil)
    s_nil)))
    (s_cons (s_if (t_cmp (op_neP (uOf hr)) m_ne (e_lc rfl sc_law_is_form.nd (own := [("_law_one", 6), ("_law_other", 7)]) (blkOk_by (own := [("_law_one", 6), ("_law_other", 7)]) (N := N_law_is_form) (sc := defScope s_law_is_form) (by decide +kernel)) (i_zip z_zip (a_cons (e_v 4) (a_cons (e_sl (e_v 4) (o_some e_int) o_none) a_nil))) (fun _ _ _ _ _ => (g_tup (gs_cons (g_v sc_law_is_form.nd) (gs_cons (g_v sc_law_is_form.nd) gs_nil)))) (fun _ _ _ _ _ => (ts_one (t_cmp op_ge m_ge (e_ix (e_v 6) e_int) (e_ix (e_v 7) e_int)))) (fun _ _ _ _ _ => e_int)) (e_lst a_nil)) (s_cons (s_ret e_bl)
    s_nil) s_nil)
    s_nil))))
    (s_cons (s_ret e_bl)
    s_nil)))
/-! ### _law_take -/
abbrev s_law_take : Stmt := topOf pw 19
abbrev N_law_take : List Str := ["_law_bag_here", "_law_many", "_law_cell", "_law_stirred", "_law_value", "_law_begin", "_law_second"]
abbrev P_law_take : List Str := ["_law_bag_here", "_law_many"]
theorem sc_law_take : FnScope N_law_take P_law_take (defScope s_law_take) := ⟨rfl, rfl, rfl, by decide +kernel, rfl, by decide +kernel, by decide +kernel⟩
noncomputable def b_law_take : SM := (mSeq (mIfS (mB (mBin eqM (mBin ixM (mV 0) (mC (.int 0))) (mC (.int 0)))) (mSeq (mSet 2 (mBin ixM (mBin addM (mSl (mBin ixM (mV 0) (mC (.int 3))) (mPart (mBin ixM (mV 0) (mC (.int 2)))) (fun _ => ret none)) (mLst (mCons (mC (.int 0)) mNil))) (mC (.int 0))))
    (mSeq (mAugS (mV 0) (mC (.int 2)) (mC (.int 1)) (intF fun i j => i + j))
    (mSeq (mIfS (mB (mBin geM (mV 2) (mBin powM (mC (.int 10)) (mC (.int 18))))) (mSeq (mPut (mV 0) (mC (.int 0)) (mV 2))
    mNx) mNx)
    (mSeq (mSet 3 (mBin addM (mBin addM (mBin mulM (mBin ixM (mV 0) (mC (.int 1))) (mC (.int 48271))) (mBin modM (mCall toIntM (mCons (mV 2) mNil)) (mC (.int 2147483647)))) (mBin mulM (mC (.int 7919)) (mBin ixM (mV 0) (mC (.int 2))))))
    (mSeq (mPut (mV 0) (mC (.int 1)) (mBin modM (mCall toIntM (mCons (mV 3) mNil)) (mC (.int 2147483647))))
    mNx))))) mNx)
    (mSeq (mIfS (mB (mBin gtM (mBin ixM (mV 0) (mC (.int 0))) (mC (.int 0)))) (mSeq (mSet 4 (mBin modM (mCall toIntM (mCons (mBin ixM (mV 0) (mC (.int 0))) mNil)) (mV 1)))
    (mSeq (mPut (mV 0) (mC (.int 0)) (mBin divM (mCall toIntM (mCons (mBin ixM (mV 0) (mC (.int 0))) mNil)) (mV 1)))
    (mSeq (mRet (mV 4))
    mNx))) mNx)
    (mSeq (mSet 5 (mBin modM (mCall toIntM (mCons (mBin mulM (mBin addM (mBin ixM (mV 0) (mC (.int 1))) (mC (.int 1))) (mC (.int 39373))) mNil)) (mC (.int 1000000007))))
    (mSeq (mSet 6 (mBin modM (mCall toIntM (mCons (mBin mulM (mBin modM (mCall toIntM (mCons (mBin mulM (mV 5) (mV 5)) mNil)) (mC (.int 998244353))) (mC (.int 30011))) mNil)) (mC (.int 998244353))))
    (mSeq (mRet (mBin modM (mCall toIntM (mCons (mBin divM (mV 6) (mC (.int 7))) mNil)) (mV 1)))
    mNx)))))
noncomputable def d_law_take : List D → M D := mDef N_law_take.length (b_law_take)
theorem ok_law_take {P : Program} {w : World} {K : PySem.W.Frag} {mg : Str → Option Value} {base : Heap} {a : Addr} {fd : FuncData} (F : Fun K "_law_take" "_law_take" s_law_take a fd) (z_int : mg "int" = none) : FnG P w K mg base 1 a fd P_law_take d_law_take :=
  fnG_of (N := N_law_take) (b_law_take) F sc_law_take fun cdv A outer s H E hr hg =>
    (s_cons (s_if (t_cmp (op_eqP (uOf hr)) m_eq (e_ix (e_v 0) e_int) e_int) (s_cons (s_set sc_law_take.nd (e_ix (e_bin op_addP m_add (e_sl (e_ix (e_v 0) e_int) (o_some (e_ix (e_v 0) e_int)) o_none) (e_lst (a_cons e_int a_nil))) e_int))
    (s_cons (s_augS ip_add ip_int (e_v 0) e_int e_int)
    (s_cons (s_if (t_cmp op_ge m_ge (e_v 2) (e_bin op_pow m_pow e_int e_int)) (s_cons (s_put (e_v 2) (e_v 0) e_int)
    s_nil) s_nil)
    (s_cons (s_set sc_law_take.nd (e_bin op_addP m_add (e_bin op_addP m_add (e_bin op_mulP m_mul (e_ix (e_v 0) e_int) e_int) (e_bin op_mod m_mod (e_callT call_int1 c_int (by rfl) z_int (by decide +kernel) (a_cons (e_v 2) a_nil)) e_int)) (e_bin op_mulP m_mul e_int (e_ix (e_v 0) e_int))))
    (s_cons (s_put (e_bin op_mod m_mod (e_callT call_int1 c_int (by rfl) z_int (by decide +kernel) (a_cons (e_v 3) a_nil)) e_int) (e_v 0) e_int)
    s_nil))))) s_nil)
    (s_cons (s_if (t_cmp op_gt m_gt (e_ix (e_v 0) e_int) e_int) (s_cons (s_set sc_law_take.nd (e_bin op_mod m_mod (e_callT call_int1 c_int (by rfl) z_int (by decide +kernel) (a_cons (e_ix (e_v 0) e_int) a_nil)) (e_v 1)))
    (s_cons (s_put (e_bin op_fdiv m_div (e_callT call_int1 c_int (by rfl) z_int (by decide +kernel) (a_cons (e_ix (e_v 0) e_int) a_nil)) (e_v 1)) (e_v 0) e_int)
    (s_cons (s_ret (e_v 4))
    s_nil))) s_nil)
    (s_cons (s_set sc_law_take.nd (e_bin op_mod m_mod (e_callT call_int1 c_int (by rfl) z_int (by decide +kernel) (a_cons (e_bin op_mulP m_mul (e_bin op_addP m_add (e_ix (e_v 0) e_int) e_int) e_int) a_nil)) e_int))
    (s_cons (s_set sc_law_take.nd (e_bin op_mod m_mod (e_callT call_int1 c_int (by rfl) z_int (by decide +kernel) (a_cons (e_bin op_mulP m_mul (e_bin op_mod m_mod (e_callT call_int1 c_int (by rfl) z_int (by decide +kernel) (a_cons (e_bin op_mulP m_mul (e_v 5) (e_v 5)) a_nil)) e_int) e_int) a_nil)) e_int))
    (s_cons (s_ret (e_bin op_mod m_mod (e_callT call_int1 c_int (by rfl) z_int (by decide +kernel) (a_cons (e_bin op_fdiv m_div (e_v 6) e_int) a_nil)) (e_v 1)))
    s_nil)))))
/-! ### _law_some -/
abbrev s_law_some : Stmt := topOf pw 20
abbrev N_law_some : List Str := ["_law_bag_here", "_law_things"]
abbrev P_law_some : List Str := ["_law_bag_here", "_law_things"]
theorem sc_law_some : FnScope N_law_some P_law_some (defScope s_law_some) := ⟨rfl, rfl, rfl, by decide +kernel, rfl, by decide +kernel, by decide +kernel⟩
noncomputable def b_law_some : SM := (mSeq (mRet (mBin ixM (mV 1) (mFn P_law_take.length d_law_take (mCons (mV 0) (mCons (mCall lenM (mCons (mV 1) mNil)) mNil)))))
    mNx)
noncomputable def d_law_some : List D → M D := mDef N_law_some.length (b_law_some)
theorem ok_law_some {P : Program} {w : World} {K : PySem.W.Frag} {mg : Str → Option Value} {base : Heap} {a : Addr} {fd : FuncData} (F : Fun K "_law_some" "_law_some" s_law_some a fd) (c_law_take : Cal P w K mg base 1 "_law_take" P_law_take d_law_take) (z_len : mg "len" = none) : FnG P w K mg base 2 a fd P_law_some d_law_some :=
  fnG_of (N := N_law_some) (b_law_some) F sc_law_some fun cdv A outer s H E hr hg =>
    (s_cons (s_ret (e_ix (e_v 1) (e_cal c_law_take hr hg (a_cons (e_v 0) (a_cons (e_callB cr_len c_len (by rfl) z_len (by decide +kernel) (a_cons (e_v 1) a_nil)) a_nil)))))
    s_nil)
/-! ### _law_odd -/
abbrev s_law_odd : Stmt := topOf pw 37
abbrev N_law_odd : List Str := ["_law_bag_here"]
abbrev P_law_odd : List Str := ["_law_bag_here"]
theorem sc_law_odd : FnScope N_law_odd P_law_odd (defScope s_law_odd) := ⟨rfl, rfl, rfl, by decide +kernel, rfl, by decide +kernel, by decide +kernel⟩
noncomputable def b_law_odd : SM := (mSeq (mRet (mFn P_law_some.length d_law_some (mCons (mV 0) (mCons (mLst (mCons (mC .non) (mCons (mC (.bl true)) (mCons (mC (.int 0)) (mCons (mUn negM (mC (.int 1))) (mCons (mC (.str "")) (mCons (mC (.str "a")) (mCons (mC (.str "none")) (mCons (mTup mNil) (mCons (mLst mNil) (mCons mDic0 (mCons (mTup (mCons (mTup mNil) mNil)) (mCons (mTup (mCons (mC (.int 0)) mNil)) (mCons (mTup (mCons (mTup (mCons (mC (.int 0)) (mCons (mTup mNil) mNil))) mNil)) (mCons (mTup (mCons (mTup (mCons (mTup (mCons (mC (.int 0)) (mCons (mTup mNil) mNil))) mNil)) mNil)) (mCons (mTup (mCons (mC (.int 1)) (mCons (mC (.int 2)) mNil))) (mCons (mTup (mCons (mC (.str "a")) mNil)) (mCons (mBin powM (mC (.int 10)) (mC (.int 39))) mNil)))))))))))))))))) mNil))))
    mNx)
noncomputable def d_law_odd : List D → M D := mDef N_law_odd.length (b_law_odd)
theorem ok_law_odd {P : Program} {w : World} {K : PySem.W.Frag} {mg : Str → Option Value} {base : Heap} {a : Addr} {fd : FuncData} (F : Fun K "_law_odd" "_law_odd" s_law_odd a fd) (c_law_some : Cal P w K mg base 2 "_law_some" P_law_some d_law_some) : FnG P w K mg base 3 a fd P_law_odd d_law_odd :=
  fnG_of (N := N_law_odd) (b_law_odd) F sc_law_odd fun cdv A outer s H E hr hg =>
    (s_cons (s_ret (e_cal c_law_some hr hg (a_cons (e_v 0) (a_cons (e_lst (a_cons e_non (a_cons e_bl (a_cons e_int (a_cons (e_un un_neg m_neg e_int) (a_cons e_str (a_cons e_str (a_cons e_str (a_cons (e_tup a_nil) (a_cons (e_lst a_nil) (a_cons e_dic0 (a_cons (e_tup (a_cons (e_tup a_nil) a_nil)) (a_cons (e_tup (a_cons e_int a_nil)) (a_cons (e_tup (a_cons (e_tup (a_cons e_int (a_cons (e_tup a_nil) a_nil))) a_nil)) (a_cons (e_tup (a_cons (e_tup (a_cons (e_tup (a_cons e_int (a_cons (e_tup a_nil) a_nil))) a_nil)) a_nil)) (a_cons (e_tup (a_cons e_int (a_cons e_int a_nil))) (a_cons (e_tup (a_cons e_str a_nil)) (a_cons (e_bin op_pow m_pow e_int e_int) a_nil)))))))))))))))))) a_nil))))
    s_nil)
/-! ### _law_drawn_shape -/
abbrev s_law_drawn_shape : Stmt := topOf pw 35
abbrev N_law_drawn_shape : List Str := ["_law_bag_here", "_law_question", "_law_columns", "_law_wide", "_law_found", "_law_column", "_law_low", "_law_high", "_law_begin", "_law_values", "_law_below", "_law_turn", "_law_value"]
abbrev P_law_drawn_shape : List Str := ["_law_bag_here", "_law_question", "_law_columns", "_law_wide"]
theorem sc_law_drawn_shape : FnScope N_law_drawn_shape P_law_drawn_shape (defScope s_law_drawn_shape) := ⟨rfl, rfl, rfl, by decide +kernel, rfl, by decide +kernel, by decide +kernel⟩
noncomputable def b_law_drawn_shape (self : List D → M D) : SM := (mSeq (mSet 4 (mNew mNil))
    (mSeq (mFor (mISeq (mV 2)) (gV 5) (mSeq (mAsg (mFn P_law_range_of.length d_law_range_of (mCons (mV 1) (mCons (mV 5) mNil))) (gT 2 (gsCons (gV 6) (gsCons (gV 7) gsNil))))
    (mSeq (mSet 8 (mIf (mB (mNotN (mV 6))) (mV 6) (mIf (mB (mNotN (mV 7))) (mBin subM (mV 7) (mC (.int 6))) (mUn negM (mC (.int 2))))))
    (mSeq (mSet 9 (mBin addM (mLst (mCons (mV 8) mNil)) (mLc (mIR rng1M (mCons (mFn P_law_some.length d_law_some (mCons (mV 0) (mCons (mLst (mCons (mC (.int 0)) (mCons (mC (.int 1)) (mCons (mC (.int 2)) (mCons (mV 3) mNil))))) mNil))) mNil)) [11] (gV 11) mYes (mBin addM (mV 8) (mFn P_law_take.length d_law_take (mCons (mV 0) (mCons (mC (.int 7)) mNil)))))))
    (mSeq (mSet 9 (mLc (mISeq (mUn ssetM (mBin addM (mSl (mV 9) (mPart (mFn P_law_take.length d_law_take (mCons (mV 0) (mCons (mC (.int 2)) mNil)))) (fun _ => ret none)) (mSl (mV 9) (mPart (mUn negM (mC (.int 1)))) (fun _ => ret none))))) [12] (gV 12) (mOr (mB (mIsN (mV 7))) (mB (mBin leM (mV 12) (mV 7)))) (mV 12)))
    (mSeq (mSet 9 (mIf (mB (mBin neM (mV 9) (mLst mNil))) (mV 9) (mLst (mCons (mV 8) mNil))))
    (mSeq (mSet 10 (mFn P_law_children.length d_law_children (mCons (mV 1) (mCons (mV 5) mNil))))
    (mSeq (mDrop (mMet (mV 4) (mCons (mCall tupleM (mCons (mLc (mISeq (mV 9)) [12] (gV 12) mYes (mTup (mCons (mV 12) (mCons (mFn P_law_drawn_shape.length self (mCons (mV 0) (mCons (mV 1) (mCons (mV 10) (mCons (mV 3) mNil))))) mNil)))) mNil)) mNil) appM))
    mNx))))))))
    (mSeq (mRet (mCall tupleM (mCons (mV 4) mNil)))
    mNx)))
noncomputable def d_law_drawn_shape : Nat → List D → M D
  | 0 => fun _ => fail
  | n + 1 => mDef N_law_drawn_shape.length (b_law_drawn_shape (d_law_drawn_shape n))
theorem ok_law_drawn_shape {P : Program} {w : World} {K : PySem.W.Frag} {mg : Str → Option Value} {base : Heap} {a : Addr} {fd : FuncData} (F : Fun K "_law_drawn_shape" "_law_drawn_shape" s_law_drawn_shape a fd) (hmg : mg "_law_drawn_shape" = some (.ref a)) (hkk : PySem.W.keepIn K (.ref a) = true) (hB : Binds K fd P_law_drawn_shape []) (c0_law_children : Cal P w K mg base 4 "_law_children" P_law_children d_law_children) (c0_law_take : Cal P w K mg base 4 "_law_take" P_law_take d_law_take) (c0_law_some : Cal P w K mg base 4 "_law_some" P_law_some d_law_some) (c0_law_range_of : Cal P w K mg base 4 "_law_range_of" P_law_range_of d_law_range_of) (z_tuple : mg "tuple" = none) (z_sorted : mg "sorted" = none) (z_set : mg "set" = none) (z_range : mg "range" = none) : ∀ n : Nat, FnG P w K mg base (4 + n) a fd P_law_drawn_shape (d_law_drawn_shape n)
  | 0 => fnG_fail
  | n + 1 => by
    have c_law_children := c0_law_children.mono (Nat.le_add_right 4 n)
    have c_law_take := c0_law_take.mono (Nat.le_add_right 4 n)
    have c_law_some := c0_law_some.mono (Nat.le_add_right 4 n)
    have c_law_range_of := c0_law_range_of.mono (Nat.le_add_right 4 n)
    have c_law_drawn_shape : Cal P w K mg base (4 + n) "_law_drawn_shape" P_law_drawn_shape (d_law_drawn_shape n) := ⟨a, fd, ok_law_drawn_shape F hmg hkk hB c0_law_children c0_law_take c0_law_some c0_law_range_of z_tuple z_sorted z_set z_range n, hmg, hkk, hB⟩
    exact fnG_of (N := N_law_drawn_shape) (b_law_drawn_shape (d_law_drawn_shape n)) F sc_law_drawn_shape fun cdv A outer s H E hr hg =>
    (s_cons (s_set sc_law_drawn_shape.nd (e_new a_nil))
    (s_cons (s_for (vs := [5]) PassesOwn.never (i_seq (e_v 2)) (g_v sc_law_drawn_shape.nd) (s_cons (s_asg (vs := [6, 7]) (e_cal c_law_range_of hr hg (a_cons (e_v 1) (a_cons (e_v 5) a_nil))) (g_tup (gs_cons (g_v sc_law_drawn_shape.nd) (gs_cons (g_v sc_law_drawn_shape.nd) gs_nil))))
    (s_cons (s_set sc_law_drawn_shape.nd (e_if (t_notN (e_v 6)) (e_v 6) (e_if (t_notN (e_v 7)) (e_bin op_sub m_sub (e_v 7) e_int) (e_un un_neg m_neg e_int))))
    (s_cons (s_set sc_law_drawn_shape.nd (e_bin op_addP m_add (e_lst (a_cons (e_v 8) a_nil)) (e_lc rfl sc_law_drawn_shape.nd (own := [("_law_turn", 11)]) (blkOk_by (own := [("_law_turn", 11)]) (N := N_law_drawn_shape) (sc := defScope s_law_drawn_shape) (by decide +kernel)) (i_rng1 z_range (a_cons (e_cal c_law_some hr hg (a_cons (e_v 0) (a_cons (e_lst (a_cons e_int (a_cons e_int (a_cons e_int (a_cons (e_v 3) a_nil))))) a_nil))) a_nil)) (fun _ _ _ _ _ => (g_v sc_law_drawn_shape.nd)) (fun _ _ _ _ _ => ts_nil) (fun _ _ _ _ _ => (e_bin op_addP m_add (e_v 8) (e_cal c_law_take hr hg (a_cons (e_v 0) (a_cons e_int a_nil))))))))
    (s_cons (s_setLc rfl sc_law_drawn_shape.nd (own := [("_law_value", 12)]) (blkOk_by (own := [("_law_value", 12)]) (N := N_law_drawn_shape) (sc := defScope s_law_drawn_shape) (by decide +kernel)) (i_seq (e_sset rfl (uOf hr) (by rfl) z_sorted (by rfl) z_set (e_bin op_addP m_add (e_sl (e_v 9) (o_some (e_cal c_law_take hr hg (a_cons (e_v 0) (a_cons e_int a_nil)))) o_none) (e_sl (e_v 9) (o_some (e_un un_neg m_neg e_int)) o_none)))) (fun _ _ _ _ _ => (g_v sc_law_drawn_shape.nd)) (fun _ _ _ _ _ => (ts_one (t_w (w_or (t_isN (e_v 7)) (w_or1 (t_cmp op_le m_le (e_v 12) (e_v 7))))))) (fun _ _ _ _ _ => (e_v 12)) (sw_true rfl rfl rfl (by decide +kernel)))
    (s_cons (s_set sc_law_drawn_shape.nd (e_if (t_cmp (op_neP (uOf hr)) m_ne (e_v 9) (e_lst a_nil)) (e_v 9) (e_lst (a_cons (e_v 8) a_nil))))
    (s_cons (s_set sc_law_drawn_shape.nd (e_cal c_law_children hr hg (a_cons (e_v 1) (a_cons (e_v 5) a_nil))))
    (s_cons (s_expr (e_append (e_v 4) (a_cons (e_callT call_tupF c_tuple (by rfl) z_tuple (by decide +kernel) (a_cons (e_lc rfl sc_law_drawn_shape.nd (own := [("_law_value", 12)]) (blkOk_by (own := [("_law_value", 12)]) (N := N_law_drawn_shape) (sc := defScope s_law_drawn_shape) (by decide +kernel)) (i_seq (e_v 9)) (fun _ _ _ _ _ => (g_v sc_law_drawn_shape.nd)) (fun _ _ _ _ _ => ts_nil) (fun _ _ _ _ _ => (e_tup (a_cons (e_v 12) (a_cons (e_cal c_law_drawn_shape hr hg (a_cons (e_v 0) (a_cons (e_v 1) (a_cons (e_v 10) (a_cons (e_v 3) a_nil))))) a_nil))))) a_nil)) a_nil)))
    s_nil))))))))
    (s_cons (s_ret (e_callT call_tupF c_tuple (by rfl) z_tuple (by decide +kernel) (a_cons (e_v 4) a_nil)))
    s_nil)))
/-! ### _law_any_shape -/
abbrev s_law_any_shape : Stmt := topOf pw 36
abbrev N_law_any_shape : List Str := ["_law_bag_here", "_law_question"]
abbrev P_law_any_shape : List Str := ["_law_bag_here", "_law_question"]
theorem sc_law_any_shape : FnScope N_law_any_shape P_law_any_shape (defScope s_law_any_shape) := ⟨rfl, rfl, rfl, by decide +kernel, rfl, by decide +kernel, by decide +kernel⟩
noncomputable def b_law_any_shape : SM := (mSeq (mIfS (mB (mBin eqM (mFn P_law_take.length d_law_take (mCons (mV 0) (mCons (mC (.int 12)) mNil))) (mC (.int 0)))) (mSeq (mRet (mC .non))
    mNx) mNx)
    (mSeq (mRet (mFn P_law_drawn_shape.length (d_law_drawn_shape 8) (mCons (mV 0) (mCons (mV 1) (mCons (mFn P_law_children.length d_law_children (mCons (mV 1) (mCons (mC .non) mNil))) (mCons (mFn P_law_some.length d_law_some (mCons (mV 0) (mCons (mLst (mCons (mC (.int 1)) (mCons (mC (.int 2)) (mCons (mC (.int 3)) mNil)))) mNil))) mNil))))))
    mNx))
noncomputable def d_law_any_shape : List D → M D := mDef N_law_any_shape.length (b_law_any_shape)
theorem ok_law_any_shape {P : Program} {w : World} {K : PySem.W.Frag} {mg : Str → Option Value} {base : Heap} {a : Addr} {fd : FuncData} (F : Fun K "_law_any_shape" "_law_any_shape" s_law_any_shape a fd) (c_law_some : Cal P w K mg base 12 "_law_some" P_law_some d_law_some) (c_law_children : Cal P w K mg base 12 "_law_children" P_law_children d_law_children) (c_law_drawn_shape : Cal P w K mg base 12 "_law_drawn_shape" P_law_drawn_shape (d_law_drawn_shape 8)) (c_law_take : Cal P w K mg base 12 "_law_take" P_law_take d_law_take) : FnG P w K mg base 13 a fd P_law_any_shape d_law_any_shape :=
  fnG_of (N := N_law_any_shape) (b_law_any_shape) F sc_law_any_shape fun cdv A outer s H E hr hg =>
    (s_cons (s_if (t_cmp (op_eqP (uOf hr)) m_eq (e_cal c_law_take hr hg (a_cons (e_v 0) (a_cons e_int a_nil))) e_int) (s_cons (s_ret e_non)
    s_nil) s_nil)
    (s_cons (s_ret (e_cal c_law_drawn_shape hr hg (a_cons (e_v 0) (a_cons (e_v 1) (a_cons (e_cal c_law_children hr hg (a_cons (e_v 1) (a_cons e_non a_nil))) (a_cons (e_cal c_law_some hr hg (a_cons (e_v 0) (a_cons (e_lst (a_cons e_int (a_cons e_int (a_cons e_int a_nil)))) a_nil))) a_nil))))))
    s_nil))
/-! ### _law_bent -/
abbrev s_law_bent : Stmt := topOf pw 38
abbrev N_law_bent : List Str := ["_law_bag_here", "_law_thing", "_law_at"]
abbrev P_law_bent : List Str := ["_law_bag_here", "_law_thing"]
theorem sc_law_bent : FnScope N_law_bent P_law_bent (defScope s_law_bent) := ⟨rfl, rfl, rfl, by decide +kernel, rfl, by decide +kernel, by decide +kernel⟩
noncomputable def b_law_bent (self : List D → M D) : SM := (mSeq (mIfS (mAnd (mTru (mUn (isiM "tuple") (mV 1))) (mAnd (mB (mBin ne0M (mV 1) (mTup mNil))) (mB (mBin gtM (mFn P_law_take.length d_law_take (mCons (mV 0) (mCons (mC (.int 6)) mNil))) (mC (.int 0)))))) (mSeq (mSet 2 (mFn P_law_take.length d_law_take (mCons (mV 0) (mCons (mCall lenM (mCons (mV 1) mNil)) mNil))))
    (mSeq (mRet (mBin addM (mBin addM (mSl (mV 1) (fun _ => ret none) (mPart (mV 2))) (mTup (mCons (mFn P_law_bent.length self (mCons (mV 0) (mCons (mBin ixM (mV 1) (mV 2)) mNil))) mNil))) (mSl (mV 1) (mPart (mBin addM (mV 2) (mC (.int 1)))) (fun _ => ret none))))
    mNx)) mNx)
    (mSeq (mIfS (mTru (mUn (isiM "tuple") (mV 1))) (mSeq (mRet (mFn P_law_some.length d_law_some (mCons (mV 0) (mCons (mLst (mCons (mCall listM (mCons (mV 1) mNil)) (mCons (mSl (mV 1) (mPart (mC (.int 1))) (fun _ => ret none)) (mCons (mBin addM (mV 1) (mSl (mV 1) (fun _ => ret none) (mPart (mC (.int 1))))) (mCons (mUn revM (mV 1)) (mCons (mFn P_law_odd.length d_law_odd (mCons (mV 0) mNil)) mNil)))))) mNil))))
    mNx) mNx)
    (mSeq (mIfS (mTru (mFn P_law_is_int.length d_law_is_int (mCons (mV 1) mNil))) (mSeq (mRet (mFn P_law_some.length d_law_some (mCons (mV 0) (mCons (mLst (mCons (mBin addM (mV 1) (mC (.int 1))) (mCons (mBin subM (mV 1) (mC (.int 1))) (mCons (mBin eqM (mV 1) (mC (.int 1))) (mCons (mC .non) (mCons (mCall strIM (mCons (mV 1) mNil)) (mCons (mTup (mCons (mV 1) mNil)) mNil))))))) mNil))))
    mNx) mNx)
    (mSeq (mRet (mFn P_law_odd.length d_law_odd (mCons (mV 0) mNil)))
    mNx))))
noncomputable def d_law_bent : Nat → List D → M D
  | 0 => fun _ => fail
  | n + 1 => mDef N_law_bent.length (b_law_bent (d_law_bent n))
theorem ok_law_bent {P : Program} {w : World} {K : PySem.W.Frag} {mg : Str → Option Value} {base : Heap} {a : Addr} {fd : FuncData} (F : Fun K "_law_bent" "_law_bent" s_law_bent a fd) (hmg : mg "_law_bent" = some (.ref a)) (hkk : PySem.W.keepIn K (.ref a) = true) (hB : Binds K fd P_law_bent []) (c0_law_odd : Cal P w K mg base 3 "_law_odd" P_law_odd d_law_odd) (c0_law_is_int : Cal P w K mg base 3 "_law_is_int" P_law_is_int d_law_is_int) (c0_law_some : Cal P w K mg base 3 "_law_some" P_law_some d_law_some) (c0_law_take : Cal P w K mg base 3 "_law_take" P_law_take d_law_take) (z_str : mg "str" = none) (z_isinstance : mg "isinstance" = none) (z_tuple : mg "tuple" = none) (z_list : mg "list" = none) (z_len : mg "len" = none) : ∀ n : Nat, FnG P w K mg base (3 + n) a fd P_law_bent (d_law_bent n)
  | 0 => fnG_fail
  | n + 1 => by
    have c_law_odd := c0_law_odd.mono (Nat.le_add_right 3 n)
    have c_law_is_int := c0_law_is_int.mono (Nat.le_add_right 3 n)
    have c_law_some := c0_law_some.mono (Nat.le_add_right 3 n)
    have c_law_take := c0_law_take.mono (Nat.le_add_right 3 n)
    have c_law_bent : Cal P w K mg base (3 + n) "_law_bent" P_law_bent (d_law_bent n) := ⟨a, fd, ok_law_bent F hmg hkk hB c0_law_odd c0_law_is_int c0_law_some c0_law_take z_str z_isinstance z_tuple z_list z_len n, hmg, hkk, hB⟩
    exact fnG_of (N := N_law_bent) (b_law_bent (d_law_bent n)) F sc_law_bent fun cdv A outer s H E hr hg =>
    (s_cons (s_if (t_w (w_and (t_tru (e_isi (T := "tuple") z_isinstance z_tuple (e_v 1) (by rfl))) (w_and (t_cmp (op_ne0 (uOf hr)) m_neE (e_v 1) (e_tup a_nil)) (w_and1 (t_cmp op_gt m_gt (e_cal c_law_take hr hg (a_cons (e_v 0) (a_cons e_int a_nil))) e_int))))) (s_cons (s_set sc_law_bent.nd (e_cal c_law_take hr hg (a_cons (e_v 0) (a_cons (e_callB cr_len c_len (by rfl) z_len (by decide +kernel) (a_cons (e_v 1) a_nil)) a_nil))))
    (s_cons (s_ret (e_bin op_addP m_add (e_bin op_addP m_add (e_sl (e_v 1) o_none (o_some (e_v 2))) (e_tup (a_cons (e_cal c_law_bent hr hg (a_cons (e_v 0) (a_cons (e_ix (e_v 1) (e_v 2)) a_nil))) a_nil))) (e_sl (e_v 1) (o_some (e_bin op_addP m_add (e_v 2) e_int)) o_none)))
    s_nil)) s_nil)
    (s_cons (s_if (t_tru (e_isi (T := "tuple") z_isinstance z_tuple (e_v 1) (by rfl))) (s_cons (s_ret (e_cal c_law_some hr hg (a_cons (e_v 0) (a_cons (e_lst (a_cons (e_callT call_list_of c_list (by rfl) z_list (by decide +kernel) (a_cons (e_v 1) a_nil)) (a_cons (e_sl (e_v 1) (o_some e_int) o_none) (a_cons (e_bin op_addP m_add (e_v 1) (e_sl (e_v 1) o_none (o_some e_int))) (a_cons (e_rev (e_v 1)) (a_cons (e_cal c_law_odd hr hg (a_cons (e_v 0) a_nil)) a_nil)))))) a_nil))))
    s_nil) s_nil)
    (s_cons (s_if (t_tru (e_cal c_law_is_int hr hg (a_cons (e_v 1) a_nil))) (s_cons (s_ret (e_cal c_law_some hr hg (a_cons (e_v 0) (a_cons (e_lst (a_cons (e_bin op_addP m_add (e_v 1) e_int) (a_cons (e_bin op_sub m_sub (e_v 1) e_int) (a_cons (e_cmp (op_eqP (uOf hr)) m_eq (e_v 1) e_int) (a_cons e_non (a_cons (e_callT call_str_int c_strI (by rfl) z_str (by decide +kernel) (a_cons (e_v 1) a_nil)) (a_cons (e_tup (a_cons (e_v 1) a_nil)) a_nil))))))) a_nil))))
    s_nil) s_nil)
    (s_cons (s_ret (e_cal c_law_odd hr hg (a_cons (e_v 0) a_nil)))
    s_nil))))
/-! ### _law_mixed -/
abbrev s_law_mixed : Stmt := topOf pw 21
abbrev N_law_mixed : List Str := ["_law_bag_here", "_law_things", "_law_found", "_law_thing"]
abbrev P_law_mixed : List Str := ["_law_bag_here", "_law_things"]
theorem sc_law_mixed : FnScope N_law_mixed P_law_mixed (defScope s_law_mixed) := ⟨rfl, rfl, rfl, by decide +kernel, rfl, by decide +kernel, by decide +kernel⟩
noncomputable def b_law_mixed : SM := (mSeq (mSet 2 (mNew mNil))
    (mSeq (mFor (mISeq (mV 1)) (gV 3) (mSeq (mDrop (mMet (mV 2) (mCons (mFn P_law_take.length d_law_take (mCons (mV 0) (mCons (mBin addM (mCall lenM (mCons (mV 2) mNil)) (mC (.int 1))) mNil))) (mCons (mV 3) mNil)) insM))
    mNx))
    (mSeq (mRet (mV 2))
    mNx)))
noncomputable def d_law_mixed : List D → M D := mDef N_law_mixed.length (b_law_mixed)
theorem ok_law_mixed {P : Program} {w : World} {K : PySem.W.Frag} {mg : Str → Option Value} {base : Heap} {a : Addr} {fd : FuncData} (F : Fun K "_law_mixed" "_law_mixed" s_law_mixed a fd) (c_law_take : Cal P w K mg base 1 "_law_take" P_law_take d_law_take) (z_len : mg "len" = none) : FnG P w K mg base 2 a fd P_law_mixed d_law_mixed :=
  fnG_of (N := N_law_mixed) (b_law_mixed) F sc_law_mixed fun cdv A outer s H E hr hg =>
    (s_cons (s_set sc_law_mixed.nd (e_new a_nil))
    (s_cons (s_for (vs := [3]) PassesOwn.never (i_seq (e_v 1)) (g_v sc_law_mixed.nd) (s_cons (s_expr (e_insert (e_v 2) (a_cons (e_cal c_law_take hr hg (a_cons (e_v 0) (a_cons (e_bin op_addP m_add (e_callB cr_len c_len (by rfl) z_len (by decide +kernel) (a_cons (e_v 2) a_nil)) e_int) a_nil))) (a_cons (e_v 3) a_nil))))
    s_nil))
    (s_cons (s_ret (e_v 2))
    s_nil)))
/-! ### _law_ranges -/
abbrev s_law_ranges : Stmt := topOf pw 28
abbrev N_law_ranges : List Str := ["_law_bag_here", "_law_columns", "_law_found", "_law_column", "_law_low", "_law_high"]
abbrev P_law_ranges : List Str := ["_law_bag_here", "_law_columns"]
theorem sc_law_ranges : FnScope N_law_ranges P_law_ranges (defScope s_law_ranges) := ⟨rfl, rfl, rfl, by decide +kernel, rfl, by decide +kernel, by decide +kernel⟩
noncomputable def b_law_ranges : SM := (mSeq (mSet 2 (mNew mNil))
    (mSeq (mFor (mISeq (mFn P_law_mixed.length d_law_mixed (mCons (mV 0) (mCons (mCall listM (mCons (mV 1) mNil)) mNil)))) (gV 3) (mSeq (mIfS (mB (mBin eqM (mFn P_law_take.length d_law_take (mCons (mV 0) (mCons (mC (.int 3)) mNil))) (mC (.int 0)))) (mSeq (mSet 4 (mFn P_law_some.length d_law_some (mCons (mV 0) (mCons (mLst (mCons (mC .non) (mCons (mC (.int 0)) (mCons (mC (.int 1)) (mCons (mC (.int 2)) (mCons (mUn negM (mC (.int 3))) mNil)))))) mNil))))
    (mSeq (mSet 5 (mFn P_law_some.length d_law_some (mCons (mV 0) (mCons (mLst (mCons (mC .non) (mCons (mC (.int 3)) (mCons (mC (.int 4)) (mCons (mC (.int 6)) (mCons (mIf (mB (mNotN (mV 4))) (mV 4) (mC (.int 2))) (mCons (mC (.int 5)) mNil))))))) mNil))))
    (mSeq (mDrop (mMet (mV 2) (mCons (mTup (mCons (mV 3) (mCons (mV 4) (mCons (mIf (mOr (mB (mIsN (mV 4))) (mOr (mB (mIsN (mV 5))) (mB (mBin leM (mV 4) (mV 5))))) (mV 5) (mV 4)) mNil)))) mNil) appM))
    mNx))) mNx)
    mNx))
    (mSeq (mRet (mCall tupleM (mCons (mV 2) mNil)))
    mNx)))
noncomputable def d_law_ranges : List D → M D := mDef N_law_ranges.length (b_law_ranges)
theorem ok_law_ranges {P : Program} {w : World} {K : PySem.W.Frag} {mg : Str → Option Value} {base : Heap} {a : Addr} {fd : FuncData} (F : Fun K "_law_ranges" "_law_ranges" s_law_ranges a fd) (c_law_mixed : Cal P w K mg base 2 "_law_mixed" P_law_mixed d_law_mixed) (c_law_take : Cal P w K mg base 2 "_law_take" P_law_take d_law_take) (c_law_some : Cal P w K mg base 2 "_law_some" P_law_some d_law_some) (z_tuple : mg "tuple" = none) (z_list : mg "list" = none) : FnG P w K mg base 3 a fd P_law_ranges d_law_ranges :=
  fnG_of (N := N_law_ranges) (b_law_ranges) F sc_law_ranges fun cdv A outer s H E hr hg =>
    (s_cons (s_set sc_law_ranges.nd (e_new a_nil))
    (s_cons (s_for (vs := [3]) PassesOwn.never (i_seq (e_cal c_law_mixed hr hg (a_cons (e_v 0) (a_cons (e_callT call_list_of c_list (by rfl) z_list (by decide +kernel) (a_cons (e_v 1) a_nil)) a_nil)))) (g_v sc_law_ranges.nd) (s_cons (s_if (t_cmp (op_eqP (uOf hr)) m_eq (e_cal c_law_take hr hg (a_cons (e_v 0) (a_cons e_int a_nil))) e_int) (s_cons (s_set sc_law_ranges.nd (e_cal c_law_some hr hg (a_cons (e_v 0) (a_cons (e_lst (a_cons e_non (a_cons e_int (a_cons e_int (a_cons e_int (a_cons (e_un un_neg m_neg e_int) a_nil)))))) a_nil))))
    (s_cons (s_set sc_law_ranges.nd (e_cal c_law_some hr hg (a_cons (e_v 0) (a_cons (e_lst (a_cons e_non (a_cons e_int (a_cons e_int (a_cons e_int (a_cons (e_if (t_notN (e_v 4)) (e_v 4) e_int) (a_cons e_int a_nil))))))) a_nil))))
    (s_cons (s_expr (e_append (e_v 2) (a_cons (e_tup (a_cons (e_v 3) (a_cons (e_v 4) (a_cons (e_if (t_w (w_or (t_isN (e_v 4)) (w_or (t_isN (e_v 5)) (w_or1 (t_cmp op_le m_le (e_v 4) (e_v 5)))))) (e_v 5) (e_v 4)) a_nil)))) a_nil)))
    s_nil))) s_nil)
    s_nil))
    (s_cons (s_ret (e_callT call_tupF c_tuple (by rfl) z_tuple (by decide +kernel) (a_cons (e_v 2) a_nil)))
    s_nil)))
/-! ### _law_line -/
abbrev s_law_line : Stmt := topOf pw 25
abbrev N_law_line : List Str := ["_law_parents", "_law_at", "_law_found"]
abbrev P_law_line : List Str := ["_law_parents", "_law_at"]
theorem sc_law_line : FnScope N_law_line P_law_line (defScope s_law_line) := ⟨rfl, rfl, rfl, by decide +kernel, rfl, by decide +kernel, by decide +kernel⟩
noncomputable def b_law_line : SM := (mSeq (mSet 2 (mLst (mCons (mV 1) mNil)))
    (mSeq (mWhile (mB (mNotN (mBin ixM (mV 0) (mBin ixM (mV 2) (mC (.int 0)))))) (mSeq (mSet 2 (mBin addM (mLst (mCons (mBin ixM (mV 0) (mBin ixM (mV 2) (mC (.int 0)))) mNil)) (mV 2)))
    mNx))
    (mSeq (mRet (mV 2))
    mNx)))
noncomputable def d_law_line : List D → M D := mDef N_law_line.length (b_law_line)
theorem ok_law_line {P : Program} {w : World} {K : PySem.W.Frag} {mg : Str → Option Value} {base : Heap} {a : Addr} {fd : FuncData} (F : Fun K "_law_line" "_law_line" s_law_line a fd) : FnG P w K mg base 1 a fd P_law_line d_law_line :=
  fnG_of (N := N_law_line) (b_law_line) F sc_law_line fun cdv A outer s H E hr hg =>
    (s_cons (s_set sc_law_line.nd (e_lst (a_cons (e_v 1) a_nil)))
    (s_cons (s_while PassesOwn.never (t_notN (e_ix (e_v 0) (e_ix (e_v 2) e_int))) (s_cons (s_set sc_law_line.nd (e_bin op_addP m_add (e_lst (a_cons (e_ix (e_v 0) (e_ix (e_v 2) e_int)) a_nil)) (e_v 2)))
    s_nil))
    (s_cons (s_ret (e_v 2))
    s_nil)))
/-! ### _law_columns_mixed -/
abbrev s_law_columns_mixed : Stmt := topOf pw 27
abbrev N_law_columns_mixed : List Str := ["_law_bag_here", "_law_names", "_law_parents", "_law_at", "_law_one"]
abbrev P_law_columns_mixed : List Str := ["_law_bag_here", "_law_names", "_law_parents", "_law_at"]
theorem sc_law_columns_mixed : FnScope N_law_columns_mixed P_law_columns_mixed (defScope s_law_columns_mixed) := ⟨rfl, rfl, rfl, by decide +kernel, rfl, by decide +kernel, by decide +kernel⟩
noncomputable def b_law_columns_mixed : SM := (mSeq (mRet (mCall tupleM (mCons (mFn P_law_mixed.length d_law_mixed (mCons (mV 0) (mCons (mLc (mISeq (mFn P_law_line.length d_law_line (mCons (mV 2) (mCons (mV 3) mNil)))) [4] (gV 4) mYes (mBin ixM (mV 1) (mV 4))) mNil))) mNil)))
    mNx)
noncomputable def d_law_columns_mixed : List D → M D := mDef N_law_columns_mixed.length (b_law_columns_mixed)
theorem ok_law_columns_mixed {P : Program} {w : World} {K : PySem.W.Frag} {mg : Str → Option Value} {base : Heap} {a : Addr} {fd : FuncData} (F : Fun K "_law_columns_mixed" "_law_columns_mixed" s_law_columns_mixed a fd) (c_law_line : Cal P w K mg base 2 "_law_line" P_law_line d_law_line) (c_law_mixed : Cal P w K mg base 2 "_law_mixed" P_law_mixed d_law_mixed) (z_tuple : mg "tuple" = none) : FnG P w K mg base 3 a fd P_law_columns_mixed d_law_columns_mixed :=
  fnG_of (N := N_law_columns_mixed) (b_law_columns_mixed) F sc_law_columns_mixed fun cdv A outer s H E hr hg =>
    (s_cons (s_ret (e_callT call_tupF c_tuple (by rfl) z_tuple (by decide +kernel) (a_cons (e_cal c_law_mixed hr hg (a_cons (e_v 0) (a_cons (e_lc rfl sc_law_columns_mixed.nd (own := [("_law_one", 4)]) (blkOk_by (own := [("_law_one", 4)]) (N := N_law_columns_mixed) (sc := defScope s_law_columns_mixed) (by decide +kernel)) (i_seq (e_cal c_law_line hr hg (a_cons (e_v 2) (a_cons (e_v 3) a_nil)))) (fun _ _ _ _ _ => (g_v sc_law_columns_mixed.nd)) (fun _ _ _ _ _ => ts_nil) (fun _ _ _ _ _ => (e_ix (e_v 1) (e_v 4)))) a_nil))) a_nil)))
    s_nil)
/-! ### _law_forest -/
abbrev s_law_forest : Stmt := topOf pw 24
abbrev N_law_forest : List Str := ["_law_bag_here", "_law_many", "_law_found", "_law_at"]
abbrev P_law_forest : List Str := ["_law_bag_here", "_law_many"]
theorem sc_law_forest : FnScope N_law_forest P_law_forest (defScope s_law_forest) := ⟨rfl, rfl, rfl, by decide +kernel, rfl, by decide +kernel, by decide +kernel⟩
noncomputable def b_law_forest : SM := (mSeq (mSet 2 (mNew mNil))
    (mSeq (mFor (mIR rng1M (mCons (mV 1) mNil)) (gV 3) (mSeq (mDrop (mMet (mV 2) (mCons (mFn P_law_some.length d_law_some (mCons (mV 0) (mCons (mBin addM (mBin addM (mLst (mCons (mC .non) mNil)) (mUn rg1M (mV 3))) (mUn rg1M (mV 3))) mNil))) mNil) appM))
    mNx))
    (mSeq (mRet (mV 2))
    mNx)))
noncomputable def d_law_forest : List D → M D := mDef N_law_forest.length (b_law_forest)
theorem ok_law_forest {P : Program} {w : World} {K : PySem.W.Frag} {mg : Str → Option Value} {base : Heap} {a : Addr} {fd : FuncData} (F : Fun K "_law_forest" "_law_forest" s_law_forest a fd) (c_law_some : Cal P w K mg base 2 "_law_some" P_law_some d_law_some) (z_range : mg "range" = none) (z_list : mg "list" = none) : FnG P w K mg base 3 a fd P_law_forest d_law_forest :=
  fnG_of (N := N_law_forest) (b_law_forest) F sc_law_forest fun cdv A outer s H E hr hg =>
    (s_cons (s_set sc_law_forest.nd (e_new a_nil))
    (s_cons (s_for (vs := [3]) PassesOwn.never (i_rng1 z_range (a_cons (e_v 1) a_nil)) (g_v sc_law_forest.nd) (s_cons (s_expr (e_append (e_v 2) (a_cons (e_cal c_law_some hr hg (a_cons (e_v 0) (a_cons (e_bin op_addP m_add (e_bin op_addP m_add (e_lst (a_cons e_non a_nil)) (e_listRg1 z_list z_range (e_v 3))) (e_listRg1 z_list z_range (e_v 3))) a_nil))) a_nil)))
    s_nil))
    (s_cons (s_ret (e_v 2))
    s_nil)))
/-! ### _law_nested_question -/
abbrev s_law_nested_question : Stmt := topOf pw 26
abbrev N_law_nested_question : List Str := ["_law_bag_here", "_law_most", "_law_names", "_law_parents", "_law_ends", "_law_at", "_law_turn", "_law_tables", "_law_atoms", "_law_word", "_law_table", "_law_columns"]
abbrev P_law_nested_question : List Str := ["_law_bag_here", "_law_most"]
theorem sc_law_nested_question : FnScope N_law_nested_question P_law_nested_question (defScope s_law_nested_question) := ⟨rfl, rfl, rfl, by decide +kernel, rfl, by decide +kernel, by decide +kernel⟩
noncomputable def b_law_nested_question : SM := (mSeq (mSet 2 (mSl (mFn P_law_mixed.length d_law_mixed (mCons (mV 0) (mCons (mLst (mCons (mC (.str "a")) (mCons (mC (.str "b")) (mCons (mC (.str "c")) (mCons (mC (.str "d")) (mCons (mC (.str "x1")) (mCons (mC (.str "y")) mNil))))))) mNil))) (fun _ => ret none) (mPart (mBin addM (mC (.int 1)) (mFn P_law_take.length d_law_take (mCons (mV 0) (mCons (mV 1) mNil)))))))
    (mSeq (mSet 3 (mFn P_law_forest.length d_law_forest (mCons (mV 0) (mCons (mCall lenM (mCons (mV 2) mNil)) mNil))))
    (mSeq (mSet 4 (mLcN (mIR rng1M (mCons (mCall lenM (mCons (mV 2) mNil)) mNil)) [5] (gV 5) (mB (mBin niM (mV 5) (mV 3))) (mTup (mCons (mC (.str "has")) (mCons (mV 5) mNil)))))
    (mSeq (mFor (mIR rng1M (mCons (mCall lenM (mCons (mV 2) mNil)) mNil)) (gV 5) (mSeq (mFor (mIR rng1M (mCons (mFn P_law_some.length d_law_some (mCons (mV 0) (mCons (mLst (mCons (mC (.int 0)) (mCons (mC (.int 0)) (mCons (mC (.int 1)) (mCons (mC (.int 1)) (mCons (mC (.int 2)) mNil)))))) mNil))) mNil)) (gV 6) (mSeq (mDrop (mMet (mV 4) (mCons (mTup (mCons (mFn P_law_some.length d_law_some (mCons (mV 0) (mCons (mLst (mCons (mC (.str "has")) (mCons (mC (.str "not")) (mCons (mC (.str "has")) mNil)))) mNil))) (mCons (mV 5) mNil))) mNil) appM))
    mNx))
    mNx))
    (mSeq (mPar 7 8 (mCons (mFn P_law_mixed.length d_law_mixed (mCons (mV 0) (mCons (mLst (mCons (mC (.str "r")) (mCons (mC (.str "s")) (mCons (mC (.str "t")) (mCons (mC (.str "u")) (mCons (mC (.str "v")) (mCons (mC (.str "w")) (mCons (mC (.str "p")) (mCons (mC (.str "q7")) mNil))))))))) mNil))) (mCons (mNew mNil) mNil)))
    (mSeq (mFor (fun rho => bnd ((mCons (mV 4) (mCons (mV 7) mNil)) rho) zipM) (gT 2 (gsCons (gT 2 (gsCons (gV 9) (gsCons (gV 5) gsNil))) (gsCons (gV 10) gsNil))) (mSeq (mDrop (mMet (mV 8) (mCons (mTup (mCons (mV 9) (mCons (mV 10) (mCons (mFn P_law_columns_mixed.length d_law_columns_mixed (mCons (mV 0) (mCons (mV 2) (mCons (mV 3) (mCons (mV 5) mNil))))) mNil)))) mNil) appM))
    mNx))
    (mSeq (mSet 11 (mCall tupleM (mCons (mFn P_law_mixed.length d_law_mixed (mCons (mV 0) (mCons (mV 2) mNil))) mNil)))
    (mSeq (mRet (mTup (mCons (mV 11) (mCons (mCall tupleM (mCons (mFn P_law_mixed.length d_law_mixed (mCons (mV 0) (mCons (mV 8) mNil))) mNil)) (mCons (mFn P_law_ranges.length d_law_ranges (mCons (mV 0) (mCons (mV 11) mNil))) mNil)))))
    mNx))))))))
noncomputable def d_law_nested_question : List D → M D := mDef N_law_nested_question.length (b_law_nested_question)
theorem ok_law_nested_question {P : Program} {w : World} {K : PySem.W.Frag} {mg : Str → Option Value} {base : Heap} {a : Addr} {fd : FuncData} (F : Fun K "_law_nested_question" "_law_nested_question" s_law_nested_question a fd) (c_law_ranges : Cal P w K mg base 3 "_law_ranges" P_law_ranges d_law_ranges) (c_law_mixed : Cal P w K mg base 3 "_law_mixed" P_law_mixed d_law_mixed) (c_law_columns_mixed : Cal P w K mg base 3 "_law_columns_mixed" P_law_columns_mixed d_law_columns_mixed) (c_law_some : Cal P w K mg base 3 "_law_some" P_law_some d_law_some) (c_law_forest : Cal P w K mg base 3 "_law_forest" P_law_forest d_law_forest) (c_law_take : Cal P w K mg base 3 "_law_take" P_law_take d_law_take) (z_tuple : mg "tuple" = none) (z_zip : mg "zip" = none) (z_len : mg "len" = none) (z_range : mg "range" = none) : FnG P w K mg base 4 a fd P_law_nested_question d_law_nested_question :=
  fnG_of (N := N_law_nested_question) (b_law_nested_question) F sc_law_nested_question fun cdv A outer s H E hr hg =>
    (s_cons (s_set sc_law_nested_question.nd (e_sl (e_cal c_law_mixed hr hg (a_cons (e_v 0) (a_cons (e_lst (a_cons e_str (a_cons e_str (a_cons e_str (a_cons e_str (a_cons e_str (a_cons e_str a_nil))))))) a_nil))) o_none (o_some (e_bin op_addP m_add e_int (e_cal c_law_take hr hg (a_cons (e_v 0) (a_cons (e_v 1) a_nil)))))))
    (s_cons (s_set sc_law_nested_question.nd (e_cal c_law_forest hr hg (a_cons (e_v 0) (a_cons (e_callB cr_len c_len (by rfl) z_len (by decide +kernel) (a_cons (e_v 2) a_nil)) a_nil))))
    (s_cons (s_setLcN rfl sc_law_nested_question.nd (own := [("_law_at", 5)]) (blkOk_by (own := [("_law_at", 5)]) (N := N_law_nested_question) (sc := defScope s_law_nested_question) (by decide +kernel)) (i_rng1 z_range (a_cons (e_callB cr_len c_len (by rfl) z_len (by decide +kernel) (a_cons (e_v 2) a_nil)) a_nil)) (fun _ _ _ _ _ => (g_v sc_law_nested_question.nd)) (fun _ _ _ _ _ => (ts_one (t_cmp (op_niP (uOf hr)) m_ni (e_v 5) (e_v 3)))) (fun _ _ _ _ _ => (e_tup (a_cons e_str (a_cons (e_v 5) a_nil)))) (sw_true rfl rfl rfl (by decide +kernel)))
    (s_cons (s_for (vs := [5]) PassesOwn.never (i_rng1 z_range (a_cons (e_callB cr_len c_len (by rfl) z_len (by decide +kernel) (a_cons (e_v 2) a_nil)) a_nil)) (g_v sc_law_nested_question.nd) (s_cons (s_for (vs := [6]) PassesOwn.never (i_rng1 z_range (a_cons (e_cal c_law_some hr hg (a_cons (e_v 0) (a_cons (e_lst (a_cons e_int (a_cons e_int (a_cons e_int (a_cons e_int (a_cons e_int a_nil)))))) a_nil))) a_nil)) (g_v sc_law_nested_question.nd) (s_cons (s_expr (e_append (e_v 4) (a_cons (e_tup (a_cons (e_cal c_law_some hr hg (a_cons (e_v 0) (a_cons (e_lst (a_cons e_str (a_cons e_str (a_cons e_str a_nil)))) a_nil))) (a_cons (e_v 5) a_nil))) a_nil)))
    s_nil))
    s_nil))
    (s_cons (s_par sc_law_nested_question.nd (a_cons (e_cal c_law_mixed hr hg (a_cons (e_v 0) (a_cons (e_lst (a_cons e_str (a_cons e_str (a_cons e_str (a_cons e_str (a_cons e_str (a_cons e_str (a_cons e_str (a_cons e_str a_nil))))))))) a_nil))) (a_cons (e_new a_nil) a_nil)) (by rfl))
    (s_cons (s_for (vs := [9, 5, 10]) PassesOwn.never (i_zip z_zip (a_cons (e_v 4) (a_cons (e_v 7) a_nil))) (g_tup (gs_cons (g_tup (gs_cons (g_v sc_law_nested_question.nd) (gs_cons (g_v sc_law_nested_question.nd) gs_nil))) (gs_cons (g_v sc_law_nested_question.nd) gs_nil))) (s_cons (s_expr (e_append (e_v 8) (a_cons (e_tup (a_cons (e_v 9) (a_cons (e_v 10) (a_cons (e_cal c_law_columns_mixed hr hg (a_cons (e_v 0) (a_cons (e_v 2) (a_cons (e_v 3) (a_cons (e_v 5) a_nil))))) a_nil)))) a_nil)))
    s_nil))
    (s_cons (s_set sc_law_nested_question.nd (e_callT call_tupF c_tuple (by rfl) z_tuple (by decide +kernel) (a_cons (e_cal c_law_mixed hr hg (a_cons (e_v 0) (a_cons (e_v 2) a_nil))) a_nil)))
    (s_cons (s_ret (e_tup (a_cons (e_v 11) (a_cons (e_callT call_tupF c_tuple (by rfl) z_tuple (by decide +kernel) (a_cons (e_cal c_law_mixed hr hg (a_cons (e_v 0) (a_cons (e_v 8) a_nil))) a_nil)) (a_cons (e_cal c_law_ranges hr hg (a_cons (e_v 0) (a_cons (e_v 11) a_nil))) a_nil)))))
    s_nil))))))))
/-! ### _law_bag -/
abbrev s_law_bag : Stmt := topOf pw 18
abbrev N_law_bag : List Str := ["_law_script", "_law_cell"]
abbrev P_law_bag : List Str := ["_law_script"]
theorem sc_law_bag : FnScope N_law_bag P_law_bag (defScope s_law_bag) := ⟨rfl, rfl, rfl, by decide +kernel, rfl, by decide +kernel, by decide +kernel⟩
noncomputable def b_law_bag : SM := (mSeq (mRet (mNew (mCons (mC (.int 0)) (mCons (mC (.int 1234567891)) (mCons (mC (.int 0)) (mCons (mLc (mISeq (mSl (mV 0) (fun _ => ret none) (mPart (mC (.int 63))))) [1] (gV 1) mYes (mCall absM (mCons (mV 1) mNil))) mNil))))))
    mNx)
noncomputable def d_law_bag : List D → M D := mDef N_law_bag.length (b_law_bag)
theorem ok_law_bag {P : Program} {w : World} {K : PySem.W.Frag} {mg : Str → Option Value} {base : Heap} {a : Addr} {fd : FuncData} (F : Fun K "_law_bag" "_law_bag" s_law_bag a fd) (z_abs : mg "abs" = none) : FnG P w K mg base 1 a fd P_law_bag d_law_bag :=
  fnG_of (N := N_law_bag) (b_law_bag) F sc_law_bag fun cdv A outer s H E hr hg =>
    (s_cons (s_ret (e_new (a_cons e_int (a_cons e_int (a_cons e_int (a_cons (e_lc rfl sc_law_bag.nd (own := [("_law_cell", 1)]) (blkOk_by (own := [("_law_cell", 1)]) (N := N_law_bag) (sc := defScope s_law_bag) (by decide +kernel)) (i_seq (e_sl (e_v 0) o_none (o_some e_int))) (fun _ _ _ _ _ => (g_v sc_law_bag.nd)) (fun _ _ _ _ _ => ts_nil) (fun _ _ _ _ _ => (e_callB call_abs c_abs (by rfl) z_abs (by decide +kernel) (a_cons (e_v 1) a_nil)))) a_nil))))))
    s_nil)
/-! ### law -/
abbrev s_law : Stmt := topOf pw 40
abbrev N_law : List Str := ["_law_script", "_law_bag_here", "_law_turn", "_law_question", "_law_other", "_law_shape", "_law_columns", "_law_things", "_law_thing", "_law_kept", "_law_due", "_law_k"]
abbrev P_law : List Str := ["_law_script"]
theorem sc_law : FnScope N_law P_law (defScope s_law) := ⟨rfl, rfl, rfl, by decide +kernel, rfl, by decide +kernel, by decide +kernel⟩
noncomputable def b_law (ts : Nat → Addr) : SM := (mSeq (mSet 1 (mFn P_law_bag.length d_law_bag (mCons (mV 0) mNil)))
    (mSeq (mFor (mIR rng1M (mCons (mC (.int 4)) mNil)) (gV 2) (mSeq (mPar 3 4 (mCons (mFn P_law_nested_question.length d_law_nested_question (mCons (mV 1) (mCons (mFn P_law_some.length d_law_some (mCons (mV 1) (mCons (mLst (mCons (mC (.int 4)) (mCons (mC (.int 3)) (mCons (mC (.int 2)) mNil)))) mNil))) mNil))) (mCons (mFn P_law_nested_question.length d_law_nested_question (mCons (mV 1) (mCons (mC (.int 3)) mNil))) mNil)))
    (mSeq (mAsg (mTup (mCons (mFn P_law_any_shape.length d_law_any_shape (mCons (mV 1) (mCons (mV 3) mNil))) (mCons (mFn P_law_children.length d_law_children (mCons (mV 3) (mCons (mC .non) mNil))) mNil))) (gT 2 (gsCons (gV 5) (gsCons (gV 6) gsNil))))
    (mSeq (mSet 7 (mBin addM (mLst (mCons (mV 5) (mCons (mFn P_law_any_shape.length d_law_any_shape (mCons (mV 1) (mCons (mV 4) mNil))) (mCons (mFn P_law_odd.length d_law_odd (mCons (mV 1) mNil)) mNil)))) (mLc (mIR rng1M (mCons (mC (.int 5)) mNil)) [11] (gV 11) mYes (mFn P_law_bent.length (d_law_bent 18) (mCons (mV 1) (mCons (mV 5) mNil))))))
    (mSeq (mFor (mISeq (mV 7)) (gV 8) (mSeq (mPar 9 10 (mCons (mCall reprXM (mCons (mV 8) mNil)) (mCons (mOrV (mIsN (mV 8)) (mFn P_law_is_form.length (d_law_is_form 8) (mCons (mV 3) (mCons (mV 6) (mCons (mV 8) mNil))))) mNil)))
    (mSeq (mIfS (mOr (mNot (mTru (mFn P_law_alike.length d_law_alike (mCons (mFn P_is_shape.length (d_is_shape ts) (mCons (mV 3) (mCons (mV 8) mNil))) (mCons (mV 10) mNil))))) (mB (mBin neM (mCall reprXM (mCons (mV 8) mNil)) (mV 9)))) (mSeq (mRet (mC (.bl false)))
    mNx) mNx)
    mNx)))
    mNx)))))
    (mSeq (mRet (mC (.bl true)))
    mNx)))
noncomputable def d_law (ts : Nat → Addr) : List D → M D := mDef N_law.length (b_law ts)
theorem ok_law {ts : Nat → Addr} {P : Program} {w : World} {K : PySem.W.Frag} {mg : Str → Option Value} {base : Heap} {a : Addr} {fd : FuncData} (F : Fun K "law" "law" s_law a fd) (SM : ∃ mm, base.Ns sysModules mm) (c_is_shape : Cal P w K mg base 23 "is_shape" P_is_shape (d_is_shape ts)) (c_law_alike : Cal P w K mg base 23 "_law_alike" P_law_alike d_law_alike) (c_law_is_form : Cal P w K mg base 23 "_law_is_form" P_law_is_form (d_law_is_form 8)) (c_law_odd : Cal P w K mg base 23 "_law_odd" P_law_odd d_law_odd) (c_law_any_shape : Cal P w K mg base 23 "_law_any_shape" P_law_any_shape d_law_any_shape) (c_law_bent : Cal P w K mg base 23 "_law_bent" P_law_bent (d_law_bent 18)) (c_law_children : Cal P w K mg base 23 "_law_children" P_law_children d_law_children) (c_law_nested_question : Cal P w K mg base 23 "_law_nested_question" P_law_nested_question d_law_nested_question) (c_law_some : Cal P w K mg base 23 "_law_some" P_law_some d_law_some) (c_law_bag : Cal P w K mg base 23 "_law_bag" P_law_bag d_law_bag) (z_range : mg "range" = none) (z_repr : mg "repr" = none) : FnG P w K mg base 24 a fd P_law (d_law ts) :=
  fnG_of (N := N_law) (b_law ts) F sc_law fun cdv A outer s H E hr hg =>
    (s_cons (s_set sc_law.nd (e_cal c_law_bag hr hg (a_cons (e_v 0) a_nil)))
    (s_cons (s_for (vs := [2]) PassesOwn.never (i_rng1 z_range (a_cons e_int a_nil)) (g_v sc_law.nd) (s_cons (s_par sc_law.nd (a_cons (e_cal c_law_nested_question hr hg (a_cons (e_v 1) (a_cons (e_cal c_law_some hr hg (a_cons (e_v 1) (a_cons (e_lst (a_cons e_int (a_cons e_int (a_cons e_int a_nil)))) a_nil))) a_nil))) (a_cons (e_cal c_law_nested_question hr hg (a_cons (e_v 1) (a_cons e_int a_nil))) a_nil)) (by rfl))
    (s_cons (s_asg (vs := [5, 6]) (e_tup (a_cons (e_cal c_law_any_shape hr hg (a_cons (e_v 1) (a_cons (e_v 3) a_nil))) (a_cons (e_cal c_law_children hr hg (a_cons (e_v 3) (a_cons e_non a_nil))) a_nil))) (g_tup (gs_cons (g_v sc_law.nd) (gs_cons (g_v sc_law.nd) gs_nil))))
    (s_cons (s_set sc_law.nd (e_bin op_addP m_add (e_lst (a_cons (e_v 5) (a_cons (e_cal c_law_any_shape hr hg (a_cons (e_v 1) (a_cons (e_v 4) a_nil))) (a_cons (e_cal c_law_odd hr hg (a_cons (e_v 1) a_nil)) a_nil)))) (e_lc rfl sc_law.nd (own := [("_law_k", 11)]) (blkOk_by (own := [("_law_k", 11)]) (N := N_law) (sc := defScope s_law) (by decide +kernel)) (i_rng1 z_range (a_cons e_int a_nil)) (fun _ _ _ _ _ => (g_v sc_law.nd)) (fun _ _ _ _ _ => ts_nil) (fun _ _ _ _ _ => (e_cal c_law_bent hr hg (a_cons (e_v 1) (a_cons (e_v 5) a_nil)))))))
    (s_cons (s_for (vs := [8]) PassesOwn.never (i_seq (e_v 7)) (g_v sc_law.nd) (s_cons (s_par sc_law.nd (a_cons (e_callB (cr_reprR SM hg (uOf hr)) c_reprX (by rfl) z_repr (by decide +kernel) (a_cons (e_v 8) a_nil)) (a_cons (e_or (e_isN (e_v 8)) (e_one (e_cal c_law_is_form hr hg (a_cons (e_v 3) (a_cons (e_v 6) (a_cons (e_v 8) a_nil)))))) a_nil)) (by rfl))
    (s_cons (s_if (t_w (w_or (t_not (t_tru (e_cal c_law_alike hr hg (a_cons (e_cal c_is_shape hr hg (a_cons (e_v 3) (a_cons (e_v 8) a_nil))) (a_cons (e_v 10) a_nil))))) (w_or1 (t_cmp (op_neP (uOf hr)) m_ne (e_callB (cr_reprR SM hg (uOf hr)) c_reprX (by rfl) z_repr (by decide +kernel) (a_cons (e_v 8) a_nil)) (e_v 9))))) (s_cons (s_ret e_bl)
    s_nil) s_nil)
    s_nil)))
    s_nil)))))
    (s_cons (s_ret e_bl)
    s_nil)))
/-! ### all of it -/
theorem all_mk {l : PySem.W.OpenLaw} {w : World} {K : PySem.W.Frag} {h : Heap} {mg : Str → Option Value} {fa : Addr} (X : K.In h) (G : h.Ns mainGlobals mg) (hfa : mg "law" = some (.ref fa))
    {f1 : Addr} {od1 an1 : Option Addr} {sl1 : Array (Option Value)} {oc1 kV1 dc1 pm1 cd1 ct1 : Value}
    (a1 : PySem.W.nsIn K mainGlobals "atoms_of" = some (some (.ref f1))) (l1 : K.lookup f1 = some ⟨oc1, od1, .func (PySem.W.fnOf "atoms_of" "atoms_of" (defArgs s_atoms_of) (defBody s_atoms_of) (defScope s_atoms_of) .none kV1 dc1 pm1 an1 cd1 ct1), sl1⟩) (c1 : PySem.W.codeIn K cd1 "atoms_of" = true) (k1 : PySem.W.keepIn K (.ref f1) = true)
    {f2 : Addr} {od2 an2 : Option Addr} {sl2 : Array (Option Value)} {oc2 kV2 dc2 pm2 cd2 ct2 : Value}
    (a2 : PySem.W.nsIn K mainGlobals "is_above" = some (some (.ref f2))) (l2 : K.lookup f2 = some ⟨oc2, od2, .func (PySem.W.fnOf "is_above" "is_above" (defArgs s_is_above) (defBody s_is_above) (defScope s_is_above) .none kV2 dc2 pm2 an2 cd2 ct2), sl2⟩) (c2 : PySem.W.codeIn K cd2 "is_above" = true) (k2 : PySem.W.keepIn K (.ref f2) = true)
    {f3 : Addr} {od3 an3 : Option Addr} {sl3 : Array (Option Value)} {oc3 kV3 dc3 pm3 cd3 ct3 : Value}
    (a3 : PySem.W.nsIn K mainGlobals "above_of" = some (some (.ref f3))) (l3 : K.lookup f3 = some ⟨oc3, od3, .func (PySem.W.fnOf "above_of" "above_of" (defArgs s_above_of) (defBody s_above_of) (defScope s_above_of) .none kV3 dc3 pm3 an3 cd3 ct3), sl3⟩) (c3 : PySem.W.codeIn K cd3 "above_of" = true) (k3 : PySem.W.keepIn K (.ref f3) = true)
    {f4 : Addr} {od4 an4 : Option Addr} {sl4 : Array (Option Value)} {oc4 kV4 dc4 pm4 cd4 ct4 : Value}
    (a4 : PySem.W.nsIn K mainGlobals "path_of" = some (some (.ref f4))) (l4 : K.lookup f4 = some ⟨oc4, od4, .func (PySem.W.fnOf "path_of" "path_of" (defArgs s_path_of) (defBody s_path_of) (defScope s_path_of) .none kV4 dc4 pm4 an4 cd4 ct4), sl4⟩) (c4 : PySem.W.codeIn K cd4 "path_of" = true) (k4 : PySem.W.keepIn K (.ref f4) = true)
    {f5 : Addr} {od5 an5 : Option Addr} {sl5 : Array (Option Value)} {oc5 kV5 dc5 pm5 cd5 ct5 : Value}
    (a5 : PySem.W.nsIn K mainGlobals "parent_of" = some (some (.ref f5))) (l5 : K.lookup f5 = some ⟨oc5, od5, .func (PySem.W.fnOf "parent_of" "parent_of" (defArgs s_parent_of) (defBody s_parent_of) (defScope s_parent_of) .none kV5 dc5 pm5 an5 cd5 ct5), sl5⟩) (c5 : PySem.W.codeIn K cd5 "parent_of" = true) (k5 : PySem.W.keepIn K (.ref f5) = true)
    {f6 : Addr} {od6 an6 : Option Addr} {sl6 : Array (Option Value)} {oc6 kV6 dc6 pm6 cd6 ct6 : Value}
    (a6 : PySem.W.nsIn K mainGlobals "roots_of" = some (some (.ref f6))) (l6 : K.lookup f6 = some ⟨oc6, od6, .func (PySem.W.fnOf "roots_of" "roots_of" (defArgs s_roots_of) (defBody s_roots_of) (defScope s_roots_of) .none kV6 dc6 pm6 an6 cd6 ct6), sl6⟩) (c6 : PySem.W.codeIn K cd6 "roots_of" = true) (k6 : PySem.W.keepIn K (.ref f6) = true)
    {f7 : Addr} {od7 an7 : Option Addr} {sl7 : Array (Option Value)} {oc7 kV7 dc7 pm7 cd7 ct7 : Value}
    (a7 : PySem.W.nsIn K mainGlobals "range_of" = some (some (.ref f7))) (l7 : K.lookup f7 = some ⟨oc7, od7, .func (PySem.W.fnOf "range_of" "range_of" (defArgs s_range_of) (defBody s_range_of) (defScope s_range_of) .none kV7 dc7 pm7 an7 cd7 ct7), sl7⟩) (c7 : PySem.W.codeIn K cd7 "range_of" = true) (k7 : PySem.W.keepIn K (.ref f7) = true)
    {f8 : Addr} {od8 an8 : Option Addr} {sl8 : Array (Option Value)} {oc8 kV8 dc8 pm8 cd8 ct8 : Value}
    (a8 : PySem.W.nsIn K mainGlobals "lets" = some (some (.ref f8))) (l8 : K.lookup f8 = some ⟨oc8, od8, .func (PySem.W.fnOf "lets" "lets" (defArgs s_lets) (defBody s_lets) (defScope s_lets) .none kV8 dc8 pm8 an8 cd8 ct8), sl8⟩) (c8 : PySem.W.codeIn K cd8 "lets" = true) (k8 : PySem.W.keepIn K (.ref f8) = true)
    {f9 : Addr} {od9 an9 : Option Addr} {sl9 : Array (Option Value)} {oc9 kV9 dc9 pm9 cd9 ct9 : Value}
    (a9 : PySem.W.nsIn K mainGlobals "children_of" = some (some (.ref f9))) (l9 : K.lookup f9 = some ⟨oc9, od9, .func (PySem.W.fnOf "children_of" "children_of" (defArgs s_children_of) (defBody s_children_of) (defScope s_children_of) .none kV9 dc9 pm9 an9 cd9 ct9), sl9⟩) (c9 : PySem.W.codeIn K cd9 "children_of" = true) (k9 : PySem.W.keepIn K (.ref f9) = true)
    {f10 : Addr} {od10 an10 : Option Addr} {sl10 : Array (Option Value)} {oc10 kV10 dc10 pm10 cd10 ct10 : Value}
    (a10 : PySem.W.nsIn K mainGlobals "is_integer" = some (some (.ref f10))) (l10 : K.lookup f10 = some ⟨oc10, od10, .func (PySem.W.fnOf "is_integer" "is_integer" (defArgs s_is_integer) (defBody s_is_integer) (defScope s_is_integer) .none kV10 dc10 pm10 an10 cd10 ct10), sl10⟩) (c10 : PySem.W.codeIn K cd10 "is_integer" = true) (k10 : PySem.W.keepIn K (.ref f10) = true)
    {f11 : Addr} {od11 an11 : Option Addr} {sl11 : Array (Option Value)} {oc11 kV11 dc11 pm11 cd11 ct11 : Value}
    (a11 : PySem.W.nsIn K mainGlobals "is_branch" = some (some (.ref f11))) (l11 : K.lookup f11 = some ⟨oc11, od11, .func (PySem.W.fnOf "is_branch" "is_branch" (defArgs s_is_branch) (defBody s_is_branch) (defScope s_is_branch) .none kV11 dc11 pm11 an11 cd11 ct11), sl11⟩) (c11 : PySem.W.codeIn K cd11 "is_branch" = true) (k11 : PySem.W.keepIn K (.ref f11) = true)
    {f12 : Addr} {od12 an12 : Option Addr} {sl12 : Array (Option Value)} {oc12 kV12 dc12 pm12 cd12 ct12 : Value}
    (a12 : PySem.W.nsIn K mainGlobals "are_branches" = some (some (.ref f12))) (l12 : K.lookup f12 = some ⟨oc12, od12, .func (PySem.W.fnOf "are_branches" "are_branches" (defArgs s_are_branches) (defBody s_are_branches) (defScope s_are_branches) .none kV12 dc12 pm12 an12 cd12 ct12), sl12⟩) (c12 : PySem.W.codeIn K cd12 "are_branches" = true) (k12 : PySem.W.keepIn K (.ref f12) = true)
    {f13 : Addr} {od13 an13 : Option Addr} {sl13 : Array (Option Value)} {oc13 kV13 dc13 pm13 cd13 ct13 : Value}
    (a13 : PySem.W.nsIn K mainGlobals "is_shape" = some (some (.ref f13))) (l13 : K.lookup f13 = some ⟨oc13, od13, .func (PySem.W.fnOf "is_shape" "is_shape" (defArgs s_is_shape) (defBody s_is_shape) (defScope s_is_shape) .none kV13 dc13 pm13 an13 cd13 ct13), sl13⟩) (c13 : PySem.W.codeIn K cd13 "is_shape" = true) (k13 : PySem.W.keepIn K (.ref f13) = true)
    {f14 : Addr} {od14 an14 : Option Addr} {sl14 : Array (Option Value)} {oc14 kV14 dc14 pm14 cd14 ct14 : Value}
    (a14 : PySem.W.nsIn K mainGlobals "_law_alike" = some (some (.ref f14))) (l14 : K.lookup f14 = some ⟨oc14, od14, .func (PySem.W.fnOf "_law_alike" "_law_alike" (defArgs s_law_alike) (defBody s_law_alike) (defScope s_law_alike) .none kV14 dc14 pm14 an14 cd14 ct14), sl14⟩) (c14 : PySem.W.codeIn K cd14 "_law_alike" = true) (k14 : PySem.W.keepIn K (.ref f14) = true)
    {f15 : Addr} {od15 an15 : Option Addr} {sl15 : Array (Option Value)} {oc15 kV15 dc15 pm15 cd15 ct15 : Value}
    (a15 : PySem.W.nsIn K mainGlobals "_law_atoms_of" = some (some (.ref f15))) (l15 : K.lookup f15 = some ⟨oc15, od15, .func (PySem.W.fnOf "_law_atoms_of" "_law_atoms_of" (defArgs s_law_atoms_of) (defBody s_law_atoms_of) (defScope s_law_atoms_of) .none kV15 dc15 pm15 an15 cd15 ct15), sl15⟩) (c15 : PySem.W.codeIn K cd15 "_law_atoms_of" = true) (k15 : PySem.W.keepIn K (.ref f15) = true)
    {f16 : Addr} {od16 an16 : Option Addr} {sl16 : Array (Option Value)} {oc16 kV16 dc16 pm16 cd16 ct16 : Value}
    (a16 : PySem.W.nsIn K mainGlobals "_law_is_above" = some (some (.ref f16))) (l16 : K.lookup f16 = some ⟨oc16, od16, .func (PySem.W.fnOf "_law_is_above" "_law_is_above" (defArgs s_law_is_above) (defBody s_law_is_above) (defScope s_law_is_above) .none kV16 dc16 pm16 an16 cd16 ct16), sl16⟩) (c16 : PySem.W.codeIn K cd16 "_law_is_above" = true) (k16 : PySem.W.keepIn K (.ref f16) = true)
    {f17 : Addr} {od17 an17 : Option Addr} {sl17 : Array (Option Value)} {oc17 kV17 dc17 pm17 cd17 ct17 : Value}
    (a17 : PySem.W.nsIn K mainGlobals "_law_path" = some (some (.ref f17))) (l17 : K.lookup f17 = some ⟨oc17, od17, .func (PySem.W.fnOf "_law_path" "_law_path" (defArgs s_law_path) (defBody s_law_path) (defScope s_law_path) .none kV17 dc17 pm17 an17 cd17 ct17), sl17⟩) (c17 : PySem.W.codeIn K cd17 "_law_path" = true) (k17 : PySem.W.keepIn K (.ref f17) = true)
    {f18 : Addr} {od18 an18 : Option Addr} {sl18 : Array (Option Value)} {oc18 kV18 dc18 pm18 cd18 ct18 : Value}
    (a18 : PySem.W.nsIn K mainGlobals "_law_children" = some (some (.ref f18))) (l18 : K.lookup f18 = some ⟨oc18, od18, .func (PySem.W.fnOf "_law_children" "_law_children" (defArgs s_law_children) (defBody s_law_children) (defScope s_law_children) .none kV18 dc18 pm18 an18 cd18 ct18), sl18⟩) (c18 : PySem.W.codeIn K cd18 "_law_children" = true) (k18 : PySem.W.keepIn K (.ref f18) = true)
    {f19 : Addr} {od19 an19 : Option Addr} {sl19 : Array (Option Value)} {oc19 kV19 dc19 pm19 cd19 ct19 : Value}
    (a19 : PySem.W.nsIn K mainGlobals "_law_is_int" = some (some (.ref f19))) (l19 : K.lookup f19 = some ⟨oc19, od19, .func (PySem.W.fnOf "_law_is_int" "_law_is_int" (defArgs s_law_is_int) (defBody s_law_is_int) (defScope s_law_is_int) .none kV19 dc19 pm19 an19 cd19 ct19), sl19⟩) (c19 : PySem.W.codeIn K cd19 "_law_is_int" = true) (k19 : PySem.W.keepIn K (.ref f19) = true)
    {f20 : Addr} {od20 an20 : Option Addr} {sl20 : Array (Option Value)} {oc20 kV20 dc20 pm20 cd20 ct20 : Value}
    (a20 : PySem.W.nsIn K mainGlobals "_law_range_of" = some (some (.ref f20))) (l20 : K.lookup f20 = some ⟨oc20, od20, .func (PySem.W.fnOf "_law_range_of" "_law_range_of" (defArgs s_law_range_of) (defBody s_law_range_of) (defScope s_law_range_of) .none kV20 dc20 pm20 an20 cd20 ct20), sl20⟩) (c20 : PySem.W.codeIn K cd20 "_law_range_of" = true) (k20 : PySem.W.keepIn K (.ref f20) = true)
    {f21 : Addr} {od21 an21 : Option Addr} {sl21 : Array (Option Value)} {oc21 kV21 dc21 pm21 cd21 ct21 : Value}
    (a21 : PySem.W.nsIn K mainGlobals "_law_is_in_range" = some (some (.ref f21))) (l21 : K.lookup f21 = some ⟨oc21, od21, .func (PySem.W.fnOf "_law_is_in_range" "_law_is_in_range" (defArgs s_law_is_in_range) (defBody s_law_is_in_range) (defScope s_law_is_in_range) .none kV21 dc21 pm21 an21 cd21 ct21), sl21⟩) (c21 : PySem.W.codeIn K cd21 "_law_is_in_range" = true) (k21 : PySem.W.keepIn K (.ref f21) = true)
    {f22 : Addr} {od22 an22 : Option Addr} {sl22 : Array (Option Value)} {oc22 kV22 dc22 pm22 cd22 ct22 : Value}
    (a22 : PySem.W.nsIn K mainGlobals "_law_is_form" = some (some (.ref f22))) (l22 : K.lookup f22 = some ⟨oc22, od22, .func (PySem.W.fnOf "_law_is_form" "_law_is_form" (defArgs s_law_is_form) (defBody s_law_is_form) (defScope s_law_is_form) .none kV22 dc22 pm22 an22 cd22 ct22), sl22⟩) (c22 : PySem.W.codeIn K cd22 "_law_is_form" = true) (k22 : PySem.W.keepIn K (.ref f22) = true)
    {f23 : Addr} {od23 an23 : Option Addr} {sl23 : Array (Option Value)} {oc23 kV23 dc23 pm23 cd23 ct23 : Value}
    (a23 : PySem.W.nsIn K mainGlobals "_law_take" = some (some (.ref f23))) (l23 : K.lookup f23 = some ⟨oc23, od23, .func (PySem.W.fnOf "_law_take" "_law_take" (defArgs s_law_take) (defBody s_law_take) (defScope s_law_take) .none kV23 dc23 pm23 an23 cd23 ct23), sl23⟩) (c23 : PySem.W.codeIn K cd23 "_law_take" = true) (k23 : PySem.W.keepIn K (.ref f23) = true)
    {f24 : Addr} {od24 an24 : Option Addr} {sl24 : Array (Option Value)} {oc24 kV24 dc24 pm24 cd24 ct24 : Value}
    (a24 : PySem.W.nsIn K mainGlobals "_law_some" = some (some (.ref f24))) (l24 : K.lookup f24 = some ⟨oc24, od24, .func (PySem.W.fnOf "_law_some" "_law_some" (defArgs s_law_some) (defBody s_law_some) (defScope s_law_some) .none kV24 dc24 pm24 an24 cd24 ct24), sl24⟩) (c24 : PySem.W.codeIn K cd24 "_law_some" = true) (k24 : PySem.W.keepIn K (.ref f24) = true)
    {f25 : Addr} {od25 an25 : Option Addr} {sl25 : Array (Option Value)} {oc25 kV25 dc25 pm25 cd25 ct25 : Value}
    (a25 : PySem.W.nsIn K mainGlobals "_law_odd" = some (some (.ref f25))) (l25 : K.lookup f25 = some ⟨oc25, od25, .func (PySem.W.fnOf "_law_odd" "_law_odd" (defArgs s_law_odd) (defBody s_law_odd) (defScope s_law_odd) .none kV25 dc25 pm25 an25 cd25 ct25), sl25⟩) (c25 : PySem.W.codeIn K cd25 "_law_odd" = true) (k25 : PySem.W.keepIn K (.ref f25) = true)
    {f26 : Addr} {od26 an26 : Option Addr} {sl26 : Array (Option Value)} {oc26 kV26 dc26 pm26 cd26 ct26 : Value}
    (a26 : PySem.W.nsIn K mainGlobals "_law_drawn_shape" = some (some (.ref f26))) (l26 : K.lookup f26 = some ⟨oc26, od26, .func (PySem.W.fnOf "_law_drawn_shape" "_law_drawn_shape" (defArgs s_law_drawn_shape) (defBody s_law_drawn_shape) (defScope s_law_drawn_shape) .none kV26 dc26 pm26 an26 cd26 ct26), sl26⟩) (c26 : PySem.W.codeIn K cd26 "_law_drawn_shape" = true) (k26 : PySem.W.keepIn K (.ref f26) = true)
    {f27 : Addr} {od27 an27 : Option Addr} {sl27 : Array (Option Value)} {oc27 kV27 dc27 pm27 cd27 ct27 : Value}
    (a27 : PySem.W.nsIn K mainGlobals "_law_any_shape" = some (some (.ref f27))) (l27 : K.lookup f27 = some ⟨oc27, od27, .func (PySem.W.fnOf "_law_any_shape" "_law_any_shape" (defArgs s_law_any_shape) (defBody s_law_any_shape) (defScope s_law_any_shape) .none kV27 dc27 pm27 an27 cd27 ct27), sl27⟩) (c27 : PySem.W.codeIn K cd27 "_law_any_shape" = true) (k27 : PySem.W.keepIn K (.ref f27) = true)
    {f28 : Addr} {od28 an28 : Option Addr} {sl28 : Array (Option Value)} {oc28 kV28 dc28 pm28 cd28 ct28 : Value}
    (a28 : PySem.W.nsIn K mainGlobals "_law_bent" = some (some (.ref f28))) (l28 : K.lookup f28 = some ⟨oc28, od28, .func (PySem.W.fnOf "_law_bent" "_law_bent" (defArgs s_law_bent) (defBody s_law_bent) (defScope s_law_bent) .none kV28 dc28 pm28 an28 cd28 ct28), sl28⟩) (c28 : PySem.W.codeIn K cd28 "_law_bent" = true) (k28 : PySem.W.keepIn K (.ref f28) = true)
    {f29 : Addr} {od29 an29 : Option Addr} {sl29 : Array (Option Value)} {oc29 kV29 dc29 pm29 cd29 ct29 : Value}
    (a29 : PySem.W.nsIn K mainGlobals "_law_mixed" = some (some (.ref f29))) (l29 : K.lookup f29 = some ⟨oc29, od29, .func (PySem.W.fnOf "_law_mixed" "_law_mixed" (defArgs s_law_mixed) (defBody s_law_mixed) (defScope s_law_mixed) .none kV29 dc29 pm29 an29 cd29 ct29), sl29⟩) (c29 : PySem.W.codeIn K cd29 "_law_mixed" = true) (k29 : PySem.W.keepIn K (.ref f29) = true)
    {f30 : Addr} {od30 an30 : Option Addr} {sl30 : Array (Option Value)} {oc30 kV30 dc30 pm30 cd30 ct30 : Value}
    (a30 : PySem.W.nsIn K mainGlobals "_law_ranges" = some (some (.ref f30))) (l30 : K.lookup f30 = some ⟨oc30, od30, .func (PySem.W.fnOf "_law_ranges" "_law_ranges" (defArgs s_law_ranges) (defBody s_law_ranges) (defScope s_law_ranges) .none kV30 dc30 pm30 an30 cd30 ct30), sl30⟩) (c30 : PySem.W.codeIn K cd30 "_law_ranges" = true) (k30 : PySem.W.keepIn K (.ref f30) = true)
    {f31 : Addr} {od31 an31 : Option Addr} {sl31 : Array (Option Value)} {oc31 kV31 dc31 pm31 cd31 ct31 : Value}
    (a31 : PySem.W.nsIn K mainGlobals "_law_line" = some (some (.ref f31))) (l31 : K.lookup f31 = some ⟨oc31, od31, .func (PySem.W.fnOf "_law_line" "_law_line" (defArgs s_law_line) (defBody s_law_line) (defScope s_law_line) .none kV31 dc31 pm31 an31 cd31 ct31), sl31⟩) (c31 : PySem.W.codeIn K cd31 "_law_line" = true) (k31 : PySem.W.keepIn K (.ref f31) = true)
    {f32 : Addr} {od32 an32 : Option Addr} {sl32 : Array (Option Value)} {oc32 kV32 dc32 pm32 cd32 ct32 : Value}
    (a32 : PySem.W.nsIn K mainGlobals "_law_columns_mixed" = some (some (.ref f32))) (l32 : K.lookup f32 = some ⟨oc32, od32, .func (PySem.W.fnOf "_law_columns_mixed" "_law_columns_mixed" (defArgs s_law_columns_mixed) (defBody s_law_columns_mixed) (defScope s_law_columns_mixed) .none kV32 dc32 pm32 an32 cd32 ct32), sl32⟩) (c32 : PySem.W.codeIn K cd32 "_law_columns_mixed" = true) (k32 : PySem.W.keepIn K (.ref f32) = true)
    {f33 : Addr} {od33 an33 : Option Addr} {sl33 : Array (Option Value)} {oc33 kV33 dc33 pm33 cd33 ct33 : Value}
    (a33 : PySem.W.nsIn K mainGlobals "_law_forest" = some (some (.ref f33))) (l33 : K.lookup f33 = some ⟨oc33, od33, .func (PySem.W.fnOf "_law_forest" "_law_forest" (defArgs s_law_forest) (defBody s_law_forest) (defScope s_law_forest) .none kV33 dc33 pm33 an33 cd33 ct33), sl33⟩) (c33 : PySem.W.codeIn K cd33 "_law_forest" = true) (k33 : PySem.W.keepIn K (.ref f33) = true)
    {f34 : Addr} {od34 an34 : Option Addr} {sl34 : Array (Option Value)} {oc34 kV34 dc34 pm34 cd34 ct34 : Value}
    (a34 : PySem.W.nsIn K mainGlobals "_law_nested_question" = some (some (.ref f34))) (l34 : K.lookup f34 = some ⟨oc34, od34, .func (PySem.W.fnOf "_law_nested_question" "_law_nested_question" (defArgs s_law_nested_question) (defBody s_law_nested_question) (defScope s_law_nested_question) .none kV34 dc34 pm34 an34 cd34 ct34), sl34⟩) (c34 : PySem.W.codeIn K cd34 "_law_nested_question" = true) (k34 : PySem.W.keepIn K (.ref f34) = true)
    {f35 : Addr} {od35 an35 : Option Addr} {sl35 : Array (Option Value)} {oc35 kV35 dc35 pm35 cd35 ct35 : Value}
    (a35 : PySem.W.nsIn K mainGlobals "_law_bag" = some (some (.ref f35))) (l35 : K.lookup f35 = some ⟨oc35, od35, .func (PySem.W.fnOf "_law_bag" "_law_bag" (defArgs s_law_bag) (defBody s_law_bag) (defScope s_law_bag) .none kV35 dc35 pm35 an35 cd35 ct35), sl35⟩) (c35 : PySem.W.codeIn K cd35 "_law_bag" = true) (k35 : PySem.W.keepIn K (.ref f35) = true)
    {f36 : Addr} {od36 an36 : Option Addr} {sl36 : Array (Option Value)} {oc36 kV36 dc36 pm36 cd36 ct36 : Value}
    (a36 : PySem.W.nsIn K mainGlobals "law" = some (some (.ref f36))) (l36 : K.lookup f36 = some ⟨oc36, od36, .func (PySem.W.fnOf "law" "law" (defArgs s_law) (defBody s_law) (defScope s_law) .none kV36 dc36 pm36 an36 cd36 ct36), sl36⟩) (c36 : PySem.W.codeIn K cd36 "law" = true) (k36 : PySem.W.keepIn K (.ref f36) = true)
    {cc0 pp0 : Addr} {toc0 : Value} {tod0 : Option Addr} {tsl0 : Array (Option Value)} {tv0 : Array Value} (q0 : cd4 = .ref cc0) (t0 : K.lookup cc0 = some ⟨toc0, tod0, .fields tv0, tsl0⟩) (v0 : (tv0[11]? : Option Value) = some (.ref pp0)) (n0 : K.lookup pp0 = none)
    (nd : ([pp0] : List Addr).Nodup)
    (z_enumerate : PySem.W.nsIn K mainGlobals "enumerate" = some none)
    (z_tuple : PySem.W.nsIn K mainGlobals "tuple" = some none)
    (z_all : PySem.W.nsIn K mainGlobals "all" = some none)
    (z_len : PySem.W.nsIn K mainGlobals "len" = some none)
    (z_sorted : PySem.W.nsIn K mainGlobals "sorted" = some none)
    (z_isinstance : PySem.W.nsIn K mainGlobals "isinstance" = some none)
    (z_int : PySem.W.nsIn K mainGlobals "int" = some none)
    (z_bool : PySem.W.nsIn K mainGlobals "bool" = some none)
    (z_zip : PySem.W.nsIn K mainGlobals "zip" = some none)
    (z_repr : PySem.W.nsIn K mainGlobals "repr" = some none)
    (z_set : PySem.W.nsIn K mainGlobals "set" = some none)
    (z_range : PySem.W.nsIn K mainGlobals "range" = some none)
    (z_str : PySem.W.nsIn K mainGlobals "str" = some none)
    (z_list : PySem.W.nsIn K mainGlobals "list" = some none)
    (z_abs : PySem.W.nsIn K mainGlobals "abs" = some none)
    : ∃ (fd : FuncData) (cs : List (Addr × Addr)), (["path_of"] : List Str).map (PySem.W.tabIn K) = cs.map some ∧ (∀ p ∈ cs, K.lookup p.2 = none) ∧ (cs.map (·.2)).Nodup ∧ (∀ (s : Shared) (v : Value), BindsTo s fd ⟨[v], []⟩ [("_law_script", v)]) ∧ ∀ base : Heap, K.In base → base.Ns mainGlobals mg → (∀ p ∈ cs, LamX.TabB base mg p.1 p.2) → (∃ mm, base.Ns sysModules mm) → FnG l.prog w K mg base 24 fa fd ["_law_script"] (d_law fun i => ((cs[i]?).map (·.2)).getD 0) := by
  have e := hfa.symm.trans (PySem.W.mg_of X G a36)
  cases e
  refine ⟨PySem.W.fnOf "law" "law" (defArgs s_law) (defBody s_law) (defScope s_law) .none kV36 dc36 pm36 an36 cd36 ct36, [(cc0, pp0)], by simp only [List.map_cons, List.map_nil, Mn.tab_mk a4 l4 q0 t0 v0], fun p hp => ?_, nd, fun s v => .of_eq rfl, fun base _ _ TBs SM => ?_⟩
  · simp only [List.mem_cons, List.not_mem_nil, or_false] at hp
    rcases hp with rfl
    · exact n0
  obtain ⟨ts, hts⟩ : ∃ ts : Nat → Addr, (fun i => ((([(cc0, pp0)] : List (Addr × Addr))[i]?).map (·.2)).getD 0) = ts := ⟨_, rfl⟩
  rw [hts]
  have T0 : LamX.TabB base mg cc0 (ts 0) := by rw [← hts]; exact TBs (cc0, pp0) (by simp)
  have y_enumerate := PySem.W.mg_none_of X G z_enumerate
  have y_tuple := PySem.W.mg_none_of X G z_tuple
  have y_all := PySem.W.mg_none_of X G z_all
  have y_len := PySem.W.mg_none_of X G z_len
  have y_sorted := PySem.W.mg_none_of X G z_sorted
  have y_isinstance := PySem.W.mg_none_of X G z_isinstance
  have y_int := PySem.W.mg_none_of X G z_int
  have y_bool := PySem.W.mg_none_of X G z_bool
  have y_zip := PySem.W.mg_none_of X G z_zip
  have y_repr := PySem.W.mg_none_of X G z_repr
  have y_set := PySem.W.mg_none_of X G z_set
  have y_range := PySem.W.mg_none_of X G z_range
  have y_str := PySem.W.mg_none_of X G z_str
  have y_list := PySem.W.mg_none_of X G z_list
  have y_abs := PySem.W.mg_none_of X G z_abs
  have F1 := fun_mk (st := s_atoms_of) l1 c1 k1
  have F2 := fun_mk (st := s_is_above) l2 c2 k2
  have F3 := fun_mk (st := s_above_of) l3 c3 k3
  have F4 := fun_mk (st := s_path_of) l4 c4 k4
  have F5 := fun_mk (st := s_parent_of) l5 c5 k5
  have F6 := fun_mk (st := s_roots_of) l6 c6 k6
  have F7 := fun_mk (st := s_range_of) l7 c7 k7
  have F8 := fun_mk (st := s_lets) l8 c8 k8
  have F9 := fun_mk (st := s_children_of) l9 c9 k9
  have F10 := fun_mk (st := s_is_integer) l10 c10 k10
  have F11 := fun_mk (st := s_is_branch) l11 c11 k11
  have F12 := fun_mk (st := s_are_branches) l12 c12 k12
  have F13 := fun_mk (st := s_is_shape) l13 c13 k13
  have F14 := fun_mk (st := s_law_alike) l14 c14 k14
  have F15 := fun_mk (st := s_law_atoms_of) l15 c15 k15
  have F16 := fun_mk (st := s_law_is_above) l16 c16 k16
  have F17 := fun_mk (st := s_law_path) l17 c17 k17
  have F18 := fun_mk (st := s_law_children) l18 c18 k18
  have F19 := fun_mk (st := s_law_is_int) l19 c19 k19
  have F20 := fun_mk (st := s_law_range_of) l20 c20 k20
  have F21 := fun_mk (st := s_law_is_in_range) l21 c21 k21
  have F22 := fun_mk (st := s_law_is_form) l22 c22 k22
  have F23 := fun_mk (st := s_law_take) l23 c23 k23
  have F24 := fun_mk (st := s_law_some) l24 c24 k24
  have F25 := fun_mk (st := s_law_odd) l25 c25 k25
  have F26 := fun_mk (st := s_law_drawn_shape) l26 c26 k26
  have F27 := fun_mk (st := s_law_any_shape) l27 c27 k27
  have F28 := fun_mk (st := s_law_bent) l28 c28 k28
  have F29 := fun_mk (st := s_law_mixed) l29 c29 k29
  have F30 := fun_mk (st := s_law_ranges) l30 c30 k30
  have F31 := fun_mk (st := s_law_line) l31 c31 k31
  have F32 := fun_mk (st := s_law_columns_mixed) l32 c32 k32
  have F33 := fun_mk (st := s_law_forest) l33 c33 k33
  have F34 := fun_mk (st := s_law_nested_question) l34 c34 k34
  have F35 := fun_mk (st := s_law_bag) l35 c35 k35
  have F36 := fun_mk (st := s_law) l36 c36 k36
  have C_atoms_of : Cal l.prog w K mg base 1 "atoms_of" P_atoms_of d_atoms_of := ⟨f1, _, ok_atoms_of F1 y_enumerate y_tuple, PySem.W.mg_of X G a1, k1, F1.binds (ps := P_atoms_of) fun _ _ _ _ _ _ us hl => match us, hl with | [_, _], _ => rfl⟩
  have C_is_above : Cal l.prog w K mg base 2 "is_above" P_is_above d_is_above := ⟨f2, _, ok_is_above F2 (C_atoms_of.mono (by decide)) y_all, PySem.W.mg_of X G a2, k2, F2.binds (ps := P_is_above) fun _ _ _ _ _ _ us hl => match us, hl with | [_, _, _], _ => rfl⟩
  have C_above_of : Cal l.prog w K mg base 3 "above_of" P_above_of d_above_of := ⟨f3, _, ok_above_of F3 (C_is_above.mono (by decide)), PySem.W.mg_of X G a3, k3, F3.binds (ps := P_above_of) fun _ _ _ _ _ _ us hl => match us, hl with | [_, _], _ => rfl⟩
  have C_path_of : Cal l.prog w K mg base 8 "path_of" P_path_of (d_path_of ts) := ⟨f4, _, ok_path_of (ts := ts) F4 q0 T0 (C_above_of.mono (by decide)) y_len y_sorted, PySem.W.mg_of X G a4, k4, F4.binds (ps := P_path_of) fun _ _ _ _ _ _ us hl => match us, hl with | [_, _], _ => rfl⟩
  have C_parent_of : Cal l.prog w K mg base 9 "parent_of" P_parent_of (d_parent_of ts) := ⟨f5, _, ok_parent_of (ts := ts) F5 (C_path_of.mono (by decide)) y_len, PySem.W.mg_of X G a5, k5, F5.binds (ps := P_parent_of) fun _ _ _ _ _ _ us hl => match us, hl with | [_, _], _ => rfl⟩
  have C_roots_of : Cal l.prog w K mg base 10 "roots_of" P_roots_of (d_roots_of ts) := ⟨f6, _, ok_roots_of (ts := ts) F6 (C_parent_of.mono (by decide)) y_tuple, PySem.W.mg_of X G a6, k6, F6.binds (ps := P_roots_of) fun _ _ _ _ _ _ us hl => match us, hl with | [_], _ => rfl⟩
  have C_range_of : Cal l.prog w K mg base 1 "range_of" P_range_of d_range_of := ⟨f7, _, ok_range_of F7, PySem.W.mg_of X G a7, k7, F7.binds (ps := P_range_of) fun _ _ _ _ _ _ us hl => match us, hl with | [_, _], _ => rfl⟩
  have C_lets : Cal l.prog w K mg base 2 "lets" P_lets d_lets := ⟨f8, _, ok_lets F8 (C_range_of.mono (by decide)), PySem.W.mg_of X G a8, k8, F8.binds (ps := P_lets) fun _ _ _ _ _ _ us hl => match us, hl with | [_, _, _], _ => rfl⟩
  have C_children_of : Cal l.prog w K mg base 10 "children_of" P_children_of (d_children_of ts) := ⟨f9, _, ok_children_of (ts := ts) F9 (C_parent_of.mono (by decide)) y_tuple, PySem.W.mg_of X G a9, k9, F9.binds (ps := P_children_of) fun _ _ _ _ _ _ us hl => match us, hl with | [_, _], _ => rfl⟩
  have C_is_integer : Cal l.prog w K mg base 1 "is_integer" P_is_integer d_is_integer := ⟨f10, _, ok_is_integer F10 y_isinstance y_int y_bool, PySem.W.mg_of X G a10, k10, F10.binds (ps := P_is_integer) fun _ _ _ _ _ _ us hl => match us, hl with | [_], _ => rfl⟩
  have Z12 := ok_is_branch_are_branches (ts := ts) F11 F12 (PySem.W.mg_of X G a11) k11 (F11.binds (ps := P_is_branch) fun _ _ _ _ _ _ us hl => match us, hl with | [_, _, _], _ => rfl) (PySem.W.mg_of X G a12) k12 (F12.binds (ps := P_are_branches) fun _ _ _ _ _ _ us hl => match us, hl with | [_, _, _], _ => rfl) (C_lets.mono (by decide)) (C_children_of.mono (by decide)) (C_is_integer.mono (by decide)) y_zip y_all y_isinstance y_tuple y_len 12
  have C_is_branch : Cal l.prog w K mg base 22 "is_branch" P_is_branch (d_is_branch ts 12) := ⟨f11, _, Z12.1, PySem.W.mg_of X G a11, k11, F11.binds (ps := P_is_branch) fun _ _ _ _ _ _ us hl => match us, hl with | [_, _, _], _ => rfl⟩
  have C_are_branches : Cal l.prog w K mg base 22 "are_branches" P_are_branches (d_are_branches ts 12) := ⟨f12, _, Z12.2, PySem.W.mg_of X G a12, k12, F12.binds (ps := P_are_branches) fun _ _ _ _ _ _ us hl => match us, hl with | [_, _, _], _ => rfl⟩
  have C_is_shape : Cal l.prog w K mg base 23 "is_shape" P_is_shape (d_is_shape ts) := ⟨f13, _, ok_is_shape (ts := ts) F13 (C_roots_of.mono (by decide)) (C_are_branches.mono (by decide)), PySem.W.mg_of X G a13, k13, F13.binds (ps := P_is_shape) fun _ _ _ _ _ _ us hl => match us, hl with | [_, _], _ => rfl⟩
  have C_law_alike : Cal l.prog w K mg base 1 "_law_alike" P_law_alike d_law_alike := ⟨f14, _, ok_law_alike F14 y_repr, PySem.W.mg_of X G a14, k14, F14.binds (ps := P_law_alike) fun _ _ _ _ _ _ us hl => match us, hl with | [_, _], _ => rfl⟩
  have C_law_atoms_of : Cal l.prog w K mg base 1 "_law_atoms_of" P_law_atoms_of d_law_atoms_of := ⟨f15, _, ok_law_atoms_of F15 y_enumerate, PySem.W.mg_of X G a15, k15, F15.binds (ps := P_law_atoms_of) fun _ _ _ _ _ _ us hl => match us, hl with | [_, _], _ => rfl⟩
  have C_law_is_above : Cal l.prog w K mg base 2 "_law_is_above" P_law_is_above d_law_is_above := ⟨f16, _, ok_law_is_above F16 (C_law_atoms_of.mono (by decide)) y_len, PySem.W.mg_of X G a16, k16, F16.binds (ps := P_law_is_above) fun _ _ _ _ _ _ us hl => match us, hl with | [_, _, _], _ => rfl⟩
  have C_law_path : Cal l.prog w K mg base 3 "_law_path" P_law_path d_law_path := ⟨f17, _, ok_law_path F17 (C_law_is_above.mono (by decide)) y_sorted y_len, PySem.W.mg_of X G a17, k17, F17.binds (ps := P_law_path) fun _ _ _ _ _ _ us hl => match us, hl with | [_, _], _ => rfl⟩
  have C_law_children : Cal l.prog w K mg base 4 "_law_children" P_law_children d_law_children := ⟨f18, _, ok_law_children F18 (C_law_path.mono (by decide)) y_len, PySem.W.mg_of X G a18, k18, F18.binds (ps := P_law_children) fun _ _ _ _ _ _ us hl => match us, hl with | [_, _], _ => rfl⟩
  have C_law_is_int : Cal l.prog w K mg base 1 "_law_is_int" P_law_is_int d_law_is_int := ⟨f19, _, ok_law_is_int F19 y_isinstance y_int y_bool, PySem.W.mg_of X G a19, k19, F19.binds (ps := P_law_is_int) fun _ _ _ _ _ _ us hl => match us, hl with | [_], _ => rfl⟩
  have C_law_range_of : Cal l.prog w K mg base 1 "_law_range_of" P_law_range_of d_law_range_of := ⟨f20, _, ok_law_range_of F20, PySem.W.mg_of X G a20, k20, F20.binds (ps := P_law_range_of) fun _ _ _ _ _ _ us hl => match us, hl with | [_, _], _ => rfl⟩
  have C_law_is_in_range : Cal l.prog w K mg base 2 "_law_is_in_range" P_law_is_in_range d_law_is_in_range := ⟨f21, _, ok_law_is_in_range F21 (C_law_range_of.mono (by decide)), PySem.W.mg_of X G a21, k21, F21.binds (ps := P_law_is_in_range) fun _ _ _ _ _ _ us hl => match us, hl with | [_, _, _], _ => rfl⟩
  have C_law_is_form : Cal l.prog w K mg base 12 "_law_is_form" P_law_is_form (d_law_is_form 8) := ⟨f22, _, ok_law_is_form F22 (PySem.W.mg_of X G a22) k22 (F22.binds (ps := P_law_is_form) fun _ _ _ _ _ _ us hl => match us, hl with | [_, _, _], _ => rfl) (C_law_children.mono (by decide)) (C_law_is_int.mono (by decide)) (C_law_is_in_range.mono (by decide)) y_zip y_isinstance y_tuple y_len 8, PySem.W.mg_of X G a22, k22, F22.binds (ps := P_law_is_form) fun _ _ _ _ _ _ us hl => match us, hl with | [_, _, _], _ => rfl⟩
  have C_law_take : Cal l.prog w K mg base 1 "_law_take" P_law_take d_law_take := ⟨f23, _, ok_law_take F23 y_int, PySem.W.mg_of X G a23, k23, F23.binds (ps := P_law_take) fun _ _ _ _ _ _ us hl => match us, hl with | [_, _], _ => rfl⟩
  have C_law_some : Cal l.prog w K mg base 2 "_law_some" P_law_some d_law_some := ⟨f24, _, ok_law_some F24 (C_law_take.mono (by decide)) y_len, PySem.W.mg_of X G a24, k24, F24.binds (ps := P_law_some) fun _ _ _ _ _ _ us hl => match us, hl with | [_, _], _ => rfl⟩
  have C_law_odd : Cal l.prog w K mg base 3 "_law_odd" P_law_odd d_law_odd := ⟨f25, _, ok_law_odd F25 (C_law_some.mono (by decide)), PySem.W.mg_of X G a25, k25, F25.binds (ps := P_law_odd) fun _ _ _ _ _ _ us hl => match us, hl with | [_], _ => rfl⟩
  have C_law_drawn_shape : Cal l.prog w K mg base 12 "_law_drawn_shape" P_law_drawn_shape (d_law_drawn_shape 8) := ⟨f26, _, ok_law_drawn_shape F26 (PySem.W.mg_of X G a26) k26 (F26.binds (ps := P_law_drawn_shape) fun _ _ _ _ _ _ us hl => match us, hl with | [_, _, _, _], _ => rfl) (C_law_children.mono (by decide)) (C_law_take.mono (by decide)) (C_law_some.mono (by decide)) (C_law_range_of.mono (by decide)) y_tuple y_sorted y_set y_range 8, PySem.W.mg_of X G a26, k26, F26.binds (ps := P_law_drawn_shape) fun _ _ _ _ _ _ us hl => match us, hl with | [_, _, _, _], _ => rfl⟩
  have C_law_any_shape : Cal l.prog w K mg base 13 "_law_any_shape" P_law_any_shape d_law_any_shape := ⟨f27, _, ok_law_any_shape F27 (C_law_some.mono (by decide)) (C_law_children.mono (by decide)) (C_law_drawn_shape.mono (by decide)) (C_law_take.mono (by decide)), PySem.W.mg_of X G a27, k27, F27.binds (ps := P_law_any_shape) fun _ _ _ _ _ _ us hl => match us, hl with | [_, _], _ => rfl⟩
  have C_law_bent : Cal l.prog w K mg base 21 "_law_bent" P_law_bent (d_law_bent 18) := ⟨f28, _, ok_law_bent F28 (PySem.W.mg_of X G a28) k28 (F28.binds (ps := P_law_bent) fun _ _ _ _ _ _ us hl => match us, hl with | [_, _], _ => rfl) (C_law_odd.mono (by decide)) (C_law_is_int.mono (by decide)) (C_law_some.mono (by decide)) (C_law_take.mono (by decide)) y_str y_isinstance y_tuple y_list y_len 18, PySem.W.mg_of X G a28, k28, F28.binds (ps := P_law_bent) fun _ _ _ _ _ _ us hl => match us, hl with | [_, _], _ => rfl⟩
  have C_law_mixed : Cal l.prog w K mg base 2 "_law_mixed" P_law_mixed d_law_mixed := ⟨f29, _, ok_law_mixed F29 (C_law_take.mono (by decide)) y_len, PySem.W.mg_of X G a29, k29, F29.binds (ps := P_law_mixed) fun _ _ _ _ _ _ us hl => match us, hl with | [_, _], _ => rfl⟩
  have C_law_ranges : Cal l.prog w K mg base 3 "_law_ranges" P_law_ranges d_law_ranges := ⟨f30, _, ok_law_ranges F30 (C_law_mixed.mono (by decide)) (C_law_take.mono (by decide)) (C_law_some.mono (by decide)) y_tuple y_list, PySem.W.mg_of X G a30, k30, F30.binds (ps := P_law_ranges) fun _ _ _ _ _ _ us hl => match us, hl with | [_, _], _ => rfl⟩
  have C_law_line : Cal l.prog w K mg base 1 "_law_line" P_law_line d_law_line := ⟨f31, _, ok_law_line F31, PySem.W.mg_of X G a31, k31, F31.binds (ps := P_law_line) fun _ _ _ _ _ _ us hl => match us, hl with | [_, _], _ => rfl⟩
  have C_law_columns_mixed : Cal l.prog w K mg base 3 "_law_columns_mixed" P_law_columns_mixed d_law_columns_mixed := ⟨f32, _, ok_law_columns_mixed F32 (C_law_line.mono (by decide)) (C_law_mixed.mono (by decide)) y_tuple, PySem.W.mg_of X G a32, k32, F32.binds (ps := P_law_columns_mixed) fun _ _ _ _ _ _ us hl => match us, hl with | [_, _, _, _], _ => rfl⟩
  have C_law_forest : Cal l.prog w K mg base 3 "_law_forest" P_law_forest d_law_forest := ⟨f33, _, ok_law_forest F33 (C_law_some.mono (by decide)) y_range y_list, PySem.W.mg_of X G a33, k33, F33.binds (ps := P_law_forest) fun _ _ _ _ _ _ us hl => match us, hl with | [_, _], _ => rfl⟩
  have C_law_nested_question : Cal l.prog w K mg base 4 "_law_nested_question" P_law_nested_question d_law_nested_question := ⟨f34, _, ok_law_nested_question F34 (C_law_ranges.mono (by decide)) (C_law_mixed.mono (by decide)) (C_law_columns_mixed.mono (by decide)) (C_law_some.mono (by decide)) (C_law_forest.mono (by decide)) (C_law_take.mono (by decide)) y_tuple y_zip y_len y_range, PySem.W.mg_of X G a34, k34, F34.binds (ps := P_law_nested_question) fun _ _ _ _ _ _ us hl => match us, hl with | [_, _], _ => rfl⟩
  have C_law_bag : Cal l.prog w K mg base 1 "_law_bag" P_law_bag d_law_bag := ⟨f35, _, ok_law_bag F35 y_abs, PySem.W.mg_of X G a35, k35, F35.binds (ps := P_law_bag) fun _ _ _ _ _ _ us hl => match us, hl with | [_], _ => rfl⟩
  exact ok_law (ts := ts) F36 SM (C_is_shape.mono (by decide)) (C_law_alike.mono (by decide)) (C_law_is_form.mono (by decide)) (C_law_odd.mono (by decide)) (C_law_any_shape.mono (by decide)) (C_law_bent.mono (by decide)) (C_law_children.mono (by decide)) (C_law_nested_question.mono (by decide)) (C_law_some.mono (by decide)) (C_law_bag.mono (by decide)) y_range y_repr
end K56

set_option maxRecDepth 100000
set_option maxHeartbeats 1000000
namespace K56
open PySem PySem.Spec PyProof.Rows L2 Mn
/-! ### what the law draws -/
def Bag (S : Sto) (b : Nat) : Prop := ∃ (h st i : Int) (cs : List Int), S.ob b = some (.lst [.int h, .int st, .int i, .lst (cs.map .int)]) ∧ cs.length ≤ 63
/-- all but b is as it was -/
def Kp (b : Nat) (S S' : Sto) : Prop := S.nx ≤ S'.nx ∧ ∀ n, n ≠ b → n < S.nx → S'.ob n = S.ob n
theorem Kp.refl {b : Nat} {S : Sto} : Kp b S S := ⟨Nat.le_refl _, fun _ _ _ => rfl⟩
theorem Kp.trans {b : Nat} {S S1 S2 : Sto} (h : Kp b S S1) (k : Kp b S1 S2) : Kp b S S2 := ⟨Nat.le_trans h.1 k.1, fun n h1 h2 => (k.2 n h1 (Nat.lt_of_lt_of_le h2 h.1)).trans (h.2 n h1 h2)⟩
theorem Kp.set {b : Nat} {S S1 : Sto} {o : Ob} (h : Kp b S S1) : Kp b S (S1.set b o) := ⟨h.1, fun n h1 h2 => by rw [Sto.set_ob, if_neg h1]; exact h.2 n h1 h2⟩
theorem ob_set {S : Sto} {b : Nat} {o : Ob} : (S.set b o).ob b = some o := by rw [Sto.set_ob, if_pos rfl]
theorem cut_map {α β : Type} {f : α → β} {l : List α} {a b : Option Int} : Mn.cutD (l.map f) a b = (Mn.cutD l a b).map f := by
  unfold Mn.cutD
  rw [List.length_map, ← List.map_drop, ← List.map_take]
theorem cut_len {α : Type} {l : List α} {a b : Option Int} : (Mn.cutD l a b).length ≤ l.length := by
  unfold Mn.cutD
  rw [List.length_take, List.length_drop]
  omega
theorem head_int (l : List Int) : ∃ c, atI (l.map D.int ++ [D.int 0]) 0 = some (D.int c) := by
  cases l with
  | nil => exact ⟨0, rfl⟩
  | cons x l => exact ⟨x, by unfold atI ixN; rw [if_pos (Int.le_refl 0), if_pos (by simp; omega)]; rfl⟩
theorem wp_seq {a b : SM} {rho : Mn.Env} {S : Sto} {Q : Fl × Mn.Env → Sto → Prop} {R : Mn.Env → Sto → Prop} (h : Wp (a rho) S fun p S1 => p.1 = .nx ∧ R p.2 S1) (k : ∀ r S1, R r S1 → Wp (b r) S1 Q) : Wp (mSeq a b rho) S Q := by
  rw [wp_mSeq]
  refine h.mono fun p S1 ⟨e, r⟩ => ?_
  rw [e]
  exact k _ _ r
theorem wp_ret1 {a : EM D} {rho : Mn.Env} {S : Sto} {Q : Fl × Mn.Env → Sto → Prop} (h : Wp (a rho) S fun d S1 => Q (.rt d, rho) S1) : Wp (mSeq (mRet a) mNx rho) S Q := by
  rw [wp_mSeq, wp_mRet]
  simp only [wp_ret]
  exact h
theorem take_spec {S : Sto} {b : Nat} {m : Int} (hb : Bag S b) (h0 : 0 < m) (h1 : m < 1073741824) :
    Wp (d_law_take [.ref b, .int m]) S fun d S' => ∃ v, d = .int v ∧ 0 ≤ v ∧ v < m ∧ Bag S' b ∧ Kp b S S' := by
  obtain ⟨h, st, i, cs, hob, hl⟩ := hb
  -- the third part alone
  have part3 : ∀ (S1 : Sto) (h st i : Int) (c2 c3 : Option D), S1.ob b = some (.lst [.int h, .int st, .int i, .lst (cs.map .int)]) → Kp b S S1 →
      Wp ((mSeq (mIfS (mB (mBin gtM (mBin ixM (mV 0) (mC (.int 0))) (mC (.int 0)))) (mSeq (mSet 4 (mBin modM (mCall toIntM (mCons (mBin ixM (mV 0) (mC (.int 0))) mNil)) (mV 1)))
    (mSeq (mPut (mV 0) (mC (.int 0)) (mBin divM (mCall toIntM (mCons (mBin ixM (mV 0) (mC (.int 0))) mNil)) (mV 1)))
    (mSeq (mRet (mV 4))
    mNx))) mNx)
    (mSeq (mSet 5 (mBin modM (mCall toIntM (mCons (mBin mulM (mBin addM (mBin ixM (mV 0) (mC (.int 1))) (mC (.int 1))) (mC (.int 39373))) mNil)) (mC (.int 1000000007))))
    (mSeq (mSet 6 (mBin modM (mCall toIntM (mCons (mBin mulM (mBin modM (mCall toIntM (mCons (mBin mulM (mV 5) (mV 5)) mNil)) (mC (.int 998244353))) (mC (.int 30011))) mNil)) (mC (.int 998244353))))
    (mSeq (mRet (mBin modM (mCall toIntM (mCons (mBin divM (mV 6) (mC (.int 7))) mNil)) (mV 1)))
    mNx)))) [some (.ref b), some (.int m), c2, c3, none, none, none]) S1 fun p S2 => ∃ v, p.1 = .rt (.int v) ∧ 0 ≤ v ∧ v < m ∧ Bag S2 b ∧ Kp b S S2 := by
    intro S1 h st i c2 c3 ho kp
    have x0 : ∀ Q : D → Sto → Prop, Wp (ixM (.ref b) (.int 0)) S1 Q ↔ Q (.int h) S1 := fun Q => wp_ixR ho rfl
    have x1 : ∀ Q : D → Sto → Prop, Wp (ixM (.ref b) (.int 1)) S1 Q ↔ Q (.int st) S1 := fun Q => wp_ixR ho rfl
    have pm : ∀ (j : Int) (Q : D → Sto → Prop), Wp (modM (.int j) (.int m)) S1 Q ↔ Q (.int (j % m)) S1 := fun j Q => wp_mod h0
    have pd : ∀ (j : Int) (Q : D → Sto → Prop), Wp (divM (.int j) (.int m)) S1 Q ↔ Q (.int (j / m)) S1 := fun j Q => wp_div h0 h1
    have q1 : ∀ (j : Int) (Q : D → Sto → Prop), Wp (modM (.int j) (.int 1000000007)) S1 Q ↔ Q (.int (j % 1000000007)) S1 := fun j Q => wp_mod (by decide)
    have q2 : ∀ (j : Int) (Q : D → Sto → Prop), Wp (modM (.int j) (.int 998244353)) S1 Q ↔ Q (.int (j % 998244353)) S1 := fun j Q => wp_mod (by decide)
    have q3 : ∀ (j : Int) (Q : D → Sto → Prop), Wp (divM (.int j) (.int 7)) S1 Q ↔ Q (.int (j / 7)) S1 := fun j Q => wp_div (by decide) (by decide)
    have m1 : ∀ (j : Int) (Q : D → Sto → Prop), Wp (mulM (.int j) (.int 39373)) S1 Q ↔ Q (.int (j * 39373)) S1 := fun j Q => wp_mul (.inr (by decide))
    have m2 : ∀ (j : Int) (Q : D → Sto → Prop), Wp (mulM (.int j) (.int 30011)) S1 Q ↔ Q (.int (j * 30011)) S1 := fun j Q => wp_mul (.inr (by decide))
    have m3 : ∀ (j : Int) (Q : D → Sto → Prop), Wp (mulM (.int (j % 1000000007)) (.int (j % 1000000007))) S1 Q ↔ Q (.int (j % 1000000007 * (j % 1000000007))) S1 := fun j Q => wp_mul (.inr (by
      have := Int.emod_nonneg j (show (1000000007 : Int) ≠ 0 by decide)
      have := Int.emod_lt_of_pos j (show (0 : Int) < 1000000007 by decide)
      omega))
    have pt : ∀ (z : D) (Q : Unit → Sto → Prop), Wp (putM (.ref b) (.int 0) z) S1 Q ↔ Q () (S1.set b (.lst [z, .int st, .int i, .lst (cs.map .int)])) := fun z Q => wp_put ho (j := 0) rfl
    simp only [wp_mSeq, wp_mIfS, wp_mB, wp_mBin, wp_mV0, wp_mVs, wp_mC, x0, wp_gt, wp_asB]
    by_cases hp : 0 < h
    · simp only [hp, decide_true, if_true, wp_mSeq, wp_mSet, wp_mBin, wp_mCall, wp_mCons, wp_mNil, wp_mV0, wp_mVs, wp_mC, x0, wp_toI, pm, List.set_cons_succ, List.set_cons_zero, wp_mPut, pd, pt, wp_mRet, wp_ret]
      exact ⟨h % m, rfl, Int.emod_nonneg _ (by omega), Int.emod_lt_of_pos _ h0, ⟨_, _, _, cs, ob_set, hl⟩, kp.set⟩
    · simp only [hp, decide_false, Bool.false_eq_true, if_false, wp_mNx, wp_mSeq, wp_mSet, wp_mBin, wp_mCall, wp_mCons, wp_mNil, wp_mV0, wp_mVs, wp_mC, x1, wp_toI, wp_addI, m1, q1, List.set_cons_succ, List.set_cons_zero, m3, q2, m2, q3, pm, wp_mRet, wp_ret]
      exact ⟨_, rfl, Int.emod_nonneg _ (by omega), Int.emod_lt_of_pos _ h0, ⟨_, _, _, cs, ho, hl⟩, kp⟩
  unfold d_law_take
  rw [wp_def]
  have e : startR N_law_take.length [D.ref b, .int m] = [some (.ref b), some (.int m), none, none, none, none, none] := rfl
  rw [e]
  unfold b_law_take
  have fin : ∀ (p : Fl × Mn.Env) (S2 : Sto), (∃ v, p.1 = .rt (.int v) ∧ 0 ≤ v ∧ v < m ∧ Bag S2 b ∧ Kp b S S2) → Wp (match p.1 with | .rt d => ret d | .nx => ret .non | _ => fail) S2 (fun d S' => ∃ v, d = .int v ∧ 0 ≤ v ∧ v < m ∧ Bag S' b ∧ Kp b S S') := fun p S2 ⟨v, e, q⟩ => by
    rw [e]
    exact wp_ret.mpr ⟨v, rfl, q⟩
  refine Wp.mono ?_ fin
  refine wp_seq (R := fun r S1 => ∃ c2 c3, r = [some (.ref b), some (.int m), c2, c3, none, none, none] ∧ ∃ h st i, S1.ob b = some (.lst [.int h, .int st, .int i, .lst (cs.map .int)]) ∧ Kp b S S1) ?_ fun r S1 ⟨c2, c3, e1, h, st, i, o, k⟩ => by
    rw [e1]
    exact part3 S1 h st i c2 c3 o k
  have x0 : ∀ Q : D → Sto → Prop, Wp (ixM (.ref b) (.int 0)) S Q ↔ Q (.int h) S := fun Q => wp_ixR hob rfl
  simp only [wp_mIfS, wp_mB, wp_mBin, wp_mV0, wp_mVs, wp_mC, x0, wp_eqI, wp_asB]
  by_cases hz : h = 0
  · subst hz
    have x2 : ∀ Q : D → Sto → Prop, Wp (ixM (.ref b) (.int 2)) S Q ↔ Q (.int i) S := fun Q => wp_ixR hob rfl
    have x3 : ∀ Q : D → Sto → Prop, Wp (ixM (.ref b) (.int 3)) S Q ↔ Q (.lst (cs.map .int)) S := fun Q => wp_ixR hob rfl
    have g2 : ∀ Q : D → Sto → Prop, Wp (getM (.ref b) (.int 2)) S Q ↔ Q (.int i) S := fun Q => wp_get hob (j := 2) rfl rfl
    have p2 : ∀ (z : D) (Q : Unit → Sto → Prop), Wp (putM (.ref b) (.int 2) z) S Q ↔ Q () (S.set b (.lst [.int 0, .int st, z, .lst (cs.map .int)])) := fun z Q => wp_put hob (j := 2) rfl
    obtain ⟨c, hc⟩ := head_int (Mn.cutD cs (some i) none)
    have ad : ∀ Q : D → Sto → Prop, Wp (addM (.lst (Mn.cutD (cs.map D.int) (some i) none)) (.lst [.int 0])) S Q ↔ Q (.lst ((Mn.cutD cs (some i) none).map D.int ++ [.int 0])) S := fun Q => by
      rw [cut_map]
      refine wp_addL ?_
      have := cut_len (l := cs) (a := some i) (b := none)
      rw [List.length_map]
      show _ + 1 ≤ 1000000
      omega
    have mk : ∀ Q : D → Sto → Prop, Wp (mkLst [D.int 0]) S Q ↔ Q (.lst [.int 0]) S := fun Q => wp_mkLst (by decide)
    have xc : ∀ Q : D → Sto → Prop, Wp (ixM (.lst ((Mn.cutD cs (some i) none).map D.int ++ [.int 0])) (.int 0)) S Q ↔ Q (.int c) S := fun Q => wp_ixL hc
    simp only [beq_self_eq_true, if_true]
    refine wp_seq (R := fun r S1 => r = [some (.ref b), some (.int m), some (.int c), none, none, none, none] ∧ S1 = S) ?_ ?_
    · simp only [wp_mSet, wp_mBin, wp_mSl, wp_mPart, wp_mLst, wp_mCons, wp_mNil, wp_mV0, wp_mVs, wp_mC, x3, x2, wp_asI, wp_ret, wp_slL, mk, ad, xc, List.set_cons_succ, List.set_cons_zero]
      exact ⟨trivial, trivial, trivial⟩
    rintro r S1 ⟨rfl, rfl⟩
    refine wp_seq (R := fun r S2 => r = [some (.ref b), some (.int m), some (.int c), none, none, none, none] ∧ S2.ob b = some (.lst [.int 0, .int st, .int (i + 1), .lst (cs.map .int)]) ∧ Kp b S1 S2) ?_ ?_
    · simp only [wp_mAugS, wp_mV0, wp_mC, g2, wp_intF, p2]
      exact ⟨trivial, trivial, ob_set, Kp.refl.set⟩
    rintro r S2 ⟨rfl, o2, k2⟩
    refine wp_seq (R := fun r S2 => r = [some (.ref b), some (.int m), some (.int c), none, none, none, none] ∧ ∃ h2, S2.ob b = some (.lst [.int h2, .int st, .int (i + 1), .lst (cs.map .int)]) ∧ Kp b S1 S2) ?_ ?_
    · have pw : ∀ Q : D → Sto → Prop, Wp (powM (.int 10) (.int 18)) S2 Q ↔ Q (.int (10 ^ 18)) S2 := fun Q => wp_pow (by decide) (by decide) (by decide)
      have p0 : ∀ (z : D) (Q : Unit → Sto → Prop), Wp (putM (.ref b) (.int 0) z) S2 Q ↔ Q () (S2.set b (.lst [z, .int st, .int (i + 1), .lst (cs.map .int)])) := fun z Q => wp_put o2 (j := 0) rfl
      simp only [wp_mIfS, wp_mB, wp_mBin, wp_mV0, wp_mVs, wp_mC, pw, wp_ge, wp_asB]
      by_cases hc2 : (10 : Int) ^ 18 ≤ c
      · simp only [hc2, decide_true, if_true, wp_mSeq, wp_mPut, wp_mV0, wp_mVs, wp_mC, p0, wp_mNx]
        exact ⟨trivial, trivial, c, ob_set, k2.set⟩
      · simp only [hc2, decide_false, Bool.false_eq_true, if_false, wp_mNx]
        exact ⟨trivial, trivial, 0, o2, k2⟩
    rintro r S3 ⟨rfl, h3, o3, k3⟩
    have y1 : ∀ Q : D → Sto → Prop, Wp (ixM (.ref b) (.int 1)) S3 Q ↔ Q (.int st) S3 := fun Q => wp_ixR o3 rfl
    have y2 : ∀ Q : D → Sto → Prop, Wp (ixM (.ref b) (.int 2)) S3 Q ↔ Q (.int (i + 1)) S3 := fun Q => wp_ixR o3 rfl
    have n1 : ∀ (j : Int) (Q : D → Sto → Prop), Wp (mulM (.int j) (.int 48271)) S3 Q ↔ Q (.int (j * 48271)) S3 := fun j Q => wp_mul (.inr (by decide))
    have n2 : ∀ (j : Int) (Q : D → Sto → Prop), Wp (mulM (.int 7919) (.int j)) S3 Q ↔ Q (.int (7919 * j)) S3 := fun j Q => wp_mul (.inl (by decide))
    have n3 : ∀ (j : Int) (Q : D → Sto → Prop), Wp (modM (.int j) (.int 2147483647)) S3 Q ↔ Q (.int (j % 2147483647)) S3 := fun j Q => wp_mod (by decide)
    have pp : ∀ (z : D) (Q : Unit → Sto → Prop), Wp (putM (.ref b) (.int 1) z) S3 Q ↔ Q () (S3.set b (.lst [.int h3, z, .int (i + 1), .lst (cs.map .int)])) := fun z Q => wp_put o3 (j := 1) rfl
    simp only [wp_mSeq, wp_mSet, wp_mBin, wp_mCall, wp_mCons, wp_mNil, wp_mV0, wp_mVs, wp_mC, y1, y2, n1, n2, n3, wp_addI, wp_toI, List.set_cons_succ, List.set_cons_zero, wp_mPut, pp, wp_mNx]
    exact ⟨trivial, _, _, rfl, h3, _, _, ob_set, k3.set⟩
  · simp only [show (h == 0) = false from by simpa using hz, Bool.false_eq_true, if_false, wp_mNx]
    exact ⟨trivial, _, _, rfl, h, st, i, hob, Kp.refl⟩
theorem atI_in {α : Type} {ds : List α} {v : Int} (h0 : 0 ≤ v) (h1 : v < ds.length) : ∃ d ∈ ds, atI ds v = some d := by
  have hl : v.toNat < ds.length := by omega
  refine ⟨ds[v.toNat], List.getElem_mem hl, ?_⟩
  unfold atI ixN
  rw [if_pos h0, if_pos h1]
  exact List.getElem?_eq_getElem hl
theorem take_fn {S : Sto} {b : Nat} {m : Int} {Q : D → Sto → Prop} (hb : Bag S b) (h0 : 0 < m) (h1 : m < 1073741824) (k : ∀ v S', 0 ≤ v → v < m → Bag S' b → Kp b S S' → Q (.int v) S') :
    Wp (if [D.ref b, D.int m].length = P_law_take.length then d_law_take [.ref b, .int m] else fail) S Q := by
  rw [if_pos (show [D.ref b, D.int m].length = P_law_take.length from rfl)]
  exact (take_spec hb h0 h1).mono fun d S' ⟨v, e, a, c, g, kp⟩ => by rw [e]; exact k v S' a c g kp
theorem some_spec {S : Sto} {b : Nat} {th : D} {ds : List D} (hb : Bag S b) (hth : th = .lst ds ∨ th = .tup ds) (h0 : 0 < ds.length) (h1 : ds.length < 1000) :
    Wp (d_law_some [.ref b, th]) S fun d S' => d ∈ ds ∧ Bag S' b ∧ Kp b S S' := by
  unfold d_law_some
  rw [wp_def]
  have e : startR N_law_some.length [D.ref b, th] = [some (.ref b), some th] := rfl
  rw [e]
  unfold b_law_some
  refine wp_ret1 ?_
  have ln : ∀ (S : Sto) (Q : D → Sto → Prop), Wp (lenM [th]) S Q ↔ Q (.int ds.length) S := fun S Q => by rcases hth with rfl | rfl; exact wp_lenL; exact wp_lenT
  simp only [wp_mBin, wp_mV0, wp_mVs, wp_mFn, wp_mCons, wp_mNil, wp_mCall, ln]
  refine take_fn hb (by omega) (by omega) fun v S1 a c g k => ?_
  obtain ⟨d, hd, hi⟩ := atI_in a c
  have ix : ∀ Q : D → Sto → Prop, Wp (ixM th (.int v)) S1 Q ↔ Q d S1 := fun Q => by
    rcases hth with rfl | rfl
    · exact wp_ixL hi
    · exact wp_ixT hi
  rw [ix]
  exact wp_ret.mpr ⟨hd, g, k⟩
theorem some_fn {S : Sto} {b : Nat} {th : D} {ds : List D} {Q : D → Sto → Prop} (hb : Bag S b) (hth : th = .lst ds ∨ th = .tup ds) (h0 : 0 < ds.length) (h1 : ds.length < 1000) (k : ∀ d S', d ∈ ds → Bag S' b → Kp b S S' → Q d S') :
    Wp (if [D.ref b, th].length = P_law_some.length then d_law_some [.ref b, th] else fail) S Q := by
  rw [if_pos (show [D.ref b, th].length = P_law_some.length from rfl)]
  exact (some_spec hb hth h0 h1).mono fun d S' ⟨a, g, kp⟩ => k d S' a g kp
/-! ### comparing -/
theorem alike_self {S : Sto} {c n : Nat} {d : D} {p : PyData} (h : OkD c n d p) (hc : c ≤ 1048576) (hn : n ≤ 64) : Wp (d_law_alike [d, d]) S fun r S' => r = .bl true ∧ S' = S := by
  unfold d_law_alike
  rw [wp_def]
  have e : startR N_law_alike.length [d, d] = [some d, some d] := rfl
  rw [e]
  unfold b_law_alike
  refine wp_ret1 ?_
  simp only [wp_mAndV, wp_mBin, wp_mV0, wp_mVs, wp_eqSelf h hn, wp_truB, if_true, wp_mCall, wp_mCons, wp_mNil, wp_repr h hc hn]
  simp only [wp_eqS, beq_self_eq_true, wp_ret]
  trivial
/-! ### bag -/
theorem bag_spec {S : Sto} {ns : List Int} : Wp (d_law_bag [scr ns]) S fun d S' => ∃ b, d = .ref b ∧ Bag S' b ∧ b < S'.nx ∧ b = S.nx ∧ S.nx ≤ S'.nx ∧ ∀ n, n < S.nx → S'.ob n = S.ob n := by
  unfold d_law_bag
  rw [wp_def]
  have e : startR N_law_bag.length [scr ns] = [some (scr ns), none] := rfl
  rw [e]
  unfold b_law_bag
  refine wp_ret1 ?_
  have sl : ∀ Q : D → Sto → Prop, Wp (slM (scr ns) none (some 63)) S Q ↔ Q (.lst ((Mn.cutD ns none (some 63)).map .int)) S := fun Q => by
    unfold scr
    rw [wp_slO, cut_map]
  have src : ∀ Q : Src → Sto → Prop, Wp (fun S => (srcOf (.lst ((Mn.cutD ns none (some 63)).map D.int)) S).map fun s => (s, S)) S Q ↔ Q ⟨(Mn.cutD ns none (some 63)).map D.int, []⟩ S := fun Q => wp_some rfl
  have lc := lc_pure (S := S) (rho := wipeR [some (scr ns), none] [1]) (src := ⟨(Mn.cutD ns none (some 63)).map D.int, []⟩) (g := gV 1) (mt := mYes) (me := mCall absM (mCons (mV 1) mNil)) (t := fun _ => true) (f := fun d => match d with | .int i => .int (if i < 0 then -i else i) | d => d) srcOk_nil (ds := (Mn.cutD ns none (some 63)).map D.int) fun d hd => by
    obtain ⟨i, _, rfl⟩ := List.mem_map.mp hd
    exact ⟨_, rfl, rfl, fun _ => rfl⟩
  have hlen : (Mn.cutD ns none (some 63)).length ≤ 63 := by
    unfold Mn.cutD
    rw [List.length_take]
    have : HT.sIx ns.length ns.length (some 63) ≤ 63 := by
      rw [show HT.sIx ns.length ns.length (some 63) = min 63 ns.length from HT.sIx_nat ns.length ns.length 63]
      omega
    omega
  simp only [wp_mNew, wp_mCons, wp_mNil, wp_mC, wp_mLc, wp_mISeq, wp_mSl, wp_mPart, wp_mV0, sl, wp_ret, src, wp_asI]
  refine Wp.to lc ?_
  have el : (List.map (fun d => match d with | D.int i => D.int (if i < 0 then -i else i) | d => d) (List.filter (fun _ => true) ((Mn.cutD ns none (some 63)).map D.int))) = ((Mn.cutD ns none (some 63)).map fun i => if i < 0 then -i else i).map D.int := by
    rw [List.filter_eq_self.mpr (fun _ _ => rfl), List.map_map, List.map_map]
    rfl
  rw [el, wp_lim (by rw [List.length_map, List.length_map]; omega)]
  refine Wp.to (show mkNew _ S = some (.ref S.nx, _) by unfold mkNew; rw [if_pos (limP (by simp))]) ?_
  refine ⟨_, rfl, ⟨0, 1234567891, 0, (Mn.cutD ns none (some 63)).map fun i => if i < 0 then -i else i, ?_, by rw [List.length_map]; exact hlen⟩, Nat.lt_succ_self _, rfl, Nat.le_succ _, fun n hn => by rw [Sto.new_ob, if_neg (Nat.ne_of_lt hn)]⟩
  rw [Sto.new_ob, if_pos rfl]
/-! ### small words -/
theorem eq_of {S : Sto} {m : M D} {d : D} (h : Wp m S fun x S' => x = d ∧ S' = S) : m S = some (d, S) := by
  obtain ⟨x, S', e, rfl, rfl⟩ := h
  exact e
theorem tr_of {S : Sto} {m : M Bool} {b : Bool} (h : Wp m S fun x S' => x = b ∧ S' = S) : m S = some (b, S) := by
  obtain ⟨x, S', e, rfl, rfl⟩ := h
  exact e
/-- walked items, the done ones told -/
theorem loop_done {src : Src} {g : GM} {mb : SM} {I : List D → Mn.Env → Sto → Prop} (ok : ∀ n r S, I n r S → srcOk src S) : ∀ {ds pre : List D} {rho : Mn.Env} {S : Sto}, I pre rho S →
    (∀ done d rest, pre ++ ds = done ++ d :: rest → ∀ r S, I done r S → ∃ r1, g d r = some r1 ∧ Wp (mb r1) S fun p S1 => p.1 = .nx ∧ I (done ++ [d]) p.2 S1) →
    Wp (loopGo src g mb ds rho) S fun p S1 => p.1 = .nx ∧ I (pre ++ ds) p.2 S1
  | [], pre, rho, S, i, _ => ⟨(.nx, rho), S, by unfold loopGo; rw [if_pos (ok pre rho S i)], rfl, by rw [List.append_nil]; exact i⟩
  | d :: ds, pre, rho, S, i, h => by
    obtain ⟨r1, h1, ⟨fl, r2⟩, S1, e1, h2, i2⟩ := h pre d ds rfl rho S i
    cases h2
    have e0 : pre ++ d :: ds = pre ++ [d] ++ ds := by simp
    obtain ⟨p, S3, e3, hl, i3⟩ := loop_done (ds := ds) (pre := pre ++ [d]) ok i2 fun done x rest e => h done x rest (by rw [e0]; exact e)
    refine ⟨p, S3, ?_, hl, by rw [e0]; exact i3⟩
    unfold loopGo
    rw [if_pos (ok pre rho S i), h1, Option.bind_some]
    unfold bnd
    rw [e1]
    exact e3
/-- walked items, the first that answers ends it -/
theorem loop_find {src : Src} {g : GM} {mb : SM} {I : Mn.Env → Sto → Prop} {J : Sto → Prop} {f : D → Option D} (ok : ∀ r S, I r S → srcOk src S) : ∀ {ds : List D} {rho : Mn.Env} {S : Sto}, I rho S →
    (∀ d ∈ ds, ∀ r S, I r S → ∃ r1, g d r = some r1 ∧ Wp (mb r1) S fun p S1 => match f d with | some v => p.1 = .rt v ∧ J S1 | none => p.1 = .nx ∧ I p.2 S1) →
    Wp (loopGo src g mb ds rho) S fun p S1 => match ds.findSome? f with | some v => p.1 = .rt v ∧ J S1 | none => p.1 = .nx ∧ I p.2 S1
  | [], rho, S, i, _ => ⟨(.nx, rho), S, by unfold loopGo; rw [if_pos (ok rho S i)], rfl, i⟩
  | d :: ds, rho, S, i, h => by
    obtain ⟨r1, h1, ⟨fl, r2⟩, S1, e1, h2⟩ := h d List.mem_cons_self rho S i
    rw [List.findSome?_cons]
    have e0 : loopGo src g mb (d :: ds) rho S = bnd (mb r1) (fun p => match p.1 with
        | .nx => loopGo src g mb ds p.2
        | .ct => loopGo src g mb ds p.2
        | .bk => Mn.ret (.nx, p.2)
        | .rt r => Mn.ret (.rt r, p.2)) S := by
      conv => lhs; unfold loopGo
      rw [if_pos (ok rho S i), h1, Option.bind_some] <;> rfl
    cases hf : f d with
    | some v =>
      rw [hf] at h2
      obtain ⟨e2, j⟩ := h2
      have e2 : fl = .rt v := e2
      subst e2
      refine ⟨(.rt v, r2), S1, ?_, rfl, j⟩
      rw [e0]; unfold bnd; rw [e1]; rfl
    | none =>
      rw [hf] at h2
      obtain ⟨e2, i2⟩ := h2
      have e2 : fl = .nx := e2
      subst e2
      obtain ⟨p, S3, e3, q⟩ := loop_find (ds := ds) ok i2 fun x hx => h x (List.mem_cons_of_mem _ hx)
      refine ⟨p, S3, ?_, q⟩
      rw [e0]; unfold bnd; rw [e1]; exact e3
/-- while, with a measure -/
theorem wp_while {c : EM Bool} {mb : SM} {I : Nat → Mn.Env → Sto → Prop} {Q : Fl × Mn.Env → Sto → Prop} (h : ∀ n r S, I n r S → Wp (c r) S fun t S1 => if t = true then Wp (mb r) S1 fun p S2 => p.1 = .nx ∧ ∃ k, k < n ∧ I k p.2 S2 else Q (.nx, r) S1) :
    ∀ {n : Nat} {rho : Mn.Env} {S : Sto}, I n rho S → Wp (mWhile c mb rho) S Q := by
  have key : ∀ n rho S, I n rho S → ∃ k r, whileN c mb k rho S = some r ∧ Q r.1 r.2 := by
    intro n
    induction n using Nat.strongRecOn with
    | _ n ih =>
      intro rho S i
      obtain ⟨t, S1, e1, h1⟩ := h n rho S i
      cases t with
      | false =>
        exact ⟨1, ((.nx, rho), S1), by unfold whileN bnd; rw [e1]; rfl, h1⟩
      | true =>
        obtain ⟨⟨fl, r2⟩, S2, e2, hfl, k, hk, i2⟩ := h1
        have hfl : fl = .nx := hfl
        subst hfl
        obtain ⟨j, r, e3, q⟩ := ih k hk r2 S2 i2
        refine ⟨j + 1, r, ?_, q⟩
        unfold whileN bnd
        rw [e1]
        show ((mb rho S1).bind _) = _
        rw [e2]
        exact e3
  intro n rho S i
  obtain ⟨k, r, e, q⟩ := key n rho S i
  have mono : ∀ a b rho S r, whileN c mb a rho S = some r → a ≤ b → whileN c mb b rho S = some r := by
    intro a
    induction a with
    | zero => intro b rho S r e; cases e
    | succ a ih =>
      intro b rho S r e hb
      obtain ⟨b, rfl⟩ : ∃ b', b = b' + 1 := ⟨b - 1, by omega⟩
      unfold whileN bnd at e ⊢
      cases e1 : c rho S with
      | none => rw [e1] at e; cases e
      | some p =>
        rw [e1] at e
        rw [Option.bind_some] at e ⊢
        cases ht : p.1 with
        | false => rw [ht] at e; exact e
        | true =>
          rw [ht] at e
          simp only [if_true] at e ⊢
          cases e2 : mb rho p.2 with
          | none => rw [e2] at e; cases e
          | some u =>
            rw [e2] at e
            rw [Option.bind_some] at e ⊢
            cases hu : u.1.1 with
            | nx => rw [hu] at e; exact ih b _ _ _ e (by omega)
            | ct => rw [hu] at e; exact ih b _ _ _ e (by omega)
            | bk => rw [hu] at e; exact e
            | rt v => rw [hu] at e; exact e
  refine ⟨r.1, r.2, ?_, q⟩
  unfold mWhile
  have hex : ∃ n r, whileN c mb n rho S = some r := ⟨k, r, e⟩
  rw [dif_pos hex]
  have hn := Classical.choose_spec (Classical.choose_spec hex)
  have h1 := mono _ (max k (Classical.choose hex)) _ _ _ e (Nat.le_max_left _ _)
  have h2 := mono _ (max k (Classical.choose hex)) _ _ _ hn (Nat.le_max_right _ _)
  rw [h1] at h2
  exact h2.symm
/-! ### mixed -/
theorem Bag.kp {S S' : Sto} {b n : Nat} {o : Ob} (h : Bag S b) (hn : n ≠ b) : Bag (S.set n o) b := by
  obtain ⟨x, st, i, cs, ho, hl⟩ := h
  exact ⟨x, st, i, cs, by rw [Sto.set_ob, if_neg (Ne.symm hn)]; exact ho, hl⟩
theorem Bag.new {S : Sto} {b : Nat} {o : Ob} (h : Bag S b) (hlt : b < S.nx) : Bag (S.new o) b := by
  obtain ⟨x, st, i, cs, ho, hl⟩ := h
  exact ⟨x, st, i, cs, by rw [Sto.new_ob, if_neg (Nat.ne_of_lt hlt)]; exact ho, hl⟩
theorem Kp.new {S0 S : Sto} {b : Nat} {o : Ob} (h : Kp b S0 S) : Kp b S0 (S.new o) := ⟨Nat.le_succ_of_le h.1, fun n h1 h2 => by rw [Sto.new_ob, if_neg (Nat.ne_of_lt (Nat.lt_of_lt_of_le h2 h.1))]; exact h.2 n h1 h2⟩
theorem Kp.setN {S0 S : Sto} {b n : Nat} {o : Ob} (h : Kp b S0 S) (hn : S0.nx ≤ n) : Kp b S0 (S.set n o) := ⟨h.1, fun k h1 h2 => by rw [Sto.set_ob, if_neg (Nat.ne_of_lt (Nat.lt_of_lt_of_le h2 hn))]; exact h.2 k h1 h2⟩
theorem mixed_spec {S : Sto} {b : Nat} {th : D} {src : Src} {Q : D → Sto → Prop} (hb : Bag S b) (hlt : b < S.nx) (hs : srcOf th S = some src) (ok : srcOk src S) (hg : ∀ p ∈ src.n, p.1 ≠ b ∧ p.1 < S.nx) (hl : src.ds.length ≤ 1000)
    (fin : ∀ (es : List D) (n : Nat) S', es.Perm src.ds → S'.ob n = some (.lst es) → S.nx ≤ n → n < S'.nx → Bag S' b → Kp b S S' → Q (.ref n) S') :
    Wp (if [D.ref b, th].length = P_law_mixed.length then d_law_mixed [.ref b, th] else fail) S Q := by
  rw [if_pos (show [D.ref b, th].length = P_law_mixed.length from rfl)]
  unfold d_law_mixed
  rw [wp_def]
  rw [show startR N_law_mixed.length [D.ref b, th] = [some (.ref b), some th, none, none] from rfl]
  unfold b_law_mixed
  refine wp_seq (R := fun r S1 => r = [some (.ref b), some th, some (.ref S.nx), none] ∧ S1 = S.new (.lst [])) ?_ ?_
  · simp only [wp_mSet, wp_mNew, wp_mNil]
    exact Wp.to (show mkNew [] S = some (.ref S.nx, S.new (.lst [])) by unfold mkNew; rw [if_pos (limP (by simp))]) ⟨trivial, rfl, rfl⟩
  rintro r S1 ⟨rfl, rfl⟩
  have nb : b ≠ S.nx := Nat.ne_of_lt hlt
  have src1 : srcOf th (S.new (.lst [])) = some src := by
    unfold srcOf at hs ⊢
    split at hs
    · exact hs
    · exact hs
    · exact hs
    · rename_i n
      split at hs
      · rename_i ds hd
        cases hs
        have h1 := hg (n, ds) (List.mem_singleton.mpr rfl)
        rw [Sto.new_ob, if_neg (Nat.ne_of_lt h1.2), hd]
      · cases hs
    · cases hs
  refine wp_seq (R := fun r S1 => ∃ x3, r = [some (.ref b), some th, some (.ref S.nx), x3] ∧ ∃ es : List D, es.Perm src.ds ∧ S1.ob S.nx = some (.lst es) ∧ Bag S1 b ∧ Kp b S S1 ∧ S.nx < S1.nx) ?_ ?_
  · simp only [wp_mFor, wp_mISeq, wp_mVs, wp_mV0]
    have srcW : ∀ (Q : Src → Sto → Prop), Wp (fun S => (srcOf th S).map fun s => (s, S)) (S.new (.lst [])) Q ↔ Q src (S.new (.lst [])) := fun Q => wp_some (by rw [src1]; rfl)
    rw [srcW]
    refine Wp.mono (loop_done (src := src) (ds := src.ds) (pre := []) (g := gV 3) (I := fun done r S1 => ∃ x3, r = [some (.ref b), some th, some (.ref S.nx), x3] ∧ ∃ es : List D, es.Perm done ∧ done.length ≤ 1000 ∧ S1.ob S.nx = some (.lst es) ∧ Bag S1 b ∧ Kp b S S1 ∧ S.nx < S1.nx) ?_ ⟨none, rfl, [], .refl _, by simp, by rw [Sto.new_ob, if_pos rfl], hb.new hlt, Kp.refl.new, Nat.lt_succ_self _⟩ ?_) ?_
    · rintro done r S1 ⟨_, _, es, _, _, _, _, kp, _⟩ p hp
      rw [kp.2 p.1 (hg p hp).1 (hg p hp).2]
      exact ok p hp
    · rintro done d rest e r S1 ⟨x3, rfl, es, hp, hd, ho, g, kp, hx⟩
      refine ⟨_, rfl, ?_⟩
      have hdl : done.length + 1 ≤ 1000 := by
        have h9 := congrArg List.length e
        rw [List.nil_append, List.length_append, List.length_cons] at h9
        omega
      have hob : ∀ S2, S2.ob S.nx = some (.lst es) → (∀ xs Q, Wp (fun S' => match (D.ref S.nx) with
          | .ref n => match S'.ob n with
            | some (.lst _) => bnd ((mCons (mFn P_law_take.length d_law_take (mCons (mV 0) (mCons (mBin addM (mCall lenM (mCons (mV 2) mNil)) (mC (.int 1))) mNil))) (mCons (mV 3) mNil)) xs) (fun ds => insM (D.ref S.nx) ds) S'
            | _ => none
          | _ => none) S2 Q ↔ Wp ((mCons (mFn P_law_take.length d_law_take (mCons (mV 0) (mCons (mBin addM (mCall lenM (mCons (mV 2) mNil)) (mC (.int 1))) mNil))) (mCons (mV 3) mNil)) xs) S2 fun ds S3 => Wp (insM (.ref S.nx) ds) S3 Q) := fun S2 h xs Q => wp_ref h
      have hel := hp.length_eq
      rw [wp_mSeq, wp_mDrop, wp_mMet]
      simp only [List.set_cons_succ, List.set_cons_zero, wp_mVs, wp_mV0]
      refine (hob S1 ho _ _).mpr ?_
      simp only [wp_mCons, wp_mNil, wp_mFn, wp_mBin, wp_mCall, wp_mVs, wp_mV0, wp_mC, wp_lenR ho, wp_addI]
      refine take_fn g (by omega) (by omega) fun v S2 a c g2 k2 => ?_
      have ho2 : S2.ob S.nx = some (.lst es) := (k2.2 S.nx (Ne.symm nb) hx).trans ho
      rw [wp_ins ho2 (by omega) a (by omega)]
      simp only [wp_mNx]
      refine ⟨trivial, _, rfl, _, ?_, by simp; omega, ob_set, Bag.kp (S' := S2) g2 (Ne.symm nb), (kp.trans k2).setN (Nat.le_refl _), Nat.lt_of_lt_of_le hx k2.1⟩
      refine List.perm_middle.trans ?_
      rw [List.take_append_drop]
      exact (List.Perm.cons d hp).trans (List.perm_append_singleton d done).symm
    · rintro ⟨fl, r⟩ S1 ⟨e1, x3, e2, es, hp, _, ho, g, kp, hx⟩
      exact ⟨e1, x3, e2, es, hp, ho, g, kp, hx⟩
  rintro r S1 ⟨x3, rfl, es, hp, ho, g, kp, hx⟩
  refine wp_ret1 ?_
  simp only [wp_mVs, wp_mV0, wp_ret]
  exact fin es _ S1 hp ho (Nat.le_refl _) hx g kp
/-! ### questions -/
structure Atom where
  w : Str
  t : Str
  cs : List Str
def atomD (a : Atom) : D := .tup [.str a.w, .str a.t, .tup (a.cs.map .str)]
structure Rn where
  c : Str
  lo : D
  hi : D
def rnD (r : Rn) : D := .tup [.str r.c, r.lo, r.hi]
def rgD (rs : List Rn) : D := .tup (rs.map rnD)
structure Qu where
  cols : List Str
  atoms : List Atom
  rs : List Rn
def qD (q : Qu) : D := .tup [.tup (q.cols.map .str), .tup (q.atoms.map atomD), rgD q.rs]
/-- a short text -/
def Sm (x : Str) : Prop := PyData.strOk x = true ∧ x.cps.size ≤ 10
/-- an end of a range -/
def Bnd (d : D) : Prop := d = .non ∨ ∃ i : Int, d = .int i ∧ -10 ≤ i ∧ i ≤ 10
def LeB (lo hi : D) : Prop := ∀ i j, lo = .int i → hi = .int j → i ≤ j
def OkR (r : Rn) : Prop := Sm r.c ∧ Bnd r.lo ∧ Bnd r.hi
def OkA (nm : List Str) (x : Atom) : Prop := (Sm x.w ∧ Sm x.t ∧ x.cs.length ≤ 6 ∧ ∀ y ∈ x.cs, Sm y) ∧ ∀ y ∈ x.cs, y ∈ nm
structure OkQ (q : Qu) : Prop where
  c : q.cols.length ≤ 6
  c1 : 1 ≤ q.cols.length
  cs : ∀ x ∈ q.cols, Sm x
  nd : q.cols.Nodup
  a : q.atoms.length ≤ 9
  ok : ∀ x ∈ q.atoms, OkA q.cols x
  rl : q.rs.length ≤ 6
  rok : ∀ r ∈ q.rs, OkR r
  rle : ∀ r ∈ q.rs, LeB r.lo r.hi
  rnd : (q.rs.map Rn.c).Nodup
  rsub : ∀ r ∈ q.rs, r.c ∈ q.cols
theorem OkD.str {n : Nat} {x : Str} (h : Sm x) : OkD 10 n (.str x) (.str x) := ⟨by rw [pdT, if_pos h.1], by rw [PyData.showable], by rw [PyData.depth]; omega, by rw [PyData.weight]; exact h.2, by rw [PyData.intsShort]⟩
theorem ok_strs {n : Nat} {l : List Str} (hl : l.length ≤ 6) (h : ∀ x ∈ l, Sm x) : OkD 66 (n + 1) (.tup (l.map .str)) (.tuple (l.map .str)) :=
  ((OkL.map (f := D.str) (g := PyData.str) fun x hx => OkD.str (h x hx)).tup).mono (by omega) (Nat.le_refl _)
theorem ok_atom {x : Atom} (h : Sm x.w ∧ Sm x.t ∧ x.cs.length ≤ 6 ∧ ∀ y ∈ x.cs, Sm y) : OkD 100 2 (atomD x) (.tuple [.str x.w, .str x.t, .tuple (x.cs.map .str)]) :=
  ((OkL.cons (OkD.str h.1) (OkL.cons (OkD.str h.2.1) (OkL.cons (ok_strs (n := 0) h.2.2.1 h.2.2.2) OkL.nil))).tup).mono (by omega) (Nat.le_refl _)
def atomP (x : Atom) : PyData := .tuple [.str x.w, .str x.t, .tuple (x.cs.map .str)]
theorem Bnd.ok {d : D} (h : Bnd d) : ∃ p, OkD 41 0 d p := by
  rcases h with rfl | ⟨i, rfl, h1, h2⟩
  · exact ⟨_, OkD.non⟩
  · exact ⟨_, OkD.int (by omega) (by omega)⟩
theorem ok_rn {r : Rn} (h : OkR r) : ∃ p, OkD 110 1 (rnD r) p := by
  obtain ⟨p1, o1⟩ := h.2.1.ok
  obtain ⟨p2, o2⟩ := h.2.2.ok
  exact ⟨_, (OkL.cons (OkD.str h.1) (OkL.cons o1 (OkL.cons o2 OkL.nil))).tup.mono (by omega) (Nat.le_refl _)⟩
theorem ok_rg {rs : List Rn} (hl : rs.length ≤ 7) (h : ∀ r ∈ rs, OkR r) : ∃ p, OkD 2000 3 (rgD rs) p := by
  have : ∃ ps, OkL (rs.length * 111) 1 (rs.map rnD) ps := by
    clear hl
    induction rs with
    | nil => exact ⟨[], by rw [List.length_nil, Nat.zero_mul]; exact OkL.nil⟩
    | cons d l ih =>
      obtain ⟨ps, hp⟩ := ih fun x hx => h x (List.mem_cons_of_mem _ hx)
      obtain ⟨p, hd⟩ := ok_rn (h d List.mem_cons_self)
      have := OkL.cons hd hp
      refine ⟨_, this.pd, this.sh, this.dp, Nat.le_trans this.wt ?_, this.si⟩
      rw [List.length_cons, Nat.add_mul]; omega
  obtain ⟨ps, hp⟩ := this
  exact ⟨_, hp.tup.mono (by omega) (by omega)⟩
theorem ok_qd {cs : List Str} {as : List Atom} {rs : List Rn} (hc : cs.length ≤ 6) (hcs : ∀ x ∈ cs, Sm x) (ha : as.length ≤ 9) (hA : ∀ x ∈ as, Sm x.w ∧ Sm x.t ∧ x.cs.length ≤ 6 ∧ ∀ y ∈ x.cs, Sm y) (hl : rs.length ≤ 7) (h : ∀ r ∈ rs, OkR r) :
    ∃ r, OkD 5000 4 (qD ⟨cs, as, rs⟩) (.tuple [.tuple (cs.map .str), .tuple (as.map atomP), r]) ∧ pdT (rgD rs) = some r := by
  obtain ⟨r, hr⟩ := ok_rg hl h
  have h2 := (OkL.map (n := 2) (f := atomD) (g := atomP) (l := as) fun x hx => ok_atom (hA x hx)).tup
  exact ⟨r, ((OkL.cons (ok_strs (n := 2) hc hcs) (OkL.cons h2 (OkL.cons hr OkL.nil))).tup).mono (by omega) (Nat.le_refl _), hr.pd⟩
theorem ok_q {q : Qu} (h : OkQ q) : ∃ r, OkD 5000 4 (qD q) (.tuple [.tuple (q.cols.map .str), .tuple (q.atoms.map atomP), r]) ∧ pdT (rgD q.rs) = some r :=
  ok_qd h.c h.cs h.a (fun x hx => (h.ok x hx).1) (Nat.le_succ_of_le h.rl) h.rok
theorem eqvAll_strs : ∀ a b : List Str, PyData.eqvAll (a.map PyData.str) (b.map PyData.str) = decide (a = b)
  | [], [] => by rw [List.map_nil, PyData.eqvAll]; rfl
  | [], b :: bs => by rw [List.map_nil, List.map_cons, PyData.eqvAll]; rfl
  | a :: as, [] => by rw [List.map_nil, List.map_cons, PyData.eqvAll]; rfl
  | a :: as, b :: bs => by
    rw [List.map_cons, List.map_cons, PyData.eqvAll, eqvAll_strs as bs, PyData.eqv]
    by_cases h1 : a = b <;> by_cases h2 : as = bs <;> simp [h1, h2]
theorem any_str (a : Str) (l : List Str) : ((l.map PyData.str).any fun z => PyData.eqv z (.str a)) = decide (a ∈ l) := by
  induction l with
  | nil => rfl
  | cons r rs ih =>
    rw [List.map_cons, List.any_cons, ih, PyData.eqv]
    by_cases h1 : r = a
    · subst h1; simp
    · by_cases h2 : a ∈ rs
      · simp [h2]
      · simp [h1, h2, Ne.symm h1]
theorem pdL_strs {l : List Str} (h : ∀ x ∈ l, Sm x) : pdL (l.map D.str) = some (l.map PyData.str) := by
  induction l with
  | nil => rfl
  | cons x l ih => rw [List.map_cons, pdL, pdT, if_pos (h x List.mem_cons_self).1, ih fun y hy => h y (List.mem_cons_of_mem _ hy)]; rfl
section
variable {S : Sto} {Q : D → Sto → Prop}
theorem wp_inStr {a : Str} {l : List Str} (ha : Sm a) (hl : ∀ x ∈ l, Sm x) : Wp (inM (.str a) (.tup (l.map D.str))) S Q ↔ Q (.bl (decide (a ∈ l))) S := by
  refine wp_some ?_
  have h1 : pds S (.str a) = some (.str a) := by show pdT (.str a) = _; rw [pdT, if_pos ha.1]
  have h2 : pds S (.tup (l.map D.str)) = some (.tuple (l.map PyData.str)) := by show pdT _ = _; rw [pdT, pdL_strs hl]; rfl
  unfold inM inL
  simp only [h1, h2]
  rw [if_pos (show (PyData.str a).depth ≤ 100 by rw [PyData.depth]; omega), any_str]; rfl
/-- which atoms have the column -/
def idx (as : List Atom) (c : Str) : List Int := (as.zipIdx.filter fun p => decide (c ∈ p.1.cs)).map fun p => (p.2 : Int)
theorem pairs_map {as : List Atom} : pairs0 (as.map atomD) = as.zipIdx.map fun p => D.tup [.int (p.2 : Nat), atomD p.1] := by
  unfold pairs0
  rw [List.zipIdx_map, List.map_map]
  rfl
theorem lc_any {α : Type} {g : GM} {mt : EM Bool} {me : EM D} {rho : Mn.Env} {t : α → Bool} {f c : α → D} {src : Src} (ok : srcOk src S) : ∀ {l : List α}, (∀ x ∈ l, ∃ r1, g (c x) rho = some r1 ∧ mt r1 S = some (t x, S) ∧ (t x = true → me r1 S = some (f x, S))) →
    lcGo src g mt me rho (l.map c) S = some ((l.filter t).map f, S)
  | [], _ => by unfold lcGo; rw [List.map_nil]; simp only; rw [if_pos ok]; rfl
  | x :: l, h => by
    obtain ⟨r1, h1, h2, h3⟩ := h x List.mem_cons_self
    have ih := lc_any (f := f) (t := t) (c := c) (mt := mt) (me := me) (g := g) (rho := rho) ok (l := l) fun y hy => h y (List.mem_cons_of_mem _ hy)
    rw [List.map_cons]
    unfold lcGo
    rw [if_pos ok, h1, Option.bind_some]
    unfold bnd
    rw [h2]
    cases ht : t x with
    | true => simp only [Option.bind_some, if_true, h3 ht, ih, Mn.ret, List.filter_cons_of_pos ht, List.map_cons]
    | false =>
      simp only [Option.bind_some, Bool.false_eq_true, if_false, ih]
      rw [List.filter_cons_of_neg (by rw [ht]; decide)]
theorem idx_wp {q : Qu} {c : Str} {rho : Mn.Env} (h : OkQ q) (hc : Sm c) (e0 : ∀ S Q, Wp (mV 0 rho) S Q ↔ Q (qD q) S) (e1 : ∀ x y S Q, Wp (mV 1 (((wipeR rho [2, 3]).set 2 (some x)).set 3 (some y))) S Q ↔ Q (.str c) S) (e2 : ∀ x y S Q, Wp (mV 2 (((wipeR rho [2, 3]).set 2 (some x)).set 3 (some y))) S Q ↔ Q x S) (e3 : ∀ x y S Q, Wp (mV 3 (((wipeR rho [2, 3]).set 2 (some x)).set 3 (some y))) S Q ↔ Q y S) :
    Wp (mLc (fun rho => bnd ((mCons (mBin ixM (mV 0) (mC (.int 1))) mNil) rho) enumM) [2, 3] (gT 2 (gsCons (gV 2) (gsCons (gV 3) gsNil))) (mB (mBin inM (mV 1) (mBin ixM (mV 3) (mC (.int 2))))) (mV 2) rho) S Q ↔ Q (.lst ((idx q.atoms c).map .int)) S := by
  have ix : ∀ (S : Sto) (Q : D → Sto → Prop), Wp (ixM (qD q) (.int 1)) S Q ↔ Q (.tup (q.atoms.map atomD)) S := fun S Q => wp_ixT rfl
  have src : ∀ (S : Sto) (Q : Src → Sto → Prop), Wp (enumM [.tup (q.atoms.map atomD)]) S Q ↔ Q ⟨q.atoms.zipIdx.map fun p => D.tup [.int (p.2 : Nat), atomD p.1], []⟩ S := fun S Q => wp_some (by rw [← pairs_map]; rfl)
  simp only [wp_mLc, wp_bnd, wp_mCons, wp_mNil, wp_mBin, e0, wp_mC, ix, src]
  have := lc_any (S := S) (g := gT 2 (gsCons (gV 2) (gsCons (gV 3) gsNil))) (rho := wipeR rho [2, 3]) (mt := mB (mBin inM (mV 1) (mBin ixM (mV 3) (mC (.int 2))))) (me := mV 2) (src := ⟨q.atoms.zipIdx.map fun p => D.tup [.int (p.2 : Nat), atomD p.1], []⟩) (t := fun p : Atom × Nat => decide (c ∈ p.1.cs)) (f := fun p => D.int (p.2 : Nat)) (c := fun p => D.tup [.int (p.2 : Nat), atomD p.1]) srcOk_nil (l := q.atoms.zipIdx) fun p hp => ⟨_, rfl, tr_of (by
      have hm : p.1 ∈ q.atoms := by
        have := List.mem_zipIdx hp
        rw [this.2.2]
        exact List.getElem_mem _
      have ix2 : ∀ (S : Sto) (Q : D → Sto → Prop), Wp (ixM (atomD p.1) (.int 2)) S Q ↔ Q (.tup (p.1.cs.map .str)) S := fun S Q => wp_ixT rfl
      simp only [wp_mB, wp_mBin, e1, e3, wp_mC, ix2]
      rw [wp_inStr hc (h.ok p.1 hm).1.2.2.2, wp_asB]
      exact ⟨rfl, rfl⟩), fun _ => eq_of (by
      rw [e2]
      exact ⟨rfl, rfl⟩)⟩
  rw [wp_some this, wp_lim]
  · unfold idx
    rw [List.map_map]
    rfl
  · rw [List.length_map]
    have := List.length_filter_le (fun p : Atom × Nat => decide (c ∈ p.1.cs)) q.atoms.zipIdx
    rw [List.length_zipIdx] at this
    have := h.a
    omega
theorem atoms_fn {q : Qu} {c : Str} (h : OkQ q) (hc : Sm c) : Wp (if [qD q, .str c].length = P_atoms_of.length then d_atoms_of [qD q, .str c] else fail) S Q ↔ Q (.tup ((idx q.atoms c).map .int)) S := by
  rw [if_pos (show [qD q, .str c].length = P_atoms_of.length from rfl)]
  refine wp_some (eq_of ?_)
  unfold d_atoms_of
  rw [wp_def]
  rw [show startR N_atoms_of.length [qD q, .str c] = [some (qD q), some (.str c), none, none] from rfl]
  unfold b_atoms_of
  refine wp_ret1 ?_
  rw [wp_mCall, wp_mCons, idx_wp h hc (fun S Q => by simp only [wp_mV0]) (fun x y S Q => by simp only [wipeR, List.set_cons_succ, List.set_cons_zero, wp_mVs, wp_mV0]) (fun x y S Q => by simp only [wipeR, List.set_cons_succ, List.set_cons_zero, wp_mVs, wp_mV0]) (fun x y S Q => by simp only [wipeR, List.set_cons_succ, List.set_cons_zero, wp_mVs, wp_mV0]), wp_mNil, wp_tupL]
  exact wp_ret.mpr ⟨rfl, rfl⟩
theorem law_atoms_fn {q : Qu} {c : Str} (h : OkQ q) (hc : Sm c) : Wp (if [qD q, .str c].length = P_law_atoms_of.length then d_law_atoms_of [qD q, .str c] else fail) S Q ↔ Q (.lst ((idx q.atoms c).map .int)) S := by
  rw [if_pos (show [qD q, .str c].length = P_law_atoms_of.length from rfl)]
  refine wp_some (eq_of ?_)
  unfold d_law_atoms_of
  rw [wp_def]
  rw [show startR N_law_atoms_of.length [qD q, .str c] = [some (qD q), some (.str c), none, none] from rfl]
  unfold b_law_atoms_of
  refine wp_ret1 ?_
  rw [idx_wp h hc (fun S Q => by simp only [wp_mV0]) (fun x y S Q => by simp only [wipeR, List.set_cons_succ, List.set_cons_zero, wp_mVs, wp_mV0]) (fun x y S Q => by simp only [wipeR, List.set_cons_succ, List.set_cons_zero, wp_mVs, wp_mV0]) (fun x y S Q => by simp only [wipeR, List.set_cons_succ, List.set_cons_zero, wp_mVs, wp_mV0])]
  exact wp_ret.mpr ⟨rfl, rfl⟩
def Gr (S S' : Sto) : Prop := S.nx ≤ S'.nx ∧ ∀ n, n < S.nx → S'.ob n = S.ob n
theorem Gr.refl {S : Sto} : Gr S S := ⟨Nat.le_refl _, fun _ _ => rfl⟩
theorem Gr.trans {S S1 S2 : Sto} (h : Gr S S1) (k : Gr S1 S2) : Gr S S2 := ⟨Nat.le_trans h.1 k.1, fun n h1 => (k.2 n (Nat.lt_of_lt_of_le h1 h.1)).trans (h.2 n h1)⟩
theorem Gr.new {S0 S : Sto} {o : Ob} (h : Gr S0 S) : Gr S0 (S.new o) := ⟨Nat.le_succ_of_le h.1, fun n h2 => by rw [Sto.new_ob, if_neg (Nat.ne_of_lt (Nat.lt_of_lt_of_le h2 h.1))]; exact h.2 n h2⟩
theorem Gr.setN {S0 S : Sto} {n : Nat} {o : Ob} (h : Gr S0 S) (hn : S0.nx ≤ n) : Gr S0 (S.set n o) := ⟨h.1, fun k h2 => by rw [Sto.set_ob, if_neg (Nat.ne_of_lt (Nat.lt_of_lt_of_le h2 hn))]; exact h.2 k h2⟩
theorem Bag.gr {S S' : Sto} {b : Nat} (h : Bag S b) (hlt : b < S.nx) (g : Gr S S') : Bag S' b := by
  obtain ⟨x, st, i, cs, ho, hl⟩ := h
  exact ⟨x, st, i, cs, (g.2 b hlt).trans ho, hl⟩
end
/-! ### forests and lines -/
def parD : Option Nat → D
  | none => .non
  | some j => .int (j : Nat)
theorem rng_split {n : Nat} {pre rest : List D} {d : D} (h : rngD 0 n = pre ++ d :: rest) : d = .int (pre.length : Nat) ∧ pre.length < n := by
  have hl := congrArg List.length h
  rw [rng_len, List.length_append, List.length_cons] at hl
  have hk : pre.length < n := by omega
  have this : (rngD 0 n)[pre.length]? = (pre ++ d :: rest)[pre.length]? := by rw [h]
  rw [List.getElem?_append_right (Nat.le_refl _), Nat.sub_self, List.getElem?_cons_zero] at this
  unfold rngD at this
  rw [List.getElem?_map, List.getElem?_range hk] at this
  have e := Option.some.inj this
  exact ⟨by rw [← e]; simp, hk⟩
where rng_len {lo : Int} {n : Nat} : (rngD lo n).length = n := by unfold rngD; rw [List.length_map, List.length_range]
theorem rngl {lo : Int} {n : Nat} : (rngD lo n).length = n := by unfold rngD; rw [List.length_map, List.length_range]
theorem rng_src {k : Int} (h0 : 0 ≤ k) (h1 : k ≤ 1000) {S : Sto} {Q : Src → Sto → Prop} : Wp (fun S => (rng1M [.int k]).map fun s => (s, S)) S Q ↔ Q ⟨rngD 0 k.toNat, []⟩ S := wp_some (by
  unfold rng1M rngOk
  simp only
  rw [if_pos (by simp only [Bool.and_eq_true, decide_eq_true_eq]; omega)]
  rfl)
theorem rg1_wp {k : Nat} (h1 : k ≤ 1000) {S : Sto} {Q : D → Sto → Prop} : Wp (rg1M (.int (k : Nat))) S Q ↔ Q (.lst (rngD 0 k)) S := wp_some (by
  unfold rg1M rgOk
  simp only
  rw [if_pos (by simp only [Bool.and_eq_true, decide_eq_true_eq]; omega), Int.sub_zero, Int.toNat_natCast])
theorem mem_rng {n : Nat} {d : D} (h : d ∈ rngD 0 n) : ∃ j : Nat, j < n ∧ d = .int (j : Nat) := by
  unfold rngD at h
  obtain ⟨j, hj, rfl⟩ := List.mem_map.mp h
  exact ⟨j, List.mem_range.mp hj, by simp⟩
def Fo (P : List (Option Nat)) : Prop := ∀ (k j : Nat), P[k]? = some (some j) → j < k
theorem app_wp {S : Sto} {n : Nat} {ds : List D} {y : D} {Q : D → Sto → Prop} (h : S.ob n = some (.lst ds)) (hl : ds.length ≤ 1000) : Wp (appM (.ref n) [y]) S Q ↔ Q .non (S.set n (.lst (ds ++ [y]))) := wp_some (by
  unfold appM
  simp only [h]
  exact if_pos (Nat.lt_of_le_of_lt hl (by decide)))
section
variable {S : Sto} {b : Nat} {Q : D → Sto → Prop}
theorem forest_spec {m : Nat} (hb : Bag S b) (hlt : b < S.nx) (hm : m ≤ 6) (fin : ∀ (P : List (Option Nat)) (n : Nat) S', P.length = m → Fo P → S'.ob n = some (.lst (P.map parD)) → S.nx ≤ n → n < S'.nx → Bag S' b → Kp b S S' → Q (.ref n) S') :
    Wp (if [D.ref b, D.int (m : Nat)].length = P_law_forest.length then d_law_forest [.ref b, .int (m : Nat)] else fail) S Q := by
  rw [if_pos (show [D.ref b, D.int (m : Nat)].length = P_law_forest.length from rfl)]
  unfold d_law_forest
  rw [wp_def]
  rw [show startR N_law_forest.length [D.ref b, D.int (m : Nat)] = [some (.ref b), some (.int (m : Nat)), none, none] from rfl]
  unfold b_law_forest
  refine wp_seq (R := fun r S1 => r = [some (.ref b), some (.int (m : Nat)), some (.ref S.nx), none] ∧ S1 = S.new (.lst [])) ?_ ?_
  · simp only [wp_mSet, wp_mNew, wp_mNil]
    exact Wp.to (show mkNew [] S = some (.ref S.nx, S.new (.lst [])) by unfold mkNew; rw [if_pos (limP (by simp))]) ⟨trivial, rfl, rfl⟩
  rintro r S1 ⟨rfl, rfl⟩
  have nb : b ≠ S.nx := Nat.ne_of_lt hlt
  refine wp_seq (R := fun r S1 => ∃ x3, r = [some (.ref b), some (.int (m : Nat)), some (.ref S.nx), x3] ∧ ∃ P : List (Option Nat), P.length = m ∧ Fo P ∧ S1.ob S.nx = some (.lst (P.map parD)) ∧ Bag S1 b ∧ Kp b S S1 ∧ S.nx < S1.nx) ?_ ?_
  · rw [wp_mFor, wp_mIR]
    simp only [wp_mCons, wp_mNil, wp_mVs, wp_mV0]
    rw [rng_src (by omega) (by omega), Int.toNat_natCast]
    refine Wp.mono (loop_done (src := ⟨rngD 0 m, []⟩) (ds := rngD 0 m) (pre := []) (g := gV 3) (I := fun done r S1 => ∃ x3, r = [some (.ref b), some (.int (m : Nat)), some (.ref S.nx), x3] ∧ ∃ P : List (Option Nat), P.length = done.length ∧ Fo P ∧ S1.ob S.nx = some (.lst (P.map parD)) ∧ Bag S1 b ∧ Kp b S S1 ∧ S.nx < S1.nx) (fun _ _ _ _ => srcOk_nil) ⟨none, rfl, [], rfl, fun k j h => by simp at h, by rw [Sto.new_ob, if_pos rfl]; rfl, hb.new hlt, Kp.refl.new, Nat.lt_succ_self _⟩ ?_) ?_
    · rintro done d rest e r S1 ⟨x3, rfl, P, hl, hF, ho, g, kp, hx⟩
      obtain ⟨rfl, hk⟩ := rng_split e
      refine ⟨_, rfl, ?_⟩
      rw [wp_mSeq, wp_mDrop, wp_mMet]
      simp only [List.set_cons_succ, List.set_cons_zero, wp_mVs, wp_mV0]
      refine (wp_ref (a := mCons (mFn P_law_some.length d_law_some (mCons (mV 0) (mCons (mBin addM (mBin addM (mLst (mCons (mC .non) mNil)) (mUn rg1M (mV 3))) (mUn rg1M (mV 3))) mNil))) mNil) (f := appM) ho).mpr ?_
      have l1 : ∀ (S : Sto) (Q : D → Sto → Prop), Wp (mkLst [D.non]) S Q ↔ Q (.lst [.non]) S := fun S Q => wp_mkLst (by simp)
      have a1 : ∀ (S : Sto) (Q : D → Sto → Prop), Wp (addM (.lst [.non]) (.lst (rngD 0 done.length))) S Q ↔ Q (.lst ([.non] ++ rngD 0 done.length)) S := fun S Q => wp_addL (by rw [rngl]; simp; omega)
      have a2 : ∀ (S : Sto) (Q : D → Sto → Prop), Wp (addM (.lst ([.non] ++ rngD 0 done.length)) (.lst (rngD 0 done.length))) S Q ↔ Q (.lst ([.non] ++ rngD 0 done.length ++ rngD 0 done.length)) S := fun S Q => wp_addL (by rw [List.length_append, rngl]; simp; omega)
      simp only [wp_mCons, wp_mNil, wp_mFn, wp_mBin, wp_mLst, wp_mC, l1, wp_mUn, wp_mVs, wp_mV0, rg1_wp (show done.length ≤ 1000 by omega), a1, a2]
      refine some_fn g (.inl rfl) (by simp) (by rw [List.length_append, List.length_append, rngl]; simp; omega) fun v S2 hv g2 k2 => ?_
      have ho2 : S2.ob S.nx = some (.lst (P.map parD)) := (k2.2 S.nx (Ne.symm nb) hx).trans ho
      obtain ⟨o, hvo, hoj⟩ : ∃ o : Option Nat, v = parD o ∧ ∀ j, o = some j → j < done.length := by
        rcases List.mem_append.mp hv with hv | hv
        · rcases List.mem_append.mp hv with hv | hv
          · exact ⟨none, List.mem_singleton.mp hv, fun j h => nomatch h⟩
          · obtain ⟨j, hj, e⟩ := mem_rng hv
            exact ⟨some j, e, fun k h => by cases h; exact hj⟩
        · obtain ⟨j, hj, e⟩ := mem_rng hv
          exact ⟨some j, e, fun k h => by cases h; exact hj⟩
      subst hvo
      rw [app_wp ho2 (by rw [List.length_map]; omega)]
      simp only [wp_mNx]
      refine ⟨trivial, _, rfl, P ++ [o], by simp [hl], fun k j h => ?_, by rw [ob_set]; simp, Bag.kp (S' := S2) g2 (Ne.symm nb), (kp.trans k2).setN (Nat.le_refl _), Nat.lt_of_lt_of_le hx k2.1⟩
      by_cases hk2 : k < P.length
      · rw [List.getElem?_append_left hk2] at h
        exact hF k j h
      · rw [List.getElem?_append_right (by omega)] at h
        have hk3 : k - P.length = 0 := by
          cases hz : k - P.length with
          | zero => rfl
          | succ z => rw [hz] at h; simp at h
        rw [hk3] at h
        have := hoj j (by simpa using h)
        omega
    · rintro ⟨fl, r⟩ S1 ⟨e1, x3, e2, P, hl, q⟩
      rw [List.nil_append, rngl] at hl
      exact ⟨e1, x3, e2, P, hl, q⟩
  rintro r S1 ⟨x3, rfl, P, hl, hF, ho, g, kp, hx⟩
  refine wp_ret1 ?_
  simp only [wp_mVs, wp_mV0, wp_ret]
  exact fin P _ S1 hl hF ho (Nat.le_refl _) hx g kp
inductive Anc (P : List (Option Nat)) : Nat → Nat → Prop
  | refl (k : Nat) : Anc P k k
  | step {i j k : Nat} : P[k]? = some (some j) → Anc P i j → Anc P i k
theorem Anc.trans {P : List (Option Nat)} {i j k : Nat} (h : Anc P i j) (g : Anc P j k) : Anc P i k := by
  induction g with
  | refl => exact h
  | step e _ ih => exact .step e ih
theorem Anc.linear {P : List (Option Nat)} {i j k : Nat} (h : Anc P i k) (g : Anc P j k) : Anc P i j ∨ Anc P j i := by
  induction h with
  | refl => exact .inr g
  | step e h1 ih =>
    cases g with
    | refl => exact .inl (.step e h1)
    | step e2 g2 =>
      rw [e] at e2
      cases e2
      exact ih g2
theorem line_spec {P : List (Option Nat)} {n at_ : Nat} (ho : S.ob n = some (.lst (P.map parD))) (hF : Fo P) (hat : at_ < P.length) (hP : P.length ≤ 6) (fin : ∀ l : List Nat, l.length ≤ 6 → l.Nodup → (∀ i, i ∈ l ↔ Anc P i at_) → Q (.lst (l.map fun i : Nat => .int (i : Nat))) S) :
    Wp (if [D.ref n, D.int (at_ : Nat)].length = P_law_line.length then d_law_line [.ref n, .int (at_ : Nat)] else fail) S Q := by
  rw [if_pos (show [D.ref n, D.int (at_ : Nat)].length = P_law_line.length from rfl)]
  unfold d_law_line
  rw [wp_def]
  rw [show startR N_law_line.length [D.ref n, D.int (at_ : Nat)] = [some (.ref n), some (.int (at_ : Nat)), none] from rfl]
  unfold b_law_line
  refine wp_seq (R := fun r S1 => r = [some (.ref n), some (.int (at_ : Nat)), some (.lst ([at_].map fun i : Nat => .int (i : Nat)))] ∧ S1 = S) ?_ ?_
  · simp only [wp_mSet, wp_mLst, wp_mCons, wp_mNil, wp_mVs, wp_mV0]
    rw [wp_mkLst (by simp)]
    exact ⟨trivial, rfl, rfl⟩
  rintro r S1 ⟨rfl, rfl⟩
  rw [wp_mSeq]
  have ixh : ∀ (h : Nat) (t : List Nat) (Q : D → Sto → Prop), Wp (ixM (.lst ((h :: t).map fun i : Nat => D.int (i : Nat))) (.int 0)) S1 Q ↔ Q (.int (h : Nat)) S1 := fun h t Q => wp_ixL (by unfold atI ixN; rw [if_pos (Int.le_refl 0), if_pos (by simp)]; rfl)
  have ixp : ∀ (h : Nat) (Q : D → Sto → Prop) (hh : h < P.length), Wp (ixM (.ref n) (.int (h : Nat))) S1 Q ↔ Q (parD P[h]) S1 := fun h Q hh => wp_ixR ho (by
    unfold atI ixN
    rw [if_pos (by omega), if_pos (by rw [List.length_map]; omega)]
    show (P.map parD)[(h : Int).toNat]? = _
    rw [Int.toNat_natCast, List.getElem?_map, List.getElem?_eq_getElem hh]
    rfl)
  refine wp_while (I := fun k r S2 => S2 = S1 ∧ ∃ h t, k = h ∧ r = [some (.ref n), some (.int (at_ : Nat)), some (.lst ((h :: t).map fun i : Nat => .int (i : Nat)))] ∧ h < P.length ∧ (h :: t).length + h ≤ at_ + 1 ∧ (h :: t).Pairwise (· < ·) ∧ ∀ i, Anc P i at_ ↔ i ∈ h :: t ∨ Anc P i h) ?_ (n := at_) ⟨rfl, at_, [], rfl, rfl, hat, by simp; omega, List.pairwise_singleton _ _, fun i => ⟨.inr, fun q => q.elim (fun q => by rw [List.mem_singleton.mp q]; exact .refl _) id⟩⟩
  rintro k r S2 ⟨rfl, h, t, rfl, rfl, hh, hlen, hpw, hall⟩
  simp only [wp_mB, wp_mNotN, wp_mBin, wp_mVs, wp_mV0, wp_mC, ixh]
  rw [ixp k _ hh]
  have hPk : P[k]? = some P[k] := List.getElem?_eq_getElem hh
  cases hp : P[k] with
  | none =>
    simp only [parD, isNonD, Bool.not_true, wp_asB, Bool.false_eq_true, if_false]
    refine wp_ret1 ?_
    simp only [wp_mVs, wp_mV0, wp_ret]
    refine fin (k :: t) (by omega) (hpw.imp fun h => Nat.ne_of_lt h) fun i => ?_
    rw [hall i]
    constructor
    · exact .inl
    · rintro (q | q)
      · exact q
      · cases q with
        | refl => exact List.mem_cons_self
        | step e _ => rw [hPk, hp] at e; cases e
  | some j =>
    have hj : j < k := hF k j (by rw [hPk, hp])
    simp only [parD, isNonD, Bool.not_false, wp_asB, if_true]
    have l1 : ∀ (d : D) (S : Sto) (Q : D → Sto → Prop), Wp (mkLst [d]) S Q ↔ Q (.lst [d]) S := fun d S Q => wp_mkLst (by simp)
    simp only [wp_mSeq, wp_mSet, wp_mBin, wp_mLst, wp_mCons, wp_mNil, wp_mVs, wp_mV0, wp_mC, ixh]
    rw [ixp k _ hh, hp]
    simp only [parD, l1]
    rw [wp_addL (by rw [List.length_map]; simp; have := hlen; simp at this; omega)]
    simp only [List.set_cons_succ, List.set_cons_zero, wp_mNx]
    refine ⟨trivial, j, hj, trivial, j, k :: t, rfl, rfl, by omega, by simp at hlen ⊢; omega, List.pairwise_cons.mpr ⟨fun x hx => (List.mem_cons.mp hx).elim (fun e => by rw [e]; exact hj) fun hx => Nat.lt_trans hj ((List.pairwise_cons.mp hpw).1 x hx), hpw⟩, fun i => ?_⟩
    rw [hall i]
    constructor
    · rintro (q | q)
      · exact .inl (List.mem_cons_of_mem _ q)
      · cases q with
        | refl => exact .inl (List.mem_cons_of_mem _ List.mem_cons_self)
        | step e g => rw [hPk, hp] at e; cases e; exact .inr g
    · rintro (q | q)
      · rcases List.mem_cons.mp q with rfl | q
        · exact .inr (.step (by rw [hPk, hp]) (.refl _))
        · exact .inl q
      · exact .inr (.step (by rw [hPk, hp]) q)
/-! ### texts of lists of names -/
theorem perm_of {α : Type} {f : α → D} {g : D → α} (hg : ∀ x, g (f x) = x) {es : List D} {l : List α} (h : es.Perm (l.map f)) : ∃ l' : List α, es = l'.map f ∧ l'.Perm l := by
  refine ⟨es.map g, ?_, ?_⟩
  · rw [List.map_map]
    refine (List.map_id es).symm.trans (List.map_congr_left fun e he => ?_)
    obtain ⟨x, _, rfl⟩ := List.mem_map.mp (h.mem_iff.mp he)
    show f x = f (g (f x))
    rw [hg]
  · have := h.map g
    rw [List.map_map] at this
    refine this.trans ?_
    rw [show (l.map (g ∘ f)) = l from (List.map_congr_left fun x _ => hg x).trans (List.map_id l)]
def strG : D → Str
  | .str x => x
  | _ => default
theorem strs_perm {es : List D} {l : List Str} (h : es.Perm (l.map .str)) : ∃ l' : List Str, es = l'.map .str ∧ l'.Perm l := perm_of (g := strG) (fun _ => rfl) h
def atomG : D → Atom
  | .tup [.str w, .str t, .tup cs] => ⟨w, t, cs.map strG⟩
  | _ => ⟨default, default, []⟩
theorem atomG_D (a : Atom) : atomG (atomD a) = a := by
  unfold atomD atomG
  simp only [List.map_map]
  rw [show (a.cs.map (strG ∘ D.str)) = a.cs from (List.map_congr_left fun x _ => rfl).trans (List.map_id _)]
theorem atoms_perm {es : List D} {l : List Atom} (h : es.Perm (l.map atomD)) : ∃ l' : List Atom, es = l'.map atomD ∧ l'.Perm l := perm_of (g := atomG) atomG_D h
theorem Anc.le {P : List (Option Nat)} {i k : Nat} (hF : Fo P) (h : Anc P i k) : i ≤ k := by
  induction h with
  | refl => exact Nat.le_refl _
  | step e _ ih => have := hF _ _ e; omega
/-- mixed names -/
theorem mixed_strs {th : D} {l : List Str} (hb : Bag S b) (hlt : b < S.nx) (hs : th = .lst (l.map .str)) (hl : l.length ≤ 100) (fin : ∀ (l' : List Str) (n : Nat) S', l'.Perm l → S'.ob n = some (.lst (l'.map .str)) → S.nx ≤ n → n < S'.nx → Bag S' b → Kp b S S' → Q (.ref n) S') :
    Wp (if [D.ref b, th].length = P_law_mixed.length then d_law_mixed [.ref b, th] else fail) S Q := by
  subst hs
  refine mixed_spec (src := ⟨l.map .str, []⟩) hb hlt rfl srcOk_nil (fun p h => nomatch h) (by rw [List.length_map]; omega) fun es n S' hp ho h1 h2 g k => ?_
  obtain ⟨l', rfl, h3⟩ := strs_perm hp
  exact fin l' n S' h3 ho h1 h2 g k
theorem columns_spec {P : List (Option Nat)} {n at_ : Nat} {nm : List Str} (hb : Bag S b) (hlt : b < S.nx) (ho : S.ob n = some (.lst (P.map parD))) (hF : Fo P) (hat : at_ < P.length) (hP : P.length ≤ 6) (hnm : nm.length = P.length) (hnd : nm.Nodup)
    (fin : ∀ (cs : List Str) S', cs.length ≤ 6 → cs.Nodup → (∀ c, c ∈ cs ↔ ∃ i, Anc P i at_ ∧ nm[i]? = some c) → Bag S' b → Kp b S S' → Q (.tup (cs.map .str)) S') :
    Wp (if [D.ref b, D.lst (nm.map .str), D.ref n, D.int (at_ : Nat)].length = P_law_columns_mixed.length then d_law_columns_mixed [.ref b, .lst (nm.map .str), .ref n, .int (at_ : Nat)] else fail) S Q := by
  rw [if_pos (show [D.ref b, D.lst (nm.map .str), D.ref n, D.int (at_ : Nat)].length = P_law_columns_mixed.length from rfl)]
  unfold d_law_columns_mixed
  rw [wp_def]
  rw [show startR N_law_columns_mixed.length [D.ref b, D.lst (nm.map .str), D.ref n, D.int (at_ : Nat)] = [some (.ref b), some (.lst (nm.map .str)), some (.ref n), some (.int (at_ : Nat)), none] from rfl]
  unfold b_law_columns_mixed
  refine wp_ret1 ?_
  rw [wp_mCall, wp_mCons, wp_mFn, wp_mCons]
  simp only [wp_mV0]
  rw [wp_mCons, wp_mLc, wp_mISeq, wp_mFn]
  simp only [wp_mCons, wp_mNil, wp_mVs, wp_mV0]
  refine line_spec ho hF hat hP fun l hll hlnd hall => ?_
  have src : ∀ (S : Sto) (Q : Src → Sto → Prop), Wp (fun S => (srcOf (.lst (l.map fun i : Nat => D.int (i : Nat))) S).map fun s => (s, S)) S Q ↔ Q ⟨l.map fun i : Nat => D.int (i : Nat), []⟩ S := fun S Q => wp_some rfl
  rw [src]
  have hlt2 : ∀ i ∈ l, i < nm.length := fun i hi => by have := ((hall i).mp hi).le hF; omega
  have := lc_any (S := S) (g := gV 4) (rho := wipeR [some (.ref b), some (.lst (nm.map .str)), some (.ref n), some (.int (at_ : Nat)), none] [4]) (mt := mYes) (me := mBin ixM (mV 1) (mV 4)) (src := ⟨l.map fun i : Nat => D.int (i : Nat), []⟩) (t := fun _ => true) (f := fun i : Nat => D.str (nm.getD i default)) (c := fun i : Nat => D.int (i : Nat)) srcOk_nil (l := l) fun i hi => ⟨_, rfl, rfl, fun _ => eq_of (by
      simp only [wp_mBin, wipeR, List.set_cons_succ, List.set_cons_zero, wp_mVs, wp_mV0]
      have h1 := hlt2 i hi
      rw [wp_ixL (d := .str (nm.getD i default)) (by
        unfold atI ixN
        rw [if_pos (by omega), if_pos (by rw [List.length_map]; omega)]
        show (nm.map D.str)[(i : Int).toNat]? = _
        rw [Int.toNat_natCast, List.getElem?_map, List.getElem?_eq_getElem h1]
        simp [List.getD, List.getElem?_eq_getElem h1])]
      exact ⟨rfl, rfl⟩)⟩
  rw [List.filter_eq_self.mpr (fun _ _ => rfl), show (l.map fun i : Nat => D.str (nm.getD i default)) = (l.map fun i => nm.getD i default).map D.str by rw [List.map_map]; rfl] at this
  rw [wp_some this, wp_lim (by rw [List.length_map, List.length_map]; omega)]
  refine mixed_strs hb hlt rfl (by rw [List.length_map]; omega) fun cs k S' hp ho' h1 h2 g kp => ?_
  rw [wp_tupR ho']
  refine wp_ret.mpr (fin cs S' (by rw [hp.length_eq, List.length_map]; omega) (hp.nodup_iff.mpr (List.pairwise_map.mpr (hlnd.imp_of_mem fun {i j} hi hj hne e => hne (by
    have hi := hlt2 i hi
    have hj := hlt2 j hj
    simp only [List.getD, List.getElem?_eq_getElem hi, List.getElem?_eq_getElem hj, Option.getD_some] at e
    exact (List.getElem_inj hnd).mp e)))) (fun c => ?_) g kp)
  rw [hp.mem_iff, List.mem_map]
  constructor
  · rintro ⟨i, hi, rfl⟩
    refine ⟨i, (hall i).mp hi, ?_⟩
    rw [List.getElem?_eq_getElem (hlt2 i hi)]
    simp [List.getD, List.getElem?_eq_getElem (hlt2 i hi)]
  · rintro ⟨i, ha, he⟩
    exact ⟨i, (hall i).mpr ha, by simp [List.getD, he]⟩
/-! ### ranges -/
theorem Bnd.isN {d : D} (h : Bnd d) : (isNonD d = true ∧ d = .non) ∨ (isNonD d = false ∧ ∃ i, d = .int i) := by
  rcases h with rfl | ⟨i, rfl, _, _⟩
  · exact .inl ⟨rfl, rfl⟩
  · exact .inr ⟨rfl, i, rfl⟩
theorem some_bnd {l : List D} (hb : Bag S b) (h0 : 0 < l.length) (h1 : l.length < 1000) (hl : ∀ d ∈ l, Bnd d) (k : ∀ d S', Bnd d → Bag S' b → Kp b S S' → Q d S') :
    Wp (if [D.ref b, D.lst l].length = P_law_some.length then d_law_some [.ref b, .lst l] else fail) S Q := some_fn hb (.inl rfl) h0 h1 fun d S' hd g kp => k d S' (hl d hd) g kp
theorem bI {i : Int} (h : -10 ≤ i ∧ i ≤ 10) : Bnd (.int i) := .inr ⟨i, rfl, h.1, h.2⟩
theorem ranges_spec {cs : List Str} (hb : Bag S b) (hlt : b < S.nx) (hl : cs.length ≤ 6) (hs : ∀ c ∈ cs, Sm c) (hnd : cs.Nodup) (fin : ∀ (rs : List Rn) S', rs.length ≤ 6 → (∀ r ∈ rs, OkR r) → (∀ r ∈ rs, LeB r.lo r.hi) → (rs.map Rn.c).Nodup → (∀ r ∈ rs, r.c ∈ cs) → Bag S' b → Kp b S S' → Q (rgD rs) S') :
    Wp (if [D.ref b, D.tup (cs.map .str)].length = P_law_ranges.length then d_law_ranges [.ref b, .tup (cs.map .str)] else fail) S Q := by
  rw [if_pos (show [D.ref b, D.tup (cs.map .str)].length = P_law_ranges.length from rfl)]
  unfold d_law_ranges
  rw [wp_def]
  rw [show startR N_law_ranges.length [D.ref b, D.tup (cs.map .str)] = [some (.ref b), some (.tup (cs.map .str)), none, none, none, none] from rfl]
  unfold b_law_ranges
  refine wp_seq (R := fun r S1 => r = [some (.ref b), some (.tup (cs.map .str)), some (.ref S.nx), none, none, none] ∧ S1 = S.new (.lst [])) ?_ ?_
  · simp only [wp_mSet, wp_mNew, wp_mNil]
    exact Wp.to (show mkNew [] S = some (.ref S.nx, S.new (.lst [])) by unfold mkNew; rw [if_pos (limP (by simp))]) ⟨trivial, rfl, rfl⟩
  rintro r S1 ⟨rfl, rfl⟩
  have nb : b ≠ S.nx := Nat.ne_of_lt hlt
  refine wp_seq (R := fun r S1 => (∃ x3 x4 x5, r = [some (.ref b), some (.tup (cs.map .str)), some (.ref S.nx), x3, x4, x5]) ∧ ∃ l : List Rn, l.length ≤ 6 ∧ (∀ d ∈ l, OkR d) ∧ (∀ d ∈ l, LeB d.lo d.hi) ∧ (l.map Rn.c).Nodup ∧ (∀ d ∈ l, d.c ∈ cs) ∧ S1.ob S.nx = some (.lst (l.map rnD)) ∧ Bag S1 b ∧ Kp b S S1) ?_ ?_
  · rw [wp_mFor, wp_mISeq, wp_mFn, wp_mCons]
    simp only [wp_mV0]
    have li : ∀ (S : Sto) (Q : D → Sto → Prop), Wp (listM [.tup (cs.map .str)]) S Q ↔ Q (.lst (cs.map .str)) S := fun S Q => wp_some rfl
    simp only [wp_mCons, wp_mNil, wp_mCall, wp_mVs, wp_mV0, li]
    refine mixed_strs (hb.new hlt) (Nat.lt_succ_of_lt hlt) rfl (by omega) fun cs' n S2 hp ho2 hn1 hn2 g2 k2 => ?_
    have hne : n ≠ S.nx := fun e => by rw [e] at hn1; exact absurd hn1 (Nat.not_le_of_lt (Nat.lt_succ_self _))
    have hnb : n ≠ b := fun e => by rw [e] at hn1; exact absurd (Nat.lt_of_lt_of_le (Nat.lt_succ_of_lt hlt) hn1) (Nat.lt_irrefl _)
    have src : ∀ (Q : Src → Sto → Prop), Wp (fun S => (srcOf (.ref n) S).map fun s => (s, S)) S2 Q ↔ Q ⟨cs'.map .str, [(n, cs'.map .str)]⟩ S2 := fun Q => wp_some (by unfold srcOf; simp only [ho2]; rfl)
    rw [src]
    have hN : S.nx < S2.nx := Nat.lt_of_lt_of_le (Nat.lt_succ_self _) k2.1
    have hob : S2.ob S.nx = some (.lst []) := (k2.2 S.nx (Ne.symm nb) (Nat.lt_succ_self _)).trans (by rw [Sto.new_ob, if_pos rfl])
    refine Wp.mono (loop_done (src := ⟨cs'.map .str, [(n, cs'.map .str)]⟩) (ds := cs'.map .str) (pre := []) (g := gV 3) (I := fun done r S1 => (∃ x3 x4 x5, r = [some (.ref b), some (.tup (cs.map .str)), some (.ref S.nx), x3, x4, x5]) ∧ (∃ l : List Rn, (l.map fun r => D.str r.c).Sublist done ∧ (∀ d ∈ l, OkR d) ∧ (∀ d ∈ l, LeB d.lo d.hi) ∧ S1.ob S.nx = some (.lst (l.map rnD))) ∧ S1.ob n = some (.lst (cs'.map .str)) ∧ Bag S1 b ∧ Kp b S S1 ∧ S2.nx ≤ S1.nx) (fun _ _ _ h => srcOk_one.mpr h.2.2.1) ⟨⟨_, _, _, rfl⟩, ⟨[], by simp, (fun d h => nomatch h), (fun d h => nomatch h), hob⟩, ho2, g2, (Kp.refl.new).trans k2, Nat.le_refl _⟩ ?_) ?_
    · rintro done d rest e r S3 ⟨⟨x3, x4, x5, rfl⟩, ⟨l, hll, hR, hLe, hol⟩, hon, g3, k3, hx3⟩
      have hdl : done.length + 1 ≤ 6 := by
        have h9 := congrArg List.length e
        rw [List.nil_append, List.length_append, List.length_cons, List.length_map, hp.length_eq] at h9
        omega
      obtain ⟨c, hc, rfl⟩ : ∃ c, Sm c ∧ d = .str c := by
        have : d ∈ cs'.map D.str := by
          have e' : cs'.map D.str = done ++ d :: rest := e
          rw [e']; simp
        obtain ⟨c, hc, rfl⟩ := List.mem_map.mp this
        exact ⟨c, hs c (hp.mem_iff.mp hc), rfl⟩
      refine ⟨_, rfl, ?_⟩
      have keepL : ∀ {S4 : Sto}, Kp b S3 S4 → S4.ob S.nx = some (.lst (l.map rnD)) ∧ S4.ob n = some (.lst (cs'.map .str)) ∧ Kp b S S4 ∧ S2.nx ≤ S4.nx := fun {S4} k => ⟨(k.2 S.nx (Ne.symm nb) (Nat.lt_of_lt_of_le hN hx3)).trans hol, (k.2 n hnb (Nat.lt_of_lt_of_le hn2 hx3)).trans hon, k3.trans k, Nat.le_trans hx3 k.1⟩
      rw [wp_mSeq, wp_mIfS, wp_mB, wp_mBin]
      simp only [List.set_cons_succ, List.set_cons_zero, wp_mFn, wp_mCons, wp_mNil, wp_mVs, wp_mV0, wp_mC]
      refine take_fn g3 (by decide) (by decide) fun v S4 a c1 g4 k4 => ?_
      rw [wp_eqI, wp_asB]
      by_cases hv : v = 0
      · simp only [hv, beq_self_eq_true, if_true]
        have ml : ∀ (l : List D) (S : Sto) (Q : D → Sto → Prop), l.length ≤ 1000000 → (Wp (mkLst l) S Q ↔ Q (.lst l) S) := fun l S Q h => wp_mkLst h
        rw [wp_mSeq, wp_mSet, wp_mFn]
        simp only [wp_mCons, wp_mNil, wp_mVs, wp_mV0, wp_mLst, wp_mC, wp_mUn, wp_neg]
        rw [ml _ _ _ (by simp)]
        refine some_bnd g4 (by simp) (by simp) (fun d hd => ?_) fun lo S5 hlo g5 k5 => ?_
        · simp only [List.mem_cons, List.not_mem_nil, or_false] at hd
          rcases hd with rfl | rfl | rfl | rfl | rfl
          · exact .inl rfl
          all_goals exact bI (by decide)
        simp only [List.set_cons_succ, List.set_cons_zero]
        rw [wp_mSeq, wp_mSet, wp_mFn]
        simp only [wp_mCons, wp_mNil, wp_mVs, wp_mV0, wp_mLst, wp_mC, wp_mIf, wp_mB, wp_mNotN, wp_asB]
        have mid : ∀ (Q : D → Sto → Prop), (∀ d, Bnd d → Q d S5) → Wp (if (!isNonD lo) = true then mV 4 [some (.ref b), some (.tup (cs.map .str)), some (.ref S.nx), some (.str c), some lo, x5] else mC (.int 2) [some (.ref b), some (.tup (cs.map .str)), some (.ref S.nx), some (.str c), some lo, x5]) S5 Q := fun Q k => by
          rcases hlo.isN with ⟨e1, e2⟩ | ⟨e1, i, e2⟩
          · simp only [e1, Bool.not_true, Bool.false_eq_true, if_false, wp_mC]
            exact k _ (bI (by decide))
          · simp only [e1, Bool.not_false, if_true, wp_mVs, wp_mV0]
            exact k _ hlo
        refine mid _ fun d5 hd5 => ?_
        rw [ml _ _ _ (by simp)]
        refine some_bnd g5 (by simp) (by simp) (fun d hd => ?_) fun hi S6 hhi g6 k6 => ?_
        · simp only [List.mem_cons, List.not_mem_nil, or_false] at hd
          rcases hd with rfl | rfl | rfl | rfl | rfl | rfl
          · exact .inl rfl
          · exact bI (by decide)
          · exact bI (by decide)
          · exact bI (by decide)
          · exact hd5
          · exact bI (by decide)
        simp only [List.set_cons_succ, List.set_cons_zero]
        obtain ⟨hoS, honS, kS, hxS⟩ := keepL ((k4.trans k5).trans k6)
        rw [wp_mSeq, wp_mDrop, wp_mMet]
        simp only [wp_mVs, wp_mV0]
        refine (wp_ref (a := mCons (mTup (mCons (mV 3) (mCons (mV 4) (mCons (mIf (mOr (mB (mIsN (mV 4))) (mOr (mB (mIsN (mV 5))) (mB (mBin leM (mV 4) (mV 5))))) (mV 5) (mV 4)) mNil)))) mNil) (f := appM) hoS).mpr ?_
        have pickH : ∀ (Q : D → Sto → Prop), (∀ d, Bnd d → LeB lo d → Q d S6) → Wp (mIf (mOr (mB (mIsN (mV 4))) (mOr (mB (mIsN (mV 5))) (mB (mBin leM (mV 4) (mV 5))))) (mV 5) (mV 4) [some (.ref b), some (.tup (cs.map .str)), some (.ref S.nx), some (.str c), some lo, some hi]) S6 Q := fun Q k => by
          simp only [wp_mIf, wp_mOr, wp_mB, wp_mIsN, wp_mVs, wp_mV0, wp_asB]
          rcases hlo.isN with ⟨e1, e2⟩ | ⟨e1, i, e2⟩
          · simp only [e1, if_true, wp_ret, wp_mVs, wp_mV0]
            exact k _ hhi (fun i j h1 h2 => by rw [e2] at h1; cases h1)
          · simp only [e1, Bool.false_eq_true, if_false, wp_mOr, wp_mB, wp_mIsN, wp_mVs, wp_mV0, wp_asB]
            rcases hhi.isN with ⟨f1, f2⟩ | ⟨f1, j, f2⟩
            · simp only [f1, if_true, wp_ret, wp_mVs, wp_mV0]
              exact k _ hhi (fun i j h1 h2 => by rw [f2] at h2; cases h2)
            · simp only [f1, Bool.false_eq_true, if_false, wp_mB, wp_mBin, wp_mVs, wp_mV0]
              rw [e2, f2, wp_le, wp_asB]
              split
              · rename_i hle
                simp only [wp_mVs, wp_mV0]; rw [← f2]
                exact k _ hhi (fun i' j' h1 h2 => by rw [e2] at h1; rw [f2] at h2; cases h1; cases h2; exact of_decide_eq_true hle)
              · simp only [wp_mVs, wp_mV0]; rw [← e2]
                exact k _ hlo (fun i' j' h1 h2 => by rw [h1] at h2; cases h2; exact Int.le_refl _)
        rw [wp_mCons, wp_mTup, wp_mCons]
        simp only [wp_mVs, wp_mV0]
        rw [wp_mCons]
        simp only [wp_mVs, wp_mV0]
        rw [wp_mCons]
        refine pickH _ fun h2 hh2 hle2 => ?_
        rw [wp_mNil, wp_mkTup (by simp), wp_mNil, app_wp hoS (by rw [List.length_map]; have := hll.length_le; rw [List.length_map] at this; omega)]
        simp only [wp_mNx]
        refine ⟨trivial, ⟨_, _, _, rfl⟩, ⟨l ++ [⟨c, lo, h2⟩], by rw [List.map_append]; exact hll.append (List.Sublist.refl _), fun d hd => ?_, fun d hd => ?_, by rw [ob_set, List.map_append]; rfl⟩, by rw [Sto.set_ob, if_neg hne]; exact honS, Bag.kp (S' := S6) g6 (Ne.symm nb), kS.setN (Nat.le_refl _), hxS⟩
        · rcases List.mem_append.mp hd with hd | hd
          · exact hR d hd
          · rw [List.mem_singleton.mp hd]
            exact ⟨hc, hlo, hh2⟩
        · rcases List.mem_append.mp hd with hd | hd
          · exact hLe d hd
          · rw [List.mem_singleton.mp hd]
            exact hle2
      · simp only [show (v == 0) = false from by simpa using hv, Bool.false_eq_true, if_false, wp_mNx]
        obtain ⟨hoS, honS, kS, hxS⟩ := keepL k4
        exact ⟨trivial, ⟨_, _, _, rfl⟩, ⟨l, hll.trans (List.sublist_append_left _ _), hR, hLe, hoS⟩, honS, g4, kS, hxS⟩
    · rintro ⟨fl, r⟩ S3 ⟨e1, ⟨x3, x4, x5, e2⟩, ⟨l, hll, hR, hLe, hol⟩, hon, g3, k3, hx3⟩
      rw [List.nil_append] at hll
      have hs2 : (l.map Rn.c).Sublist cs' := by
        have e9 : (l.map fun r => D.str r.c) = (l.map Rn.c).map D.str := by rw [List.map_map]; rfl
        rw [e9] at hll
        have := hll.map strG
        rw [List.map_map, List.map_map] at this
        simpa [Function.comp_def, strG] using this
      refine ⟨e1, ⟨x3, x4, x5, e2⟩, l, ?_, hR, hLe, hs2.nodup (hp.nodup_iff.mpr hnd), fun d hd => hp.mem_iff.mp (hs2.subset (List.mem_map_of_mem hd)), hol, g3, k3⟩
      have := hs2.length_le
      rw [List.length_map, hp.length_eq] at this
      omega
  rintro r S1 ⟨⟨x3, x4, x5, rfl⟩, l, hll, hR, hLe, hN, hsub, hol, g, k⟩
  refine wp_ret1 ?_
  simp only [wp_mCall, wp_mCons, wp_mNil, wp_mVs, wp_mV0]
  rw [wp_tupR hol]
  exact wp_ret.mpr (fin l S1 hll hR hLe hN hsub g k)
/-! ### questions drawn -/
theorem cut_hi {α : Type} (l : List α) (n : Nat) : Mn.cutD l none (some (n : Int)) = l.take n := by
  unfold Mn.cutD
  rw [HT.sIx_none, HT.sIx_nat, List.drop_zero, Nat.sub_zero]
  by_cases h : n ≤ l.length
  · rw [Nat.min_eq_left h]
  · rw [Nat.min_eq_right (by omega), List.take_of_length_le (by omega), List.take_of_length_le (by omega)]
theorem cut_lo {α : Type} (l : List α) (n : Nat) : Mn.cutD l (some (n : Int)) none = l.drop n := by
  unfold Mn.cutD
  rw [HT.sIx_none, HT.sIx_nat]
  by_cases h : n ≤ l.length
  · rw [Nat.min_eq_left h, List.take_of_length_le (by rw [List.length_drop]; omega)]
  · rw [Nat.min_eq_right (by omega), List.drop_eq_nil_of_le (by omega), List.drop_eq_nil_of_le (by omega), List.take_nil]
theorem sm_has : Sm "has" := ⟨by decide +kernel, by decide +kernel⟩
theorem sm_not : Sm "not" := ⟨by decide +kernel, by decide +kernel⟩
theorem sm_names : ∀ x ∈ (["a", "b", "c", "d", "x1", "y"] : List Str), Sm x := fun x hx => ⟨(by decide +kernel : ∀ x ∈ (["a", "b", "c", "d", "x1", "y"] : List Str), PyData.strOk x = true) x hx, (by decide +kernel : ∀ x ∈ (["a", "b", "c", "d", "x1", "y"] : List Str), x.cps.size ≤ 10) x hx⟩
theorem sm_tabs : ∀ x ∈ (["r", "s", "t", "u", "v", "w", "p", "q7"] : List Str), Sm x := fun x hx => ⟨(by decide +kernel : ∀ x ∈ (["r", "s", "t", "u", "v", "w", "p", "q7"] : List Str), PyData.strOk x = true) x hx, (by decide +kernel : ∀ x ∈ (["r", "s", "t", "u", "v", "w", "p", "q7"] : List Str), x.cps.size ≤ 10) x hx⟩
theorem some_strs {l : List Str} (hb : Bag S b) (h0 : 0 < l.length) (h1 : l.length < 1000) (k : ∀ x S', x ∈ l → Bag S' b → Kp b S S' → Q (.str x) S') :
    Wp (if [D.ref b, D.lst (l.map .str)].length = P_law_some.length then d_law_some [.ref b, .lst (l.map .str)] else fail) S Q := some_fn hb (.inl rfl) (by rw [List.length_map]; exact h0) (by rw [List.length_map]; exact h1) fun d S' hd g kp => by
  obtain ⟨x, hx, rfl⟩ := List.mem_map.mp hd
  exact k x S' hx g kp
theorem finQ {kn ka kc : Nat} {rho : Mn.Env} {nm : List Str} {as : List Atom} {na : Nat} {QS : Fl × Mn.Env → Sto → Prop} (hb : Bag S b) (hlt : b < S.nx) (hl : nm.length ≤ 6) (hl1 : 1 ≤ nm.length) (hn : ∀ x ∈ nm, Sm x) (hnd : nm.Nodup) (ho : S.ob na = some (.lst (as.map atomD))) (hna : na ≠ b ∧ na < S.nx) (hal : as.length ≤ 9) (hA : ∀ x ∈ as, OkA nm x)
    (e0 : ∀ S Q, Wp (mV 0 rho) S Q ↔ Q (.ref b) S) (en : ∀ S Q, Wp (mV kn rho) S Q ↔ Q (.lst (nm.map .str)) S) (e0' : ∀ d S Q, Wp (mV 0 (rho.set kc (some d))) S Q ↔ Q (.ref b) S) (ea' : ∀ d S Q, Wp (mV ka (rho.set kc (some d))) S Q ↔ Q (.ref na) S) (ec' : ∀ d S Q, Wp (mV kc (rho.set kc (some d))) S Q ↔ Q d S)
    (fin : ∀ q r S', OkQ q → q.cols.Perm nm → q.atoms.Perm as → Bag S' b → Kp b S S' → QS (.rt (qD q), r) S') :
    Wp (mSeq (mSet kc (mCall tupleM (mCons (mFn P_law_mixed.length d_law_mixed (mCons (mV 0) (mCons (mV kn) mNil))) mNil))) (mSeq (mRet (mTup (mCons (mV kc) (mCons (mCall tupleM (mCons (mFn P_law_mixed.length d_law_mixed (mCons (mV 0) (mCons (mV ka) mNil))) mNil)) (mCons (mFn P_law_ranges.length d_law_ranges (mCons (mV 0) (mCons (mV kc) mNil))) mNil))))) mNx) rho) S QS := by
  rw [wp_mSeq, wp_mSet, wp_mCall, wp_mCons, wp_mFn]
  simp only [wp_mCons, wp_mNil, e0, en]
  refine mixed_strs hb hlt rfl (by omega) fun cs n1 S1 hp ho1 hn1 hn1' g1 k1 => ?_
  rw [wp_tupR ho1]
  refine wp_ret1 ?_
  rw [wp_mTup, wp_mCons]
  simp only [ec']
  rw [wp_mCons, wp_mCall, wp_mCons, wp_mFn]
  simp only [wp_mCons, wp_mNil, e0', ea']
  have hoa : S1.ob na = some (.lst (as.map atomD)) := (k1.2 na hna.1 hna.2).trans ho
  have lt1 : b < S1.nx := Nat.lt_of_lt_of_le hlt k1.1
  refine mixed_spec (src := ⟨as.map atomD, [(na, as.map atomD)]⟩) g1 lt1 (by unfold srcOf; simp only [hoa]) (srcOk_one.mpr hoa) (fun p hp => by rw [List.mem_singleton.mp hp]; exact ⟨hna.1, Nat.lt_of_lt_of_le hna.2 k1.1⟩) (by rw [List.length_map]; omega) fun es n2 S2 hp2 ho2 _ _ g2 k2 => ?_
  obtain ⟨as', rfl, hpa⟩ := atoms_perm hp2
  rw [wp_tupR ho2, wp_mFn]
  simp only [wp_mCons, wp_mNil, e0', ec']
  have lt2 : b < S2.nx := Nat.lt_of_lt_of_le lt1 k2.1
  have hcnd : cs.Nodup := hp.nodup_iff.mpr hnd
  refine ranges_spec g2 lt2 (by rw [hp.length_eq]; exact hl) (fun c hc => hn c (hp.mem_iff.mp hc)) hcnd fun rs S3 h1 h2 h3 h4 h5 g3 k3 => ?_
  rw [wp_mkTup (by simp)]
  exact fin ⟨cs, as', rs⟩ _ S3 ⟨by show cs.length ≤ 6; rw [hp.length_eq]; exact hl, by show 1 ≤ cs.length; rw [hp.length_eq]; exact hl1, fun x hx => hn x (hp.mem_iff.mp hx), hcnd, by show as'.length ≤ 9; rw [hpa.length_eq]; exact hal, fun x hx => ⟨(hA x (hpa.mem_iff.mp hx)).1, fun y hy => hp.mem_iff.mpr ((hA x (hpa.mem_iff.mp hx)).2 y hy)⟩, h1, h2, h3, h4, h5⟩ hp hpa g3 ((k1.trans k2).trans k3)
/-- mixed names, some of them -/
theorem mixed_cut (low top : Nat) {kt : EM D} {rho : Mn.Env} {th : EM D} {l : List Str} {QD : D → Sto → Prop} (hb : Bag S b) (hlt : b < S.nx) (hl : l.length ≤ 100) (e0 : ∀ S Q, Wp (mV 0 rho) S Q ↔ Q (.ref b) S) (et : ∀ S Q, Wp (th rho) S Q ↔ Q (.lst (l.map .str)) S)
    (ek : ∀ (S1 : Sto) (Q : D → Sto → Prop), Bag S1 b → (∀ (v : Nat) S2, low ≤ v → v ≤ top → Bag S2 b → Kp b S1 S2 → Q (.int (v : Nat)) S2) → Wp (kt rho) S1 Q) (fin : ∀ (l' : List Str) S', (l'.length ≤ l.length ∧ min low l.length ≤ l'.length ∧ l'.length ≤ top) → (∀ x ∈ l', x ∈ l) → (l.Nodup → l'.Nodup) → Bag S' b → Kp b S S' → QD (.lst (l'.map .str)) S') :
    Wp (mSl (mFn P_law_mixed.length d_law_mixed (mCons (mV 0) (mCons th mNil))) (fun _ => Mn.ret none) (mPart kt) rho) S QD := by
  rw [wp_mSl, wp_mFn, wp_mCons, e0, wp_mCons, et, wp_mNil]
  refine mixed_strs hb hlt rfl hl fun cs n1 S1 hp ho1 hn1 hn1' g1 k1 => ?_
  rw [wp_ret, wp_mPart]
  refine ek S1 _ g1 fun v S2 hlow htop g2 k2 => ?_
  have hnb : n1 ≠ b := fun e => by rw [e] at hn1; exact absurd hlt (Nat.not_lt_of_le hn1)
  have ho2 : S2.ob n1 = some (.lst (cs.map .str)) := (k2.2 n1 hnb hn1').trans ho1
  rw [wp_asI]
  refine Wp.to (show slM (.ref n1) none (some (v : Int)) S2 = some (.lst ((cs.take v).map .str), S2) by unfold slM; simp only [ho2]; rw [cut_map, cut_hi]) ?_
  exact fin (cs.take v) S2 (by rw [List.length_take]; have := hp.length_eq; omega) (fun x hx => hp.mem_iff.mp (List.mem_of_mem_take hx)) (fun h => (List.take_sublist _ _).nodup (hp.nodup_iff.mpr h)) g2 (k1.trans k2)
theorem ext_wp {n : Nat} {ds es : List D} (h : S.ob n = some (.lst ds)) (hl : ds.length + es.length ≤ 1000) : Wp (extM (.ref n) [.lst es]) S Q ↔ Q .non (S.set n (.lst (ds ++ es))) := wp_some (by
  unfold extM itemsL
  simp only [h]
  exact if_pos (limP (by omega)))
theorem ni_strs {n : Nat} {c : Str} {l : List Str} (h : S.ob n = some (.lst (l.map .str))) (hc : Sm c) (hl : ∀ x ∈ l, Sm x) : Wp (niM (.str c) (.ref n)) S Q ↔ Q (.bl (!decide (c ∈ l))) S := by
  refine wp_some ?_
  have h1 : pds S (.str c) = some (.str c) := by show pdT (.str c) = _; rw [pdT, if_pos hc.1]
  have h2 : pds S (.ref n) = some (.list (l.map PyData.str)) := by unfold pds; simp only [h]; rw [pdL_strs hl]; rfl
  unfold niM inL
  simp only [h1, h2]
  rw [if_pos (show (PyData.str c).depth ≤ 100 by rw [PyData.depth]; omega), any_str]; rfl
theorem depth_strs : ∀ l : List Str, PyData.depthAll (l.map PyData.str) = 0
  | [] => rfl
  | x :: l => by rw [List.map_cons, PyData.depthAll, depth_strs l]; rfl
def NestAt (P : List (Option Nat)) (nm : List Str) (x : Atom) (k : Nat) : Prop := ∀ c, c ∈ x.cs ↔ ∃ i, Anc P i k ∧ nm[i]? = some c
def endD (p : Str × Nat) : D := .tup [.str p.1, .int (p.2 : Nat)]
/-- what is known of a nested question -/
structure Nst (q : Qu) : Prop where
  nest : ∀ a ∈ q.atoms, ∀ x ∈ a.cs, ∀ y ∈ a.cs, (∀ z ∈ q.atoms, x ∈ z.cs → y ∈ z.cs) ∨ ∀ z ∈ q.atoms, y ∈ z.cs → x ∈ z.cs
  cov : ∀ c ∈ q.cols, ∃ a ∈ q.atoms, c ∈ a.cs
  nd : ∀ a ∈ q.atoms, a.cs.Nodup
  ne : ∀ a ∈ q.atoms, a.cs ≠ []
  tn : (q.atoms.map Atom.t).Nodup
  tt : ∀ a ∈ q.atoms, a.t ∈ (["r", "s", "t", "u", "v", "w", "p", "q7"] : List Str)
theorem leaf_above {P : List (Option Nat)} (hF : Fo P) : ∀ (n k : Nat), P.length - k ≤ n → k < P.length → ∃ j, j < P.length ∧ some j ∉ P ∧ Anc P k j
  | n, k, hn, hk => by
    by_cases h : some k ∈ P
    · obtain ⟨i, hi⟩ := List.mem_iff_getElem?.mp h
      have hlt : k < i := hF i k hi
      have hiP : i < P.length := (List.getElem?_eq_some_iff.mp hi).1
      match n with
      | 0 => omega
      | n + 1 =>
        obtain ⟨j, h1, h2, h3⟩ := leaf_above hF n i (by omega) hiP
        exact ⟨j, h1, h2, Anc.trans (.step hi (.refl _)) h3⟩
    · exact ⟨k, hk, h, .refl _⟩
theorem nst_of {q : Qu} {P : List (Option Nat)} {nm : List Str} {as : List Atom} (hnd : nm.Nodup) (hF : Fo P) (hPl : P.length = nm.length) (hc : q.cols.Perm nm) (ha : q.atoms.Perm as) (hA : ∀ x ∈ as, ∃ k, k < nm.length ∧ NestAt P nm x k) (hN : ∀ x ∈ as, x.cs.Nodup) (hL : ∀ j, j < P.length → some j ∉ P → ∃ x ∈ as, NestAt P nm x j)
    (ht : (as.map Atom.t).Nodup) (hts : ∀ x ∈ as, x.t ∈ (["r", "s", "t", "u", "v", "w", "p", "q7"] : List Str)) : Nst q := by
  have uniq : ∀ {i j : Nat} {c : Str}, nm[i]? = some c → nm[j]? = some c → i = j := fun {i j c} h1 h2 => (List.getElem?_inj (List.getElem?_eq_some_iff.mp h1).1 hnd).mp (h1.trans h2.symm)
  have mono : ∀ {x y : Str} {i j : Nat}, nm[i]? = some x → nm[j]? = some y → Anc P i j → ∀ z ∈ q.atoms, y ∈ z.cs → x ∈ z.cs := fun {x y i j} h1 h2 g z hz hy => by
    obtain ⟨k, _, hk⟩ := hA z (ha.mem_iff.mp hz)
    obtain ⟨j', g2, e⟩ := (hk y).mp hy
    obtain rfl := uniq h2 e
    exact (hk x).mpr ⟨i, g.trans g2, h1⟩
  refine ⟨fun a hm x hx y hy => ?_, fun c hcc => ?_, fun a hm => hN a (ha.mem_iff.mp hm), fun a hm e => ?_, ?_, fun a hm => hts a (ha.mem_iff.mp hm)⟩
  · obtain ⟨k, _, hk⟩ := hA a (ha.mem_iff.mp hm)
    obtain ⟨i, gi, ei⟩ := (hk x).mp hx
    obtain ⟨j, gj, ej⟩ := (hk y).mp hy
    rcases gi.linear gj with g | g
    · exact .inr (mono ei ej g)
    · exact .inl (mono ej ei g)
  · obtain ⟨i, hi⟩ := List.mem_iff_getElem?.mp (hc.mem_iff.mp hcc)
    have hlt := (List.getElem?_eq_some_iff.mp hi).1
    obtain ⟨j, h1, h2, h3⟩ := leaf_above hF _ i (Nat.le_refl _) (by omega)
    obtain ⟨x, hx, hk⟩ := hL j h1 h2
    exact ⟨x, ha.mem_iff.mpr hx, (hk c).mpr ⟨i, h3, hi⟩⟩
  · obtain ⟨k, hlt, hk⟩ := hA a (ha.mem_iff.mp hm)
    have := (hk nm[k]).mpr ⟨k, .refl _, List.getElem?_eq_getElem hlt⟩
    rw [e] at this
    cases this
  · exact (ha.map Atom.t).nodup_iff.mpr ht
theorem nested_spec {m : Nat} (hm0 : 0 < m) (hm1 : m ≤ 6) (hb : Bag S b) (hlt : b < S.nx) (fin : ∀ q S', OkQ q → q.cols.length ≤ m → Nst q → Bag S' b → Kp b S S' → Q (qD q) S') :
    Wp (if [D.ref b, D.int (m : Nat)].length = P_law_nested_question.length then d_law_nested_question [.ref b, .int (m : Nat)] else fail) S Q := by
  rw [if_pos (show [D.ref b, D.int (m : Nat)].length = P_law_nested_question.length from rfl)]
  unfold d_law_nested_question
  rw [wp_def]
  rw [show startR N_law_nested_question.length [D.ref b, D.int (m : Nat)] = [some (.ref b), some (.int (m : Nat)), none, none, none, none, none, none, none, none, none, none] from rfl]
  unfold b_law_nested_question
  have ml : ∀ (l : List D) (S : Sto) (Q : D → Sto → Prop), l.length ≤ 1000000 → (Wp (mkLst l) S Q ↔ Q (.lst l) S) := fun l S Q h => wp_mkLst h
  refine wp_seq (R := fun r S1 => ∃ nm : List Str, r = [some (.ref b), some (.int (m : Nat)), some (.lst (nm.map .str)), none, none, none, none, none, none, none, none, none] ∧ (nm.length ≤ 6 ∧ 1 ≤ nm.length ∧ nm.length ≤ m) ∧ (∀ x ∈ nm, Sm x) ∧ nm.Nodup ∧ Bag S1 b ∧ Kp b S S1) ?_ ?_
  · rw [wp_mSet]
    refine mixed_cut 1 m (l := ["a", "b", "c", "d", "x1", "y"]) hb hlt (by decide) (fun S Q => by simp only [wp_mV0]) (fun S Q => by
      simp only [wp_mLst, wp_mCons, wp_mNil, wp_mC]
      exact ml _ _ _ (by simp)) (fun S1 Q g k => ?_) fun l' S1 hl hm hnd g k => ⟨rfl, l', rfl, hl, fun x hx => sm_names x (hm x hx), hnd (by decide +kernel), g, k⟩
    simp only [wp_mBin, wp_mC, wp_mFn, wp_mCons, wp_mNil, wp_mVs, wp_mV0]
    refine take_fn g (by omega) (by omega) fun v S2 a c g2 k2 => ?_
    obtain ⟨w, rfl⟩ := Int.eq_ofNat_of_zero_le a
    rw [wp_addI, show (1 : Int) + (w : Nat) = ((1 + w : Nat) : Int) by omega]
    exact k _ S2 (by omega) (by omega) g2 k2
  rintro r S1 ⟨nm, rfl, ⟨hnl, hnl1, hnm⟩, hns, hnd, g1, k1⟩
  have lt1 : b < S1.nx := Nat.lt_of_lt_of_le hlt k1.1
  -- the forest
  refine wp_seq (R := fun r S2 => ∃ (P : List (Option Nat)) (np : Nat), r = [some (.ref b), some (.int (m : Nat)), some (.lst (nm.map .str)), some (.ref np), none, none, none, none, none, none, none, none] ∧ P.length = nm.length ∧ Fo P ∧ S2.ob np = some (.lst (P.map parD)) ∧ np ≠ b ∧ np < S2.nx ∧ Bag S2 b ∧ Kp b S1 S2) ?_ ?_
  · simp only [wp_mSet, wp_mFn, wp_mCons, wp_mNil, wp_mCall, wp_mVs, wp_mV0, wp_lenL, List.length_map]
    exact forest_spec g1 lt1 hnl fun P n S2 h1 h2 h3 h4 h5 g k => ⟨trivial, P, n, rfl, h1, h2, h3, fun e => by rw [e] at h4; exact absurd lt1 (Nat.not_lt_of_le h4), h5, g, k⟩
  rintro r S2 ⟨P, np, rfl, hPl, hF, hop, hpb, hpn, g2, k2⟩
  have lt2 : b < S2.nx := Nat.lt_of_lt_of_le lt1 k2.1
  -- the ends
  refine wp_seq (R := fun r S3 => ∃ x5, r = [some (.ref b), some (.int (m : Nat)), some (.lst (nm.map .str)), some (.ref np), some (.ref S2.nx), x5, none, none, none, none, none, none] ∧ (∃ es : List (Str × Nat), es.length ≤ 6 ∧ (∀ x ∈ es, Sm x.1 ∧ x.2 < nm.length) ∧ (∀ j, j < P.length → some j ∉ P → ∃ x ∈ es, x.2 = j) ∧ S3.ob S2.nx = some (.lst (es.map endD))) ∧ Bag S3 b ∧ Kp b S2 S3 ∧ S2.nx < S3.nx) ?_ ?_
  · have rd : rngD 0 nm.length = (List.range nm.length).map fun k : Nat => D.int (k : Nat) := by unfold rngD; exact List.map_congr_left fun k _ => by simp
    have pp : ∃ ps, pdL (P.map parD) = some ps := by
      clear hop hF hPl
      induction P with
      | nil => exact ⟨_, rfl⟩
      | cons o P ih =>
        obtain ⟨ps, hp⟩ := ih
        cases o with
        | none => exact ⟨.none :: ps, by rw [List.map_cons, pdL, hp]; rfl⟩
        | some j => exact ⟨.int j :: ps, by rw [List.map_cons, pdL, hp]; rfl⟩
    obtain ⟨ps, hps⟩ := pp
    have hin : ∀ k : Nat, some k ∉ P → (ps.any fun z => PyData.eqv z (.int (k : Nat))) = false := by
      clear hop hF hPl
      intro k
      induction P generalizing ps with
      | nil => intro _; rw [List.map_nil, pdL] at hps; cases hps; rfl
      | cons o P ih =>
        intro hk
        rw [List.mem_cons, not_or] at hk
        cases hp : pdL (P.map parD) with
        | none => cases o <;> (rw [List.map_cons, pdL, hp] at hps; cases hps)
        | some qs =>
          cases o with
          | none => rw [List.map_cons, pdL, hp] at hps; cases hps; rw [List.any_cons, ih _ hp hk.2]; rfl
          | some j =>
            rw [List.map_cons, pdL, hp] at hps; cases hps
            rw [List.any_cons, ih _ hp hk.2]
            have : j ≠ k := fun e => hk.1 (by rw [e])
            show (PyData.eqv (.int (j : Nat)) (.int (k : Nat)) || false) = false
            rw [PyData.eqv]
            simp; omega
    have ni : ∀ (k : Nat) (Q : D → Sto → Prop), Wp (niM (.int (k : Nat)) (.ref np)) S2 Q ↔ Q (.bl (!(ps.any fun z => PyData.eqv z (.int (k : Nat))))) S2 := fun k Q => by
      refine wp_some ?_
      have h1 : pds S2 (.int (k : Nat)) = some (.int (k : Nat)) := rfl
      have h2 : pds S2 (.ref np) = some (.list ps) := by unfold pds; simp only [hop]; rw [hps]; rfl
      unfold niM inL
      simp only [h1, h2]
      rw [if_pos (show (PyData.int (k : Nat)).depth ≤ 100 by rw [PyData.depth]; omega)]; rfl
    have mt : ∀ (a c : D) (S : Sto) (Q : D → Sto → Prop), Wp (mkTup [a, c]) S Q ↔ Q (.tup [a, c]) S := fun a c S Q => wp_mkTup (by simp)
    have wN : ∀ {i : EM Src} {own : List Nat} {g : GM} {t : EM Bool} {e : EM D} {rho : Mn.Env} {S : Sto} {Q : D → Sto → Prop}, Wp (mLcN i own g t e rho) S Q ↔ Wp (i rho) S fun src S1 => Wp (lcGo src g t e (wipeR rho own) src.ds) S1 fun r S2 => Wp (fun S => if r.length ≤ lim then some (D.ref S.nx, S.new (.lst r)) else none) S2 Q := by
      intro i own g t e rho S Q
      unfold mLcN
      simp only [wp_bnd]
    rw [wp_mSet, wN, wp_mIR]
    simp only [wp_mCons, wp_mNil, wp_mCall, wp_mVs, wp_mV0, wp_lenL, List.length_map]
    rw [rng_src (by omega) (by omega), Int.toNat_natCast, rd]
    have := lc_any (S := S2) (g := gV 5) (rho := wipeR [some (.ref b), some (.int (m : Nat)), some (.lst (nm.map .str)), some (.ref np), none, none, none, none, none, none, none, none] [5]) (mt := mB (mBin niM (mV 5) (mV 3))) (me := mTup (mCons (mC (.str "has")) (mCons (mV 5) mNil))) (src := ⟨(List.range nm.length).map fun k : Nat => D.int (k : Nat), []⟩) (t := fun k : Nat => !(ps.any fun z => PyData.eqv z (.int (k : Nat)))) (f := fun k : Nat => endD ("has", k)) (c := fun k : Nat => D.int (k : Nat)) srcOk_nil (l := List.range nm.length) fun k hk => ⟨_, rfl, tr_of (by
        simp only [wp_mB, wp_mBin, wipeR, List.set_cons_succ, List.set_cons_zero, wp_mVs, wp_mV0, ni, wp_asB]
        exact ⟨trivial, trivial⟩), fun _ => eq_of (by
        simp only [wp_mTup, wp_mCons, wp_mNil, wp_mC, wipeR, List.set_cons_succ, List.set_cons_zero, wp_mVs, wp_mV0, mt]
        exact ⟨rfl, trivial⟩)⟩
    rw [wp_some this]
    have hfl : ((List.range nm.length).filter fun k : Nat => !(ps.any fun z => PyData.eqv z (.int (k : Nat)))).length ≤ 6 := Nat.le_trans (List.length_filter_le _ _) (by rw [List.length_range]; exact hnl)
    refine Wp.to (if_pos (limP (by rw [List.length_map]; omega))) ?_
    refine ⟨trivial, none, rfl, ⟨((List.range nm.length).filter fun k : Nat => !(ps.any fun z => PyData.eqv z (.int (k : Nat)))).map fun k => (("has" : Str), k), by rw [List.length_map]; exact hfl, fun x hx => ?_, fun j hj hjP => ⟨("has", j), List.mem_map.mpr ⟨j, List.mem_filter.mpr ⟨List.mem_range.mpr (by omega), by rw [hin j hjP]; rfl⟩, rfl⟩, rfl⟩, by rw [Sto.new_ob, if_pos rfl, List.map_map]; rfl⟩, g2.new lt2, Kp.refl.new, Nat.lt_succ_self _⟩
    obtain ⟨k, hk, rfl⟩ := List.mem_map.mp hx
    exact ⟨sm_has, List.mem_range.mp (List.mem_filter.mp hk).1⟩
  rintro r S3 ⟨x5, rfl, ⟨es, hel, hes, hlf, hoe⟩, g3, k3, hx3⟩
  have neb : S2.nx ≠ b := Nat.ne_of_gt lt2
  have npe : np ≠ S2.nx := Nat.ne_of_lt hpn
  have hop3 : S3.ob np = some (.lst (P.map parD)) := (k3.2 np hpb hpn).trans hop
  -- more ends
  refine wp_seq (R := fun r S4 => (∃ x5 x6, r = [some (.ref b), some (.int (m : Nat)), some (.lst (nm.map .str)), some (.ref np), some (.ref S2.nx), x5, x6, none, none, none, none, none]) ∧ (∃ es4 : List (Str × Nat), es4.length ≤ 100 ∧ (∀ x ∈ es4, Sm x.1 ∧ x.2 < nm.length) ∧ es <+: es4 ∧ S4.ob S2.nx = some (.lst (es4.map endD))) ∧ S4.ob np = some (.lst (P.map parD)) ∧ Bag S4 b ∧ Kp b S2 S4 ∧ S2.nx < S4.nx) ?_ ?_
  · rw [wp_mFor, wp_mIR]
    simp only [wp_mCons, wp_mNil, wp_mCall, wp_mVs, wp_mV0, wp_lenL, List.length_map]
    rw [rng_src (by omega) (by omega), Int.toNat_natCast]
    refine Wp.mono (loop_done (src := ⟨rngD 0 nm.length, []⟩) (ds := rngD 0 nm.length) (pre := []) (g := gV 5) (I := fun done r S4 => (∃ x5 x6, r = [some (.ref b), some (.int (m : Nat)), some (.lst (nm.map .str)), some (.ref np), some (.ref S2.nx), x5, x6, none, none, none, none, none]) ∧ (∃ es4 : List (Str × Nat), es4.length ≤ 6 + 2 * done.length ∧ (∀ x ∈ es4, Sm x.1 ∧ x.2 < nm.length) ∧ es <+: es4 ∧ S4.ob S2.nx = some (.lst (es4.map endD))) ∧ S4.ob np = some (.lst (P.map parD)) ∧ Bag S4 b ∧ Kp b S2 S4 ∧ S2.nx < S4.nx) (fun _ _ _ _ => srcOk_nil) ⟨⟨_, _, rfl⟩, ⟨es, by omega, hes, List.prefix_rfl, hoe⟩, hop3, g3, k3, hx3⟩ ?_) ?_
    · rintro done d rest e r S4 ⟨⟨x5, x6, rfl⟩, ⟨es4, hel4, hes4, hpf4, hoe4⟩, hop4, g4, k4, hx4⟩
      obtain ⟨rfl, hk⟩ := rng_split e
      refine ⟨_, rfl, ?_⟩
      rw [wp_mSeq, wp_mFor, wp_mIR]
      simp only [List.set_cons_succ, List.set_cons_zero, wp_mCons, wp_mNil, wp_mFn, wp_mLst, wp_mC, wp_mV0]
      rw [ml _ _ _ (by simp)]
      refine some_fn g4 (.inl rfl) (by simp) (by simp) fun d2 S5 hd2 g5 k5 => ?_
      obtain ⟨v, hv2, rfl⟩ : ∃ v : Nat, v ≤ 2 ∧ d2 = .int (v : Nat) := by
        simp only [List.mem_cons, List.not_mem_nil, or_false] at hd2
        rcases hd2 with rfl | rfl | rfl | rfl | rfl
        · exact ⟨0, by omega, rfl⟩
        · exact ⟨0, by omega, rfl⟩
        · exact ⟨1, by omega, rfl⟩
        · exact ⟨1, by omega, rfl⟩
        · exact ⟨2, by omega, rfl⟩
      rw [rng_src (by omega) (by omega), Int.toNat_natCast]
      have hoe5 : S5.ob S2.nx = some (.lst (es4.map endD)) := (k5.2 S2.nx neb hx4).trans hoe4
      have hop5 : S5.ob np = some (.lst (P.map parD)) := (k5.2 np hpb (Nat.lt_trans hpn hx4)).trans hop4
      refine Wp.mono (loop_done (src := ⟨rngD 0 v, []⟩) (ds := rngD 0 v) (pre := []) (g := gV 6) (I := fun done2 r S6 => (∃ x6, r = [some (.ref b), some (.int (m : Nat)), some (.lst (nm.map .str)), some (.ref np), some (.ref S2.nx), some (.int (done.length : Nat)), x6, none, none, none, none, none]) ∧ (∃ es6 : List (Str × Nat), es6.length ≤ 6 + 2 * done.length + done2.length ∧ (∀ x ∈ es6, Sm x.1 ∧ x.2 < nm.length) ∧ es <+: es6 ∧ S6.ob S2.nx = some (.lst (es6.map endD))) ∧ S6.ob np = some (.lst (P.map parD)) ∧ Bag S6 b ∧ Kp b S2 S6 ∧ S2.nx < S6.nx) (fun _ _ _ _ => srcOk_nil) ⟨⟨_, rfl⟩, ⟨es4, by simp; omega, hes4, hpf4, hoe5⟩, hop5, g5, k4.trans k5, Nat.lt_of_lt_of_le hx4 k5.1⟩ ?_) ?_
      · rintro done2 d3 rest2 e2 r S6 ⟨⟨x6', rfl⟩, ⟨es6, hel6, hes6, hpf6, hoe6⟩, hop6, g6, k6, hx6⟩
        obtain ⟨rfl, hk2⟩ := rng_split e2
        refine ⟨_, rfl, ?_⟩
        rw [wp_mSeq, wp_mDrop, wp_mMet]
        simp only [List.set_cons_succ, List.set_cons_zero, wp_mVs, wp_mV0]
        refine (wp_ref (f := appM) hoe6).mpr ?_
        have mh : ∀ (S : Sto) (Q : D → Sto → Prop), Wp (mkLst [D.str "has", D.str "not", D.str "has"]) S Q ↔ Q (.lst ((["has", "not", "has"] : List Str).map .str)) S := fun S Q => wp_mkLst (by simp)
        simp only [wp_mCons, wp_mNil, wp_mTup, wp_mFn, wp_mVs, wp_mV0, wp_mLst, wp_mC, mh]
        refine some_strs g6 (by decide) (by decide) fun wd S7 hw g7 k7 => ?_
        have hoe7 : S7.ob S2.nx = some (.lst (es6.map endD)) := (k7.2 S2.nx neb hx6).trans hoe6
        have hop7 : S7.ob np = some (.lst (P.map parD)) := (k7.2 np hpb (Nat.lt_trans hpn hx6)).trans hop6
        rw [wp_mkTup (by simp), app_wp hoe7 (by rw [List.length_map]; omega)]
        simp only [wp_mNx]
        refine ⟨trivial, ⟨_, rfl⟩, ⟨es6 ++ [(wd, done.length)], by simp; omega, fun x hx => ?_, hpf6.trans (List.prefix_append _ _), by rw [ob_set, List.map_append]; rfl⟩, by rw [Sto.set_ob, if_neg npe]; exact hop7, Bag.kp (S' := S7) g7 neb, (k6.trans k7).setN (Nat.le_refl _), Nat.lt_of_lt_of_le hx6 k7.1⟩
        rcases List.mem_append.mp hx with hx | hx
        · exact hes6 x hx
        · rw [List.mem_singleton.mp hx]
          refine ⟨?_, hk⟩
          simp only [List.mem_cons, List.not_mem_nil, or_false] at hw
          rcases hw with rfl | rfl | rfl
          · exact sm_has
          · exact sm_not
          · exact sm_has
      · rintro ⟨fl, r⟩ S6 ⟨e1, ⟨x6', e2⟩, ⟨es6, hel6, hes6, hpf6, hoe6⟩, hop6, g6, k6, hx6⟩
        have e1 : fl = .nx := e1
        subst e1
        rw [List.nil_append, rngl] at hel6
        exact wp_mNx.mpr ⟨rfl, ⟨_, _, e2⟩, ⟨es6, by simp; omega, hes6, hpf6, hoe6⟩, hop6, g6, k6, hx6⟩
    · rintro ⟨fl, r⟩ S4 ⟨e1, e2, ⟨es4, hel4, hes4, hpf4, hoe4⟩, q⟩
      rw [List.nil_append, rngl] at hel4
      exact ⟨e1, e2, ⟨es4, by omega, hes4, hpf4, hoe4⟩, q⟩
  rintro r S4 ⟨⟨x5', x6', rfl⟩, ⟨es4, hel4, hes4, hpf4, hoe4⟩, hop4, g4, k4, hx4⟩
  have lt4 : b < S4.nx := Nat.lt_of_lt_of_le lt2 k4.1
  -- tables, atoms
  generalize htb : (["r", "s", "t", "u", "v", "w", "p", "q7"] : List Str) = tb at *
  have htl : tb.length = 8 := by rw [← htb]; rfl
  have hts : ∀ x ∈ tb, Sm x := by rw [← htb]; exact sm_tabs
  refine wp_seq (R := fun r S5 => ∃ (tb' : List Str) (nt na : Nat), r = [some (.ref b), some (.int (m : Nat)), some (.lst (nm.map .str)), some (.ref np), some (.ref S2.nx), x5', x6', some (.ref nt), some (.ref na), none, none, none] ∧ tb'.Perm tb ∧ S5.ob nt = some (.lst (tb'.map .str)) ∧ S5.ob na = some (.lst []) ∧ S4.nx ≤ nt ∧ nt < na ∧ na < S5.nx ∧ Bag S5 b ∧ Kp b S4 S5) ?_ ?_
  · simp only [wp_mPar, wp_mCons, wp_mNil, wp_mFn, wp_mV0, wp_mLst, wp_mC, wp_mNew]
    rw [ml _ _ _ (by simp)]
    refine mixed_strs (l := tb) g4 lt4 (by rw [← htb]; rfl) (by omega) fun tb' nt S5 hp ho hn1 hn2 g5 k5 => ?_
    refine Wp.to (show mkNew [] S5 = some (.ref S5.nx, S5.new (.lst [])) by unfold mkNew; rw [if_pos (limP (by simp))]) ?_
    rw [wp_parF]
    exact ⟨rfl, tb', nt, S5.nx, rfl, hp, by rw [Sto.new_ob, if_neg (Nat.ne_of_lt hn2)]; exact ho, by rw [Sto.new_ob, if_pos rfl], hn1, hn2, Nat.lt_succ_self _, g5.new (Nat.lt_of_lt_of_le lt4 k5.1), k5.new⟩
  rintro r S5 ⟨tb', nt, na, rfl, htp, hot, hoa, hn1, hn2, hn3, g5, k5⟩
  have ht8 : tb'.length = 8 := by rw [htp.length_eq]; exact htl
  have hoe5 : S5.ob S2.nx = some (.lst (es4.map endD)) := (k5.2 S2.nx neb hx4).trans hoe4
  have hop5 : S5.ob np = some (.lst (P.map parD)) := (k5.2 np hpb (Nat.lt_trans hpn hx4)).trans hop4
  have n1 : np ≠ na := Nat.ne_of_lt (Nat.lt_trans hpn (Nat.lt_trans hx4 (Nat.lt_of_le_of_lt hn1 hn2)))
  have n2 : S2.nx ≠ na := Nat.ne_of_lt (Nat.lt_trans hx4 (Nat.lt_of_le_of_lt hn1 hn2))
  have n3 : nt ≠ na := Nat.ne_of_lt hn2
  have nab : na ≠ b := fun e => by rw [e] at hn2; exact absurd (Nat.lt_of_lt_of_le lt4 hn1) (Nat.lt_asymm hn2)
  have ntb : nt ≠ b := fun e => by rw [e] at hn1; exact absurd lt4 (Nat.not_lt_of_le hn1)
  -- the atoms
  refine wp_seq (R := fun r S6 => (∃ x5 x9 x10, r = [some (.ref b), some (.int (m : Nat)), some (.lst (nm.map .str)), some (.ref np), some (.ref S2.nx), x5, x6', some (.ref nt), some (.ref na), x9, x10, none]) ∧ (∃ as : List Atom, as.length ≤ 8 ∧ ((∀ x ∈ as, OkA nm x ∧ x.cs.Nodup ∧ ∃ k, k < nm.length ∧ NestAt P nm x k) ∧ as.map Atom.t = tb'.take as.length ∧ ∀ i en, i < as.length → es4[i]? = some en → ∃ x ∈ as, NestAt P nm x en.2) ∧ as.length = min es4.length tb'.length ∧ S6.ob na = some (.lst (as.map atomD))) ∧ Bag S6 b ∧ Kp b S4 S6 ∧ S5.nx ≤ S6.nx) ?_ ?_
  · have src : ∀ (Q : Src → Sto → Prop), Wp (zipM [.ref S2.nx, .ref nt]) S5 Q ↔ Q ⟨pairs2 (es4.map endD) (tb'.map .str), [(S2.nx, es4.map endD)] ++ [(nt, tb'.map .str)]⟩ S5 := fun Q => wp_some (by unfold zipM srcOf; simp only [hoe5, hot])
    rw [wp_mFor, wp_bnd]
    simp only [wp_mCons, wp_mNil, wp_mVs, wp_mV0, src]
    refine Wp.mono (loop_done (src := ⟨pairs2 (es4.map endD) (tb'.map .str), [(S2.nx, es4.map endD)] ++ [(nt, tb'.map .str)]⟩) (ds := pairs2 (es4.map endD) (tb'.map .str)) (pre := []) (g := gT 2 (gsCons (gT 2 (gsCons (gV 9) (gsCons (gV 5) gsNil))) (gsCons (gV 10) gsNil))) (I := fun done r S6 => (∃ x5 x9 x10, r = [some (.ref b), some (.int (m : Nat)), some (.lst (nm.map .str)), some (.ref np), some (.ref S2.nx), x5, x6', some (.ref nt), some (.ref na), x9, x10, none]) ∧ (∃ as : List Atom, as.length = done.length ∧ ((∀ x ∈ as, OkA nm x ∧ x.cs.Nodup ∧ ∃ k, k < nm.length ∧ NestAt P nm x k) ∧ as.map Atom.t = tb'.take as.length ∧ ∀ i en, i < as.length → es4[i]? = some en → ∃ x ∈ as, NestAt P nm x en.2) ∧ S6.ob na = some (.lst (as.map atomD))) ∧ (S6.ob S2.nx = some (.lst (es4.map endD)) ∧ S6.ob nt = some (.lst (tb'.map .str)) ∧ S6.ob np = some (.lst (P.map parD))) ∧ Bag S6 b ∧ Kp b S4 S6 ∧ S5.nx ≤ S6.nx) (fun _ _ _ h p hp => by
      rcases List.mem_append.mp hp with hp | hp
      · rw [List.mem_singleton.mp hp]; exact h.2.2.1.1
      · rw [List.mem_singleton.mp hp]; exact h.2.2.1.2.1) ⟨⟨_, _, _, rfl⟩, ⟨[], rfl, ⟨(fun x h => nomatch h), rfl, fun i en h => nomatch h⟩, hoa⟩, ⟨hoe5, hot, hop5⟩, g5, k5, Nat.le_refl _⟩ ?_) ?_
    · rintro done d rest e r S6 ⟨⟨x5, x9, x10, rfl⟩, ⟨as, hal, ⟨hA, hT, hE⟩, hoa6⟩, ⟨h1, h2, h3⟩, g6, k6, hx6⟩
      have e' : pairs2 (es4.map endD) (tb'.map D.str) = done ++ d :: rest := e
      have hdl : done.length + 1 ≤ 8 := by
        have h9 := congrArg List.length e'
        unfold pairs2 at h9
        rw [List.length_map, List.length_zip, List.length_map, List.length_map, List.length_append, List.length_cons] at h9
        omega
      obtain ⟨en, tt, hie, hit, rfl⟩ : ∃ en tt, es4[as.length]? = some en ∧ tb'[as.length]? = some tt ∧ d = .tup [endD en, .str tt] := by
        have hd : (pairs2 (es4.map endD) (tb'.map D.str))[as.length]? = some d := by rw [e', hal, List.getElem?_append_right (Nat.le_refl _), Nat.sub_self]; rfl
        unfold pairs2 at hd
        rw [List.getElem?_map] at hd
        cases hz : ((es4.map endD).zip (tb'.map D.str))[as.length]? with
        | none => rw [hz] at hd; cases hd
        | some uv =>
          rw [hz] at hd
          obtain ⟨hu, hv⟩ := List.getElem?_zip_eq_some.mp hz
          rw [List.getElem?_map] at hu hv
          cases he : es4[as.length]? with
          | none => rw [he] at hu; cases hu
          | some en =>
            cases ht : tb'[as.length]? with
            | none => rw [ht] at hv; cases hv
            | some tt =>
              rw [he] at hu; rw [ht] at hv
              refine ⟨en, tt, rfl, rfl, ?_⟩
              have hu : endD en = uv.1 := by simpa using hu
              have hv : D.str tt = uv.2 := by simpa using hv
              rw [hu, hv]
              have hd : D.tup [uv.1, uv.2] = d := by simpa using hd
              exact hd.symm
      have hen : en ∈ es4 := List.mem_of_getElem? hie
      have htt : tt ∈ tb' := List.mem_of_getElem? hit
      obtain ⟨sw, hat⟩ := hes4 en hen
      refine ⟨_, rfl, ?_⟩
      have lt6 : b < S6.nx := Nat.lt_of_lt_of_le lt4 k6.1
      rw [wp_mSeq, wp_mDrop, wp_mMet]
      simp only [List.set_cons_succ, List.set_cons_zero, wp_mVs, wp_mV0]
      refine (wp_ref (f := appM) hoa6).mpr ?_
      simp only [wp_mCons, wp_mNil, wp_mTup, wp_mVs, wp_mV0, wp_mFn]
      refine columns_spec g6 lt6 h3 hF (by omega) (by omega) hPl.symm hnd fun cs S7 hcl hcn hcs g7 k7 => ?_
      have kk : ∀ {n : Nat}, n ≠ b → n < S5.nx → S7.ob n = S6.ob n := fun {n} h h' => k7.2 n h (Nat.lt_of_lt_of_le h' hx6)
      have q1 : S2.nx < S5.nx := Nat.lt_of_lt_of_le hx4 k5.1
      have q2 : nt < S5.nx := Nat.lt_trans hn2 hn3
      have q3 : np < S5.nx := Nat.lt_trans hpn q1
      have hoa7 : S7.ob na = some (.lst (as.map atomD)) := (kk nab hn3).trans hoa6
      rw [wp_mkTup (by simp), app_wp hoa7 (by rw [List.length_map]; omega)]
      simp only [wp_mNx]
      refine ⟨trivial, ⟨_, _, _, rfl⟩, ⟨as ++ [⟨en.1, tt, cs⟩], by simp [hal], ⟨fun x hx => ?_, ?_, fun i en' hi he => ?_⟩, by rw [ob_set, List.map_append]; rfl⟩, ⟨by rw [Sto.set_ob, if_neg n2]; exact (kk neb q1).trans h1, by rw [Sto.set_ob, if_neg n3]; exact (kk ntb q2).trans h2, by rw [Sto.set_ob, if_neg n1]; exact (kk hpb q3).trans h3⟩, Bag.kp (S' := S7) g7 nab, (k6.trans k7).setN (Nat.le_of_lt (Nat.lt_of_le_of_lt hn1 hn2)), Nat.le_trans hx6 k7.1⟩
      · rcases List.mem_append.mp hx with hx | hx
        · exact hA x hx
        · rw [List.mem_singleton.mp hx]
          have hm : ∀ c ∈ cs, c ∈ nm := fun c hc => by
            obtain ⟨i, _, hi⟩ := (hcs c).mp hc
            exact List.mem_of_getElem? hi
          exact ⟨⟨⟨sw, hts _ (htp.mem_iff.mp htt), hcl, fun c hc => hns c (hm c hc)⟩, hm⟩, hcn, en.2, hat, hcs⟩
      · rw [List.map_append, hT, List.length_append]
        show _ ++ [tt] = tb'.take (as.length + 1)
        rw [List.take_add_one, hit]; rfl
      · rw [List.length_append] at hi
        by_cases hi2 : i < as.length
        · obtain ⟨x, hx, hk⟩ := hE i en' hi2 he
          exact ⟨x, List.mem_append_left _ hx, hk⟩
        · have : i = as.length := by simp at hi; omega
          rw [this, hie] at he; cases he
          exact ⟨_, List.mem_append_right _ (List.mem_singleton.mpr rfl), hcs⟩
    · rintro ⟨fl, r⟩ S6 ⟨e1, e2, ⟨as, hal, hA, hoa6⟩, _, g6, k6, hx6⟩
      rw [List.nil_append] at hal
      have : (pairs2 (es4.map endD) (tb'.map D.str)).length = min es4.length tb'.length := by
        unfold pairs2
        rw [List.length_map, List.length_zip, List.length_map, List.length_map]
      exact ⟨e1, e2, ⟨as, by omega, hA, by omega, hoa6⟩, g6, k6, hx6⟩
  rintro r S6 ⟨⟨x5'', x9, x10, rfl⟩, ⟨as, hal, ⟨hA, hT, hE⟩, hmin, hoa6⟩, g6, k6, hx6⟩
  have hL : ∀ j, j < P.length → some j ∉ P → ∃ x ∈ as, NestAt P nm x j := fun j h1 h2 => by
    obtain ⟨x, hx, rfl⟩ := hlf j h1 h2
    obtain ⟨i, hi⟩ := List.mem_iff_getElem?.mp hx
    have hil := (List.getElem?_eq_some_iff.mp hi).1
    obtain ⟨u, hu⟩ := hpf4
    have h4 : es4[i]? = some x := by rw [← hu, List.getElem?_append_left hil]; exact hi
    have := (List.getElem?_eq_some_iff.mp h4).1
    exact hE i x (by omega) h4
  have htb' : tb.Nodup := by rw [← htb]; decide +kernel
  have htn : (as.map Atom.t).Nodup := by rw [hT]; exact (List.take_sublist _ _).nodup (htp.nodup_iff.mpr htb')
  have htm : ∀ x ∈ as, x.t ∈ tb := fun x hx => by
    have : x.t ∈ as.map Atom.t := List.mem_map_of_mem hx
    rw [hT] at this
    exact htp.mem_iff.mp (List.mem_of_mem_take this)
  refine Wp.mono (finQ (kn := 2) (ka := 8) (kc := 11) (nm := nm) (as := as) (na := na) (QS := fun p S' => ∃ q, p.1 = .rt (qD q) ∧ OkQ q ∧ q.cols.length ≤ m ∧ Nst q ∧ Bag S' b ∧ Kp b S S') g6 (Nat.lt_of_lt_of_le lt4 k6.1) hnl hnl1 hns hnd hoa6 ⟨nab, Nat.lt_of_lt_of_le hn3 hx6⟩ (by omega) (fun x hx => (hA x hx).1) (fun S Q => by simp only [wp_mV0]) (fun S Q => by simp only [wp_mVs, wp_mV0]) (fun d S Q => by simp only [List.set_cons_succ, List.set_cons_zero, wp_mVs, wp_mV0]) (fun d S Q => by simp only [List.set_cons_succ, List.set_cons_zero, wp_mVs, wp_mV0]) (fun d S Q => by simp only [List.set_cons_succ, List.set_cons_zero, wp_mVs, wp_mV0])
    fun q r S' h1 h2 h3 g k => ⟨q, rfl, h1, by rw [h2.length_eq]; exact hnm, nst_of hnd hF hPl h2 h3 (fun x hx => (hA x hx).2.2) (fun x hx => (hA x hx).2.1) hL htn (fun x hx => by rw [htb]; exact htm x hx), g, (((k1.trans k2).trans k4).trans k6).trans k⟩) ?_
  rintro ⟨fl, r⟩ S8 ⟨q, e, h1, h2, h3, g, k⟩
  have e : fl = .rt (qD q) := e
  subst e
  exact wp_ret.mpr (fin q S8 h1 h2 h3 g k)
theorem alike_fn {c n : Nat} {d : D} {p : PyData} (h : OkD c n d p) (hc : c ≤ 1048576) (hn : n ≤ 64) : Wp (if [d, d].length = P_law_alike.length then d_law_alike [d, d] else fail) S Q ↔ Q (.bl true) S := by
  rw [if_pos (show [d, d].length = P_law_alike.length from rfl)]
  exact wp_some (eq_of (alike_self h hc hn))
theorem wp_neS {i j : Str} : Wp (neM (.str i) (.str j)) S Q ↔ Q (.bl (!(i == j))) S := wp_some rfl
theorem neB {x y : Bool} : Wp (neM (.bl x) (.bl y)) S Q ↔ Q (.bl (!(x == y))) S := by
  rw [wp_ne (p := .bool x) (q := .bool y) rfl rfl (Nat.zero_le _)]
  rw [PyData.eqv]
theorem at_nat {α : Type} {l : List α} {k : Nat} {x : α} (h : l[k]? = some x) : atI l ((k : Nat) : Int) = some x := by
  obtain ⟨h1, h2⟩ := List.getElem?_eq_some_iff.mp h
  unfold atI ixN
  rw [if_pos (by omega), if_pos (by omega), Int.toNat_natCast]
  exact h
end
/-! ### lots of atoms, above -/
def ixc (l : List Str) (c : Str) : Nat := l.findIdx (fun y => decide (y = c))
theorem ixc_at {l : List Str} {c : Str} (h : c ∈ l) : l[ixc l c]? = some c := by
  have hl : ixc l c < l.length := List.findIdx_lt_length_of_exists ⟨c, h, by simp⟩
  have := List.findIdx_getElem (w := hl)
  rw [List.getElem?_eq_getElem hl]
  exact congrArg some (of_decide_eq_true this)
theorem ixc_inj {l : List Str} {x y : Str} (hx : x ∈ l) (hy : y ∈ l) (e : ixc l x = ixc l y) : x = y := by
  have h1 := ixc_at hx
  rw [e, ixc_at hy] at h1
  exact (Option.some.inj h1).symm
theorem ixc_lt {l : List Str} {c : Str} (h : c ∈ l) : ixc l c < l.length := List.findIdx_lt_length_of_exists ⟨c, h, by simp⟩
theorem ixc_get {l : List Str} (nd : l.Nodup) {i : Nat} {c : Str} (h : l[i]? = some c) : ixc l c = i := by
  have h1 := ixc_at (List.mem_of_getElem? h)
  exact (List.getElem?_inj (List.getElem?_eq_some_iff.mp h1).1 nd).mp (h1.trans h.symm)
theorem mem_idx {as : List Atom} {c : Str} {i : Int} : i ∈ idx as c ↔ ∃ (k : Nat) (a : Atom), as[k]? = some a ∧ c ∈ a.cs ∧ i = (k : Int) := by
  unfold idx
  rw [List.mem_map]
  constructor
  · rintro ⟨⟨a, k⟩, h, rfl⟩
    obtain ⟨h1, h2⟩ := List.mem_filter.mp h
    exact ⟨k, a, by rw [List.mem_zipIdx_iff_getElem?] at h1; exact h1, of_decide_eq_true h2, rfl⟩
  · rintro ⟨k, a, h1, h2, rfl⟩
    exact ⟨(a, k), List.mem_filter.mpr ⟨by rw [List.mem_zipIdx_iff_getElem?]; exact h1, decide_eq_true h2⟩, rfl⟩
def Sub (q : Qu) (x y : Str) : Prop := ∀ i ∈ idx q.atoms y, i ∈ idx q.atoms x
theorem Sub.mem {q : Qu} {x y : Str} (h : Sub q x y) {a : Atom} (ha : a ∈ q.atoms) (hy : y ∈ a.cs) : x ∈ a.cs := by
  obtain ⟨k, hk⟩ := List.mem_iff_getElem?.mp ha
  obtain ⟨k', a', h1, h2, h3⟩ := mem_idx.mp (h (k : Int) (mem_idx.mpr ⟨k, a, hk, hy, rfl⟩))
  obtain rfl : k = k' := by omega
  rw [hk] at h1; cases h1
  exact h2
theorem Sub.of {q : Qu} {x y : Str} (h : ∀ a ∈ q.atoms, y ∈ a.cs → x ∈ a.cs) : Sub q x y := fun i hi => by
  obtain ⟨k, a, h1, h2, rfl⟩ := mem_idx.mp hi
  exact mem_idx.mpr ⟨k, a, h1, h a (List.mem_of_getElem? h1) h2, rfl⟩
theorem Sub.trans {q : Qu} {x y z : Str} (h : Sub q x y) (g : Sub q y z) : Sub q x z := fun i hi => h i (g i hi)
theorem Sub.anti {q : Qu} {x y : Str} (h : Sub q x y) (g : Sub q y x) : idx q.atoms x = idx q.atoms y := by
  unfold idx
  congr 1
  refine List.filter_congr fun p hp => ?_
  have hp' : p.1 ∈ q.atoms := List.mem_of_getElem? (List.mem_zipIdx_iff_getElem?.mp hp)
  by_cases hx : x ∈ p.1.cs
  · rw [decide_eq_true hx, decide_eq_true (g.mem hp' hx)]
  · rw [decide_eq_false hx, decide_eq_false fun hy => hx (h.mem hp' hy)]
def up (q : Qu) (x y : Str) : Bool := if idx q.atoms x = idx q.atoms y then decide (ixc q.cols x < ixc q.cols y) else (idx q.atoms y).all fun i => decide (i ∈ idx q.atoms x)
theorem up_iff {q : Qu} {x y : Str} : up q x y = true ↔ (idx q.atoms x = idx q.atoms y ∧ ixc q.cols x < ixc q.cols y) ∨ (idx q.atoms x ≠ idx q.atoms y ∧ Sub q x y) := by
  unfold up
  by_cases h : idx q.atoms x = idx q.atoms y
  · rw [if_pos h, decide_eq_true_eq]
    exact ⟨fun g => .inl ⟨h, g⟩, fun g => g.elim (·.2) fun g => absurd h g.1⟩
  · rw [if_neg h, List.all_eq_true]
    refine ⟨fun g => .inr ⟨h, fun i hi => of_decide_eq_true (g i hi)⟩, fun g => g.elim (fun g => absurd g.1 h) fun g i hi => decide_eq_true (g.2 i hi)⟩
theorem up_sub {q : Qu} {x y : Str} (h : up q x y = true) : Sub q x y := by
  rcases up_iff.mp h with ⟨h, _⟩ | ⟨_, h⟩
  · exact fun i hi => by rw [h]; exact hi
  · exact h
theorem up_irrefl {q : Qu} {x : Str} : up q x x = false := by
  unfold up
  rw [if_pos rfl]
  simp
theorem up_trans {q : Qu} {x y z : Str} (h : up q x y = true) (g : up q y z = true) : up q x z = true := by
  have s1 := up_sub h
  have s2 := up_sub g
  by_cases e : idx q.atoms x = idx q.atoms z
  · have s3 : Sub q z x := fun i hi => by rw [← e]; exact hi
    have e1 : idx q.atoms x = idx q.atoms y := s1.anti (s2.trans s3)
    have e2 : idx q.atoms y = idx q.atoms z := e1.symm.trans e
    rcases up_iff.mp h with ⟨_, h1⟩ | ⟨h1, _⟩
    · rcases up_iff.mp g with ⟨_, g1⟩ | ⟨g1, _⟩
      · exact up_iff.mpr (.inl ⟨e, Nat.lt_trans h1 g1⟩)
      · exact absurd e2 g1
    · exact absurd e1 h1
  · exact up_iff.mpr (.inr ⟨e, s1.trans s2⟩)
theorem up_asymm {q : Qu} {x y : Str} (h : up q x y = true) : up q y x = false := by
  cases g : up q y x with
  | false => rfl
  | true => have := up_trans h g; rw [up_irrefl] at this; cases this
/-- two columns of one atom -/
theorem chain {q : Qu} (hn : Nst q) {a : Atom} (ha : a ∈ q.atoms) {x y : Str} (hx : x ∈ a.cs) (hy : y ∈ a.cs) (hxc : x ∈ q.cols) (hyc : y ∈ q.cols) (ne : x ≠ y) : up q x y = true ∨ up q y x = true := by
  by_cases e : idx q.atoms x = idx q.atoms y
  · rcases Nat.lt_trichotomy (ixc q.cols x) (ixc q.cols y) with h | h | h
    · exact .inl (up_iff.mpr (.inl ⟨e, h⟩))
    · exact absurd (ixc_inj hxc hyc h) ne
    · exact .inr (up_iff.mpr (.inl ⟨e.symm, h⟩))
  · rcases hn.nest a ha x hx y hy with h | h
    · exact .inr (up_iff.mpr (.inr ⟨fun z => e z.symm, Sub.of h⟩))
    · exact .inl (up_iff.mpr (.inr ⟨e, Sub.of h⟩))
def above (q : Qu) (c : Str) : List Str := q.cols.filter fun x => up q x c
def kk (q : Qu) (c : Str) : Nat := (above q c).length
theorem mem_above {q : Qu} {x c : Str} : x ∈ above q c ↔ x ∈ q.cols ∧ up q x c = true := List.mem_filter
theorem filter_le {α : Type} {p r : α → Bool} (h : ∀ x, p x = true → r x = true) : ∀ l : List α, (l.filter p).length ≤ (l.filter r).length
  | [] => Nat.le_refl _
  | y :: l => by
    have ih := filter_le h l
    rw [List.filter_cons, List.filter_cons]
    cases hp : p y with
    | true => rw [if_pos rfl, if_pos (h y hp), List.length_cons, List.length_cons]; omega
    | false =>
      rw [if_neg (by decide)]
      split
      · rw [List.length_cons]; omega
      · exact ih
theorem filter_lt {α : Type} {p r : α → Bool} (h : ∀ x, p x = true → r x = true) : ∀ {l : List α} {x : α}, x ∈ l → p x = false → r x = true → (l.filter p).length < (l.filter r).length
  | y :: l, x, hx, h1, h2 => by
    have le := filter_le h l
    rw [List.filter_cons, List.filter_cons]
    rcases List.mem_cons.mp hx with e | hx
    · subst e
      rw [if_neg (by rw [h1]; decide), if_pos h2, List.length_cons]; omega
    · have ih := filter_lt h hx h1 h2
      cases hp : p y with
      | true => rw [if_pos rfl, if_pos (h y hp), List.length_cons, List.length_cons]; omega
      | false =>
        rw [if_neg (by decide)]
        split
        · rw [List.length_cons]; omega
        · exact ih
theorem kk_lt {q : Qu} {x y : Str} (hx : x ∈ q.cols) (h : up q x y = true) : kk q x < kk q y :=
  filter_lt (fun z hz => up_trans hz h) hx up_irrefl h
theorem kk_le {q : Qu} {c : Str} (hc : c ∈ q.cols) : kk q c < q.cols.length := by
  have := filter_lt (p := fun x => up q x c) (r := fun _ => true) (fun _ _ => rfl) hc up_irrefl rfl
  rw [List.filter_eq_self.mpr (fun _ _ => rfl)] at this
  exact this
theorem above_above {q : Qu} {c x : Str} (h : x ∈ above q c) : (above q c).filter (fun z => up q z x) = above q x := by
  unfold above
  rw [List.filter_filter]
  refine List.filter_congr fun z hz => ?_
  cases g : up q z x with
  | false => rfl
  | true => rw [up_trans g (mem_above.mp h).2]; rfl
theorem share {q : Qu} (hn : Nst q) {c x y : Str} (hc : c ∈ q.cols) (hx : x ∈ above q c) (hy : y ∈ above q c) (ne : x ≠ y) : up q x y = true ∨ up q y x = true := by
  obtain ⟨a, ha, hca⟩ := hn.cov c hc
  obtain ⟨h1, h2⟩ := mem_above.mp hx
  obtain ⟨h3, h4⟩ := mem_above.mp hy
  exact chain hn ha ((up_sub h2).mem ha hca) ((up_sub h4).mem ha hca) h1 h3 ne
/-- sorted by how many stand above -/
def sortK (q : Qu) (l : List Str) : List Str := l.mergeSort fun x y => decide (kk q x ≤ kk q y)
theorem sortK_perm {q : Qu} {l : List Str} : (sortK q l).Perm l := List.mergeSort_perm _ _
theorem sortK_pw {q : Qu} {l : List Str} : (sortK q l).Pairwise fun x y => kk q x ≤ kk q y :=
  (List.pairwise_mergeSort (le := fun x y => decide (kk q x ≤ kk q y)) (fun a b c h1 h2 => by simp at *; omega) (fun a b => by simp; omega) l).imp fun h => of_decide_eq_true h
/-- a chain: any two are one above the other -/
def Chn (q : Qu) (l : List Str) : Prop := (∀ x ∈ l, x ∈ q.cols) ∧ ∀ x ∈ l, ∀ y ∈ l, x ≠ y → up q x y = true ∨ up q y x = true
theorem Chn.inj {q : Qu} {l : List Str} (h : Chn q l) {x y : Str} (hx : x ∈ l) (hy : y ∈ l) (e : kk q x = kk q y) : x = y := by
  by_cases ne : x = y
  · exact ne
  · rcases h.2 x hx y hy ne with g | g
    · have := kk_lt (h.1 x hx) g; omega
    · have := kk_lt (h.1 y hy) g; omega
theorem Chn.up_of {q : Qu} {l : List Str} (h : Chn q l) {x y : Str} (hx : x ∈ l) (hy : y ∈ l) (e : kk q x ≤ kk q y) (ne : x ≠ y) : up q x y = true := by
  rcases h.2 x hx y hy ne with g | g
  · exact g
  · have := kk_lt (h.1 y hy) g; omega
theorem sort_one {q : Qu} {l L : List Str} (hc : Chn q l) (hp : L.Perm l) (hw : L.Pairwise fun x y => kk q x ≤ kk q y) : L = sortK q l :=
  List.Perm.eq_of_pairwise (le := fun x y => kk q x ≤ kk q y) (fun a b ha hb h1 h2 => hc.inj (hp.mem_iff.mp ha) (sortK_perm.mem_iff.mp hb) (Nat.le_antisymm h1 h2)) hw sortK_pw (hp.trans sortK_perm.symm)
theorem chn_above {q : Qu} (hn : Nst q) {c : Str} (hc : c ∈ q.cols) : Chn q (above q c) := ⟨fun x hx => (mem_above.mp hx).1, fun x hx y hy ne => share hn hc hx hy ne⟩
theorem chn_atom {q : Qu} (hq : OkQ q) (hn : Nst q) {a : Atom} (ha : a ∈ q.atoms) : Chn q a.cs := ⟨(hq.ok a ha).2, fun x hx y hy ne => chain hn ha hx hy ((hq.ok a ha).2 x hx) ((hq.ok a ha).2 y hy) ne⟩
def path (q : Qu) (c : Str) : List Str := sortK q (above q c) ++ [c]
def par (q : Qu) (c : Str) : Option Str := (sortK q (above q c)).getLast?
theorem par_up {q : Qu} {c p : Str} (h : par q c = some p) : p ∈ q.cols ∧ up q p c = true :=
  mem_above.mp (sortK_perm.mem_iff.mp (List.mem_of_getLast? h))
def ch (q : Qu) (o : Option Str) : List Str := q.cols.filter fun x => decide (par q x = o)
theorem mem_ch {q : Qu} {o : Option Str} {x : Str} : x ∈ ch q o ↔ x ∈ q.cols ∧ par q x = o := by
  unfold ch
  rw [List.mem_filter, decide_eq_true_eq]
theorem ch_len {q : Qu} (h : OkQ q) {o : Option Str} : (ch q o).length ≤ 6 := Nat.le_trans (List.length_filter_le _ _) h.c
theorem ch_kk {q : Qu} {c x : Str} (h : x ∈ ch q (some c)) : kk q c < kk q x := by
  obtain ⟨h1, h2⟩ := par_up (mem_ch.mp h).2
  exact kk_lt h1 h2
theorem par_none {q : Qu} {c : Str} : par q c = none ↔ above q c = [] := by
  unfold par
  rw [List.getLast?_eq_none_iff]
  constructor
  · intro h
    have := (sortK_perm (q := q) (l := above q c)).length_eq
    rw [h] at this
    exact List.eq_nil_of_length_eq_zero this.symm
  · intro h
    rw [h]
    exact List.mergeSort_nil
theorem least {q : Qu} : ∀ (n : Nat) (c : Str), c ∈ q.cols → kk q c ≤ n → ∃ x, x ∈ ch q none
  | n, c, hc, hk => by
    cases ha : above q c with
    | nil => exact ⟨c, mem_ch.mpr ⟨hc, par_none.mpr ha⟩⟩
    | cons x l =>
      obtain ⟨h1, h2⟩ := mem_above.mp (show x ∈ above q c by rw [ha]; exact List.mem_cons_self)
      have lt := kk_lt h1 h2
      match n with
      | 0 => omega
      | n + 1 => exact least n x h1 (by omega)
theorem roots_ne {q : Qu} (h : OkQ q) : ch q none ≠ [] := fun e => by
  have h1 := h.c1
  cases hc : q.cols with
  | nil => rw [hc] at h1; simp at h1
  | cons c l =>
    obtain ⟨x, hx⟩ := least (q := q) _ c (by rw [hc]; exact List.mem_cons_self) (Nat.le_refl _)
    rw [e] at hx
    cases hx
def way (q : Qu) (a : Atom) : List Str := sortK q a.cs
theorem way_ne {q : Qu} (hn : Nst q) {a : Atom} (ha : a ∈ q.atoms) : way q a ≠ [] := fun e => by
  have := (sortK_perm (q := q) (l := a.cs)).length_eq
  rw [show sortK q a.cs = [] from e] at this
  exact hn.ne a ha (List.eq_nil_of_length_eq_zero this.symm)
theorem mem_way {q : Qu} {a : Atom} {x : Str} : x ∈ way q a ↔ x ∈ a.cs := sortK_perm.mem_iff
theorem way_len {q : Qu} {a : Atom} : (way q a).length = a.cs.length := sortK_perm.length_eq
/-- the way of an atom is the path of its end -/
theorem way_path {q : Qu} (hq : OkQ q) (hn : Nst q) {a : Atom} (ha : a ∈ q.atoms) {e : Str} (he : (way q a).getLast? = some e) : path q e = way q a := by
  obtain ⟨i, hi⟩ := List.getLast?_eq_some_iff.mp he
  have hc := chn_atom hq hn ha
  have hew : e ∈ way q a := by rw [hi]; simp
  have hea := mem_way.mp hew
  have nd : (way q a).Nodup := (sortK_perm).nodup_iff.mpr (hn.nd a ha)
  have pw : (way q a).Pairwise fun x y => kk q x ≤ kk q y := sortK_pw
  rw [hi] at nd pw
  rw [List.pairwise_append] at pw
  obtain ⟨p1, _, p2⟩ := pw
  rw [List.nodup_append] at nd
  obtain ⟨n1, _, n2⟩ := nd
  have hm : ∀ x, x ∈ i ↔ x ∈ above q e := fun x => by
    constructor
    · intro hx
      have hxa := mem_way.mp (show x ∈ way q a by rw [hi]; exact List.mem_append_left _ hx)
      have ne : x ≠ e := n2 x hx e (List.mem_singleton.mpr rfl)
      exact mem_above.mpr ⟨hc.1 x hxa, hc.up_of hxa hea (p2 x hx e (List.mem_singleton.mpr rfl)) ne⟩
    · intro hx
      obtain ⟨h1, h2⟩ := mem_above.mp hx
      have hxw := (mem_way (q := q) (a := a)).mpr ((up_sub h2).mem ha hea)
      rw [hi] at hxw
      rcases List.mem_append.mp hxw with h | h
      · exact h
      · rw [List.mem_singleton.mp h, up_irrefl] at h2
        cases h2
  have hnd : (above q e).Nodup := (List.filter_sublist).nodup hq.nd
  have hp : i.Perm (above q e) := (List.perm_ext_iff_of_nodup n1 hnd).mpr hm
  unfold path
  rw [hi, sort_one (chn_above hn (hc.1 e hea)) hp p1]
/-! ### atoms of a column that hold, end -/
def zi (q : Qu) (c : Str) : List (Atom × Nat) := q.atoms.zipIdx.filter fun p => decide (c ∈ p.1.cs)
theorem idx_zi {q : Qu} {c : Str} : idx q.atoms c = (zi q c).map fun p => (p.2 : Int) := rfl
theorem zi_mem {q : Qu} {c : Str} {p : Atom × Nat} (h : p ∈ zi q c) : q.atoms[p.2]? = some p.1 ∧ c ∈ p.1.cs := by
  obtain ⟨h1, h2⟩ := List.mem_filter.mp h
  exact ⟨List.mem_zipIdx_iff_getElem?.mp h1, of_decide_eq_true h2⟩
theorem zi_len {q : Qu} (h : OkQ q) {c : Str} : (zi q c).length ≤ 9 := Nat.le_trans (List.length_filter_le _ _) (by rw [List.length_zipIdx]; exact h.a)
def thr (q : Qu) (c : Str) : List (Atom × Nat) := (zi q c).filter fun p => p.1.w == ("has" : Str)
def isEnd (q : Qu) (c : Str) (a : Atom) : Bool := decide ((way q a).getLast? = some c)
def eds (q : Qu) (c : Str) : List (Atom × Nat) := q.atoms.zipIdx.filter fun p => p.1.w == ("not" : Str) && isEnd q c p.1
theorem eds_zi {q : Qu} {c : Str} : ((zi q c).filter fun p => p.1.w == ("not" : Str)).filter (fun p => isEnd q c p.1) = eds q c := by
  unfold zi eds
  rw [List.filter_filter, List.filter_filter]
  refine List.filter_congr fun p hp => ?_
  cases h : isEnd q c p.1 with
  | false => simp
  | true =>
    have := mem_way.mp (List.mem_of_getLast? (of_decide_eq_true h))
    simp [this]
theorem thr_len {q : Qu} (h : OkQ q) {c : Str} : (thr q c).length ≤ 9 := Nat.le_trans (List.length_filter_le _ _) (zi_len h)
theorem eds_len {q : Qu} (h : OkQ q) {c : Str} : (eds q c).length ≤ 9 := Nat.le_trans (List.length_filter_le _ _) (by rw [List.length_zipIdx]; exact h.a)
/-! ### factors -/
def mx (l : List Nat) : Nat := l.foldr max 0
def cf (q : Qu) : Nat → Str → Nat
  | 0, _ => 0
  | n + 1, c => (thr q c).length + (eds q c).length + (ch q (some c)).length * mx ((ch q (some c)).map (cf q n))
theorem mx_le {l : List Nat} {B : Nat} (h : ∀ x ∈ l, x ≤ B) : mx l ≤ B := by
  induction l with
  | nil => exact Nat.zero_le _
  | cons x l ih => exact Nat.max_le.mpr ⟨h x List.mem_cons_self, ih fun y hy => h y (List.mem_cons_of_mem _ hy)⟩
theorem cf_le {q : Qu} (h : OkQ q) : ∀ (n : Nat) (c : Str), cf q n c + 4 ≤ 4 * 6 ^ n
  | 0, c => by rw [cf]; simp
  | n + 1, c => by
    rw [cf]
    have h1 := thr_len h (c := c)
    have h2 := eds_len h (c := c)
    have h3 : mx ((ch q (some c)).map (cf q n)) + 4 ≤ 4 * 6 ^ n := by
      have hp : 4 ≤ 4 * 6 ^ n := by have := Nat.one_le_pow n 6 (by decide); omega
      have : mx ((ch q (some c)).map (cf q n)) ≤ 4 * 6 ^ n - 4 := mx_le fun x hx => by
        obtain ⟨y, _, rfl⟩ := List.mem_map.mp hx
        have := cf_le h n y; omega
      omega
    have h4 := Nat.mul_le_mul (ch_len h (o := some c)) (Nat.le_refl (mx ((ch q (some c)).map (cf q n))))
    rw [Nat.pow_succ]
    omega
section
variable {S : Sto} {b : Nat} {Q : D → Sto → Prop}
/-! ### small rules -/
theorem iq0 {q : Qu} : Wp (ixM (qD q) (.int 0)) S Q ↔ Q (.tup (q.cols.map .str)) S := wp_ixT rfl
theorem iq1 {q : Qu} : Wp (ixM (qD q) (.int 1)) S Q ↔ Q (.tup (q.atoms.map atomD)) S := wp_ixT rfl
theorem ia0 {a : Atom} : Wp (ixM (atomD a) (.int 0)) S Q ↔ Q (.str a.w) S := wp_ixT rfl
theorem ia1 {a : Atom} : Wp (ixM (atomD a) (.int 1)) S Q ↔ Q (.str a.t) S := wp_ixT rfl
theorem ia2 {a : Atom} : Wp (ixM (atomD a) (.int 2)) S Q ↔ Q (.tup (a.cs.map .str)) S := wp_ixT rfl
theorem iqa {q : Qu} {k : Nat} {a : Atom} (h : q.atoms[k]? = some a) : Wp (ixM (.tup (q.atoms.map atomD)) (.int (k : Nat))) S Q ↔ Q (atomD a) S := wp_ixT (at_nat (by rw [List.getElem?_map, h]; rfl))
theorem idx_fn {l : List Str} {c : Str} (h : c ∈ l) : Wp (idxT (l.map .str) [.str c]) S Q ↔ Q (.int (ixc l c : Nat)) S := wp_some (by
  unfold idxT
  rw [strsOf_map]
  simp only
  have : l.findIdx? (fun y => decide (y = c)) = some (ixc l c) := List.findIdx?_eq_some_iff_findIdx_eq.mpr ⟨ixc_lt h, rfl⟩
  rw [this])
theorem wp_inIntT {a : Int} {l : List Int} : Wp (inM (.int a) (.tup (l.map D.int))) S Q ↔ Q (.bl (decide (a ∈ l))) S := by
  refine wp_some ?_
  have h1 : pds S (.int a) = some (.int a) := rfl
  have h2 : pds S (.tup (l.map D.int)) = some (.tuple (l.map PyData.int)) := pdT_row l
  unfold inM inL
  simp only [h1, h2]
  rw [if_pos (show (PyData.int a).depth ≤ 100 by rw [PyData.depth]; omega)]
  rw [any_int]; rfl
theorem wp_allB {l : List Bool} : Wp (allM [.lst (l.map .bl)]) S Q ↔ Q (.bl (l.all id)) S := wp_some (by
  have : bools (l.map D.bl) = some l := by
    induction l with
    | nil => rfl
    | cons x l ih => rw [List.map_cons, bools, ih]; rfl
  unfold allM itemsL
  simp only [this]; rfl)
/-- the tables of code objects -/
def Tb (ts : Nat → Addr) (S : Sto) : Prop := S.ob 0 = some (.tab (ts 0) "path_of.<locals>.<lambda>") ∧ 1 ≤ S.nx
theorem sortK_wp {α : Type} {c : α → D} {l : List α} {kf : α → Nat} {d : D} {j i : Nat} {P : Addr} {qq : Str} {ma : EM (List D)} {mb : EM D} {rho : Mn.Env} (hj : S.ob j = some (.tab P qq)) (hd : items d S = some (l.map c)) (ha : ∀ QL : List D → Sto → Prop, Wp (ma rho) S QL ↔ QL [d] S)
    (hk : ∀ x ∈ l, ∀ Q : D → Sto → Prop, Wp (mb (rho.set i (some (c x)))) S Q ↔ Q (.int (kf x : Nat)) S) : Wp (mSortK j P qq i ma mb rho) S Q ↔ Q (.lst ((l.mergeSort fun x y => decide (kf x ≤ kf y)).map c)) S := by
  have ks : keysM i mb rho (l.map c) S = some (l.map fun x => ((kf x : Nat) : Int), S) := by
    clear hd ha
    induction l with
    | nil => rfl
    | cons x l ih =>
      have h1 := eqOf (d := .int (kf x : Nat)) ((hk x List.mem_cons_self _).mpr ⟨rfl, rfl⟩)
      rw [List.map_cons, keysM]
      unfold bnd
      rw [h1]
      simp only [Option.bind_some]
      rw [ih fun y hy => hk y (List.mem_cons_of_mem _ hy)]
      rfl
  unfold mSortK
  rw [wp_bnd, ha]
  refine wp_some ?_
  simp only [hd, hj]
  rw [if_pos ⟨trivial, trivial⟩]
  unfold bnd
  rw [ks]
  show some (D.lst (byKeys (l.map c) (l.map fun x => ((kf x : Nat) : Int))), S) = _
  unfold byKeys
  rw [List.zip_map', ← List.map_mergeSort (r := fun x y => decide (kf x ≤ kf y)) (f := fun x => (c x, ((kf x : Nat) : Int))), List.map_map]
  · rfl
  · intro a _ b _
    have := congrFun (congrFun (PySem.W.dataLe_int (β := D × Int) (fun p => p.2)) (c a, ((kf a : Nat) : Int))) (c b, ((kf b : Nat) : Int))
    rw [this]
    simp
/-! ### the program: above, path, parent -/
theorem above_is_fn {q : Qu} {x y : Str} (h : OkQ q) (hx : x ∈ q.cols) (hy : y ∈ q.cols) : Wp (if [qD q, .str x, .str y].length = P_is_above.length then d_is_above [qD q, .str x, .str y] else fail) S Q ↔ Q (.bl (up q x y)) S := by
  rw [if_pos (show [qD q, D.str x, D.str y].length = P_is_above.length from rfl)]
  refine wp_some (eqOf ?_)
  unfold d_is_above
  rw [wp_def, show startR N_is_above.length [qD q, .str x, .str y] = [some (qD q), some (.str x), some (.str y), none, none, none] from rfl]
  unfold b_is_above
  simp only [List.set_cons_succ, List.set_cons_zero, wipeR, wp_mSeq, wp_mIfS, wp_mSet, wp_mRet, wp_mDrop, wp_mNx, wp_mPar, wp_parF, wp_mB, wp_mBin, wp_mUn, wp_mCall, wp_mFn, wp_mNil, wp_mCons, wp_mTup, wp_mLst, wp_mIf, wp_mAndV, wp_mOrV, wp_mNotV, wp_mIsN, wp_mNotN, wp_asB, wp_asI, wp_mTru, wp_truB, wp_mAnd, wp_mOr, wp_mNot, wp_mYes, wp_mPart, wp_mSl, wp_mVs, wp_mV0, wp_mC, wp_ret, wp_sub, wp_addI, wp_lt, wp_le, wp_gt, wp_ge, wp_neg, wp_eqS, wp_lenT, wp_lenL, wp_tupT, wp_tupL, Bool.not_true, Bool.not_false, Bool.false_eq_true, if_true, if_false, wp_mAsg, atoms_fn h (h.cs x hx), atoms_fn h (h.cs y hy), Mn.mt2]
  rw [wp_asg2]
  simp only [List.set_cons_succ, List.set_cons_zero, wipeR, wp_mSeq, wp_mIfS, wp_mSet, wp_mRet, wp_mDrop, wp_mNx, wp_mPar, wp_parF, wp_mB, wp_mBin, wp_mUn, wp_mCall, wp_mFn, wp_mNil, wp_mCons, wp_mTup, wp_mLst, wp_mIf, wp_mAndV, wp_mOrV, wp_mNotV, wp_mIsN, wp_mNotN, wp_asB, wp_asI, wp_mTru, wp_truB, wp_mAnd, wp_mOr, wp_mNot, wp_mYes, wp_mPart, wp_mSl, wp_mVs, wp_mV0, wp_mC, wp_ret, wp_sub, wp_addI, wp_lt, wp_le, wp_gt, wp_ge, wp_neg, wp_eqS, wp_lenT, wp_lenL, wp_tupT, wp_tupL, Bool.not_true, Bool.not_false, Bool.false_eq_true, if_true, if_false]
  have e1 : Wp (eqM (.tup ((idx q.atoms x).map .int)) (.tup ((idx q.atoms y).map .int))) S = fun Q => Q (.bl (decide (idx q.atoms x = idx q.atoms y))) S := by
    funext Q; exact propext wp_eqRow
  rw [e1]
  unfold up
  by_cases e : idx q.atoms x = idx q.atoms y
  · rw [if_pos e]
    simp only [List.set_cons_succ, List.set_cons_zero, wipeR, wp_mSeq, wp_mIfS, wp_mSet, wp_mRet, wp_mDrop, wp_mNx, wp_mPar, wp_parF, wp_mB, wp_mBin, wp_mUn, wp_mCall, wp_mFn, wp_mNil, wp_mCons, wp_mTup, wp_mLst, wp_mIf, wp_mAndV, wp_mOrV, wp_mNotV, wp_mIsN, wp_mNotN, wp_asB, wp_asI, wp_mTru, wp_truB, wp_mAnd, wp_mOr, wp_mNot, wp_mYes, wp_mPart, wp_mSl, wp_mVs, wp_mV0, wp_mC, wp_ret, wp_sub, wp_addI, wp_lt, wp_le, wp_gt, wp_ge, wp_neg, wp_eqS, wp_lenT, wp_lenL, wp_tupT, wp_tupL, Bool.not_true, Bool.not_false, Bool.false_eq_true, if_true, if_false, decide_eq_true e, wp_tidx, iq0, tidx_tup, idx_fn hx, idx_fn hy]
    refine ⟨?_, trivial⟩
    congr 1
    simp
  · rw [if_neg e]
    simp only [List.set_cons_succ, List.set_cons_zero, wipeR, wp_mSeq, wp_mIfS, wp_mSet, wp_mRet, wp_mDrop, wp_mNx, wp_mPar, wp_parF, wp_mB, wp_mBin, wp_mUn, wp_mCall, wp_mFn, wp_mNil, wp_mCons, wp_mTup, wp_mLst, wp_mIf, wp_mAndV, wp_mOrV, wp_mNotV, wp_mIsN, wp_mNotN, wp_asB, wp_asI, wp_mTru, wp_truB, wp_mAnd, wp_mOr, wp_mNot, wp_mYes, wp_mPart, wp_mSl, wp_mVs, wp_mV0, wp_mC, wp_ret, wp_sub, wp_addI, wp_lt, wp_le, wp_gt, wp_ge, wp_neg, wp_eqS, wp_lenT, wp_lenL, wp_tupT, wp_tupL, Bool.not_true, Bool.not_false, Bool.false_eq_true, if_true, if_false, decide_eq_false e, wp_mLc, wp_mISeq, src_tup]
    rw [lcA (t := fun _ => true) (f := fun i => .bl (decide (i ∈ idx q.atoms x))) (c := D.int) (l := idx q.atoms y) srcOk_nil fun i hi => ⟨_, rfl, by simp only [List.set_cons_succ, List.set_cons_zero, wipeR, wp_mSeq, wp_mIfS, wp_mSet, wp_mRet, wp_mDrop, wp_mNx, wp_mPar, wp_parF, wp_mB, wp_mBin, wp_mUn, wp_mCall, wp_mFn, wp_mNil, wp_mCons, wp_mTup, wp_mLst, wp_mIf, wp_mAndV, wp_mOrV, wp_mNotV, wp_mIsN, wp_mNotN, wp_asB, wp_asI, wp_mTru, wp_truB, wp_mAnd, wp_mOr, wp_mNot, wp_mYes, wp_mPart, wp_mSl, wp_mVs, wp_mV0, wp_mC, wp_ret, wp_sub, wp_addI, wp_lt, wp_le, wp_gt, wp_ge, wp_neg, wp_eqS, wp_lenT, wp_lenL, wp_tupT, wp_tupL, Bool.not_true, Bool.not_false, Bool.false_eq_true, if_true, if_false]; (first | exact ⟨trivial, trivial⟩ | exact ⟨rfl, trivial⟩ | exact ⟨trivial, rfl⟩ | exact ⟨rfl, rfl⟩), fun _ => by simp only [List.set_cons_succ, List.set_cons_zero, wipeR, wp_mSeq, wp_mIfS, wp_mSet, wp_mRet, wp_mDrop, wp_mNx, wp_mPar, wp_parF, wp_mB, wp_mBin, wp_mUn, wp_mCall, wp_mFn, wp_mNil, wp_mCons, wp_mTup, wp_mLst, wp_mIf, wp_mAndV, wp_mOrV, wp_mNotV, wp_mIsN, wp_mNotN, wp_asB, wp_asI, wp_mTru, wp_truB, wp_mAnd, wp_mOr, wp_mNot, wp_mYes, wp_mPart, wp_mSl, wp_mVs, wp_mV0, wp_mC, wp_ret, wp_sub, wp_addI, wp_lt, wp_le, wp_gt, wp_ge, wp_neg, wp_eqS, wp_lenT, wp_lenL, wp_tupT, wp_tupL, Bool.not_true, Bool.not_false, Bool.false_eq_true, if_true, if_false, wp_inIntT]; (first | exact ⟨trivial, trivial⟩ | exact ⟨rfl, trivial⟩ | exact ⟨trivial, rfl⟩ | exact ⟨rfl, rfl⟩)⟩]
    rw [filt_true, wp_lim (by rw [List.length_map, idx_zi, List.length_map]; have := zi_len h (c := y); omega)]
    rw [show ((idx q.atoms y).map fun i => D.bl (decide (i ∈ idx q.atoms x))) = ((idx q.atoms y).map fun i => decide (i ∈ idx q.atoms x)).map D.bl by rw [List.map_map]; rfl, wp_allB]
    simp only [List.set_cons_succ, List.set_cons_zero, wipeR, wp_mSeq, wp_mIfS, wp_mSet, wp_mRet, wp_mDrop, wp_mNx, wp_mPar, wp_parF, wp_mB, wp_mBin, wp_mUn, wp_mCall, wp_mFn, wp_mNil, wp_mCons, wp_mTup, wp_mLst, wp_mIf, wp_mAndV, wp_mOrV, wp_mNotV, wp_mIsN, wp_mNotN, wp_asB, wp_asI, wp_mTru, wp_truB, wp_mAnd, wp_mOr, wp_mNot, wp_mYes, wp_mPart, wp_mSl, wp_mVs, wp_mV0, wp_mC, wp_ret, wp_sub, wp_addI, wp_lt, wp_le, wp_gt, wp_ge, wp_neg, wp_eqS, wp_lenT, wp_lenL, wp_tupT, wp_tupL, Bool.not_true, Bool.not_false, Bool.false_eq_true, if_true, if_false]
    refine ⟨?_, trivial⟩
    rw [List.all_map]; rfl
theorem above_fn {q : Qu} {c : Str} (h : OkQ q) (hc : c ∈ q.cols) : Wp (if [qD q, .str c].length = P_above_of.length then d_above_of [qD q, .str c] else fail) S Q ↔ Q (.lst ((above q c).map .str)) S := by
  rw [if_pos (show [qD q, D.str c].length = P_above_of.length from rfl)]
  refine wp_some (eqOf ?_)
  unfold d_above_of
  rw [wp_def, show startR N_above_of.length [qD q, .str c] = [some (qD q), some (.str c), none] from rfl]
  unfold b_above_of
  simp only [List.set_cons_succ, List.set_cons_zero, wipeR, wp_mSeq, wp_mIfS, wp_mSet, wp_mRet, wp_mDrop, wp_mNx, wp_mPar, wp_parF, wp_mB, wp_mBin, wp_mUn, wp_mCall, wp_mFn, wp_mNil, wp_mCons, wp_mTup, wp_mLst, wp_mIf, wp_mAndV, wp_mOrV, wp_mNotV, wp_mIsN, wp_mNotN, wp_asB, wp_asI, wp_mTru, wp_truB, wp_mAnd, wp_mOr, wp_mNot, wp_mYes, wp_mPart, wp_mSl, wp_mVs, wp_mV0, wp_mC, wp_ret, wp_sub, wp_addI, wp_lt, wp_le, wp_gt, wp_ge, wp_neg, wp_eqS, wp_lenT, wp_lenL, wp_tupT, wp_tupL, Bool.not_true, Bool.not_false, Bool.false_eq_true, if_true, if_false, wp_mLc, wp_mISeq, iq0, src_tup]
  rw [lcA (t := fun x => up q x c) (f := D.str) (c := D.str) (l := q.cols) srcOk_nil fun x hx => ⟨_, rfl, by simp only [List.set_cons_succ, List.set_cons_zero, wipeR, wp_mSeq, wp_mIfS, wp_mSet, wp_mRet, wp_mDrop, wp_mNx, wp_mPar, wp_parF, wp_mB, wp_mBin, wp_mUn, wp_mCall, wp_mFn, wp_mNil, wp_mCons, wp_mTup, wp_mLst, wp_mIf, wp_mAndV, wp_mOrV, wp_mNotV, wp_mIsN, wp_mNotN, wp_asB, wp_asI, wp_mTru, wp_truB, wp_mAnd, wp_mOr, wp_mNot, wp_mYes, wp_mPart, wp_mSl, wp_mVs, wp_mV0, wp_mC, wp_ret, wp_sub, wp_addI, wp_lt, wp_le, wp_gt, wp_ge, wp_neg, wp_eqS, wp_lenT, wp_lenL, wp_tupT, wp_tupL, Bool.not_true, Bool.not_false, Bool.false_eq_true, if_true, if_false, above_is_fn h hx hc]; (first | exact ⟨trivial, trivial⟩ | exact ⟨rfl, trivial⟩ | exact ⟨trivial, rfl⟩ | exact ⟨rfl, rfl⟩), fun _ => by simp only [List.set_cons_succ, List.set_cons_zero, wipeR, wp_mSeq, wp_mIfS, wp_mSet, wp_mRet, wp_mDrop, wp_mNx, wp_mPar, wp_parF, wp_mB, wp_mBin, wp_mUn, wp_mCall, wp_mFn, wp_mNil, wp_mCons, wp_mTup, wp_mLst, wp_mIf, wp_mAndV, wp_mOrV, wp_mNotV, wp_mIsN, wp_mNotN, wp_asB, wp_asI, wp_mTru, wp_truB, wp_mAnd, wp_mOr, wp_mNot, wp_mYes, wp_mPart, wp_mSl, wp_mVs, wp_mV0, wp_mC, wp_ret, wp_sub, wp_addI, wp_lt, wp_le, wp_gt, wp_ge, wp_neg, wp_eqS, wp_lenT, wp_lenL, wp_tupT, wp_tupL, Bool.not_true, Bool.not_false, Bool.false_eq_true, if_true, if_false]; (first | exact ⟨trivial, trivial⟩ | exact ⟨rfl, trivial⟩ | exact ⟨trivial, rfl⟩ | exact ⟨rfl, rfl⟩)⟩]
  rw [wp_lim (by rw [List.length_map]; have := List.length_filter_le (fun x => up q x c) q.cols; have := h.c; omega)]
  simp only [List.set_cons_succ, List.set_cons_zero, wipeR, wp_mSeq, wp_mIfS, wp_mSet, wp_mRet, wp_mDrop, wp_mNx, wp_mPar, wp_parF, wp_mB, wp_mBin, wp_mUn, wp_mCall, wp_mFn, wp_mNil, wp_mCons, wp_mTup, wp_mLst, wp_mIf, wp_mAndV, wp_mOrV, wp_mNotV, wp_mIsN, wp_mNotN, wp_asB, wp_asI, wp_mTru, wp_truB, wp_mAnd, wp_mOr, wp_mNot, wp_mYes, wp_mPart, wp_mSl, wp_mVs, wp_mV0, wp_mC, wp_ret, wp_sub, wp_addI, wp_lt, wp_le, wp_gt, wp_ge, wp_neg, wp_eqS, wp_lenT, wp_lenL, wp_tupT, wp_tupL, Bool.not_true, Bool.not_false, Bool.false_eq_true, if_true, if_false]
  (first | exact ⟨trivial, trivial⟩ | exact ⟨rfl, trivial⟩ | exact ⟨trivial, rfl⟩ | exact ⟨rfl, rfl⟩)
theorem above_le {q : Qu} (h : OkQ q) {c : Str} : (above q c).length ≤ 6 := Nat.le_trans (List.length_filter_le _ _) h.c
theorem sortK_len {q : Qu} {l : List Str} : (sortK q l).length = l.length := sortK_perm.length_eq
theorem path_fn {ts : Nat → Addr} {q : Qu} {c : Str} (h : OkQ q) (ht : Tb ts S) (hc : c ∈ q.cols) : Wp (if [qD q, .str c].length = P_path_of.length then d_path_of ts [qD q, .str c] else fail) S Q ↔ Q (.tup ((path q c).map .str)) S := by
  rw [if_pos (show [qD q, D.str c].length = P_path_of.length from rfl)]
  refine wp_some (eqOf ?_)
  unfold d_path_of
  rw [wp_def, show startR N_path_of.length [qD q, .str c] = [some (qD q), some (.str c), none, none] from rfl]
  unfold b_path_of
  simp only [List.set_cons_succ, List.set_cons_zero, wipeR, wp_mSeq, wp_mIfS, wp_mSet, wp_mRet, wp_mDrop, wp_mNx, wp_mPar, wp_parF, wp_mB, wp_mBin, wp_mUn, wp_mCall, wp_mFn, wp_mNil, wp_mCons, wp_mTup, wp_mLst, wp_mIf, wp_mAndV, wp_mOrV, wp_mNotV, wp_mIsN, wp_mNotN, wp_asB, wp_asI, wp_mTru, wp_truB, wp_mAnd, wp_mOr, wp_mNot, wp_mYes, wp_mPart, wp_mSl, wp_mVs, wp_mV0, wp_mC, wp_ret, wp_sub, wp_addI, wp_lt, wp_le, wp_gt, wp_ge, wp_neg, wp_eqS, wp_lenT, wp_lenL, wp_tupT, wp_tupL, Bool.not_true, Bool.not_false, Bool.false_eq_true, if_true, if_false, above_fn h hc, wp_star]
  rw [sortK_wp (c := D.str) (l := above q c) (kf := kk q) (d := .lst ((above q c).map .str)) ht.1 rfl (fun QL => by simp only [List.set_cons_succ, List.set_cons_zero, wipeR, wp_mSeq, wp_mIfS, wp_mSet, wp_mRet, wp_mDrop, wp_mNx, wp_mPar, wp_parF, wp_mB, wp_mBin, wp_mUn, wp_mCall, wp_mFn, wp_mNil, wp_mCons, wp_mTup, wp_mLst, wp_mIf, wp_mAndV, wp_mOrV, wp_mNotV, wp_mIsN, wp_mNotN, wp_asB, wp_asI, wp_mTru, wp_truB, wp_mAnd, wp_mOr, wp_mNot, wp_mYes, wp_mPart, wp_mSl, wp_mVs, wp_mV0, wp_mC, wp_ret, wp_sub, wp_addI, wp_lt, wp_le, wp_gt, wp_ge, wp_neg, wp_eqS, wp_lenT, wp_lenL, wp_tupT, wp_tupL, Bool.not_true, Bool.not_false, Bool.false_eq_true, if_true, if_false]) (fun x hx Q => by simp only [List.set_cons_succ, List.set_cons_zero, wipeR, wp_mSeq, wp_mIfS, wp_mSet, wp_mRet, wp_mDrop, wp_mNx, wp_mPar, wp_parF, wp_mB, wp_mBin, wp_mUn, wp_mCall, wp_mFn, wp_mNil, wp_mCons, wp_mTup, wp_mLst, wp_mIf, wp_mAndV, wp_mOrV, wp_mNotV, wp_mIsN, wp_mNotN, wp_asB, wp_asI, wp_mTru, wp_truB, wp_mAnd, wp_mOr, wp_mNot, wp_mYes, wp_mPart, wp_mSl, wp_mVs, wp_mV0, wp_mC, wp_ret, wp_sub, wp_addI, wp_lt, wp_le, wp_gt, wp_ge, wp_neg, wp_eqS, wp_lenT, wp_lenL, wp_tupT, wp_tupL, Bool.not_true, Bool.not_false, Bool.false_eq_true, if_true, if_false, above_fn h (mem_above.mp hx).1, List.length_map]; rfl)]
  have st : ∀ (ds : List D) (m : M (List D)) (QL : List D → Sto → Prop), Wp (starK (.lst ds) m) S QL ↔ Wp m S fun as S1 => QL (ds ++ as) S1 := fun ds m QL => by
    have : Wp (starK (.lst ds) m) S QL ↔ Wp (bnd m fun as => Mn.ret (ds ++ as)) S QL := Iff.rfl
    rw [this, wp_bnd]
    exact ⟨fun h => h.mono fun a S' q => wp_ret.mp q, fun h => h.mono fun a S' q => wp_ret.mpr q⟩
  rw [st]
  simp only [List.set_cons_succ, List.set_cons_zero, wipeR, wp_mSeq, wp_mIfS, wp_mSet, wp_mRet, wp_mDrop, wp_mNx, wp_mPar, wp_parF, wp_mB, wp_mBin, wp_mUn, wp_mCall, wp_mFn, wp_mNil, wp_mCons, wp_mTup, wp_mLst, wp_mIf, wp_mAndV, wp_mOrV, wp_mNotV, wp_mIsN, wp_mNotN, wp_asB, wp_asI, wp_mTru, wp_truB, wp_mAnd, wp_mOr, wp_mNot, wp_mYes, wp_mPart, wp_mSl, wp_mVs, wp_mV0, wp_mC, wp_ret, wp_sub, wp_addI, wp_lt, wp_le, wp_gt, wp_ge, wp_neg, wp_eqS, wp_lenT, wp_lenL, wp_tupT, wp_tupL, Bool.not_true, Bool.not_false, Bool.false_eq_true, if_true, if_false]
  have hl : ((above q c).mergeSort fun x y => decide (kk q x ≤ kk q y)).length ≤ 6 := by rw [List.length_mergeSort]; exact above_le h
  rw [wp_mkTup (by simp only [List.length_append, List.length_map, List.length_cons, List.length_nil]; omega)]
  simp only [List.set_cons_succ, List.set_cons_zero, wipeR, wp_mSeq, wp_mIfS, wp_mSet, wp_mRet, wp_mDrop, wp_mNx, wp_mPar, wp_parF, wp_mB, wp_mBin, wp_mUn, wp_mCall, wp_mFn, wp_mNil, wp_mCons, wp_mTup, wp_mLst, wp_mIf, wp_mAndV, wp_mOrV, wp_mNotV, wp_mIsN, wp_mNotN, wp_asB, wp_asI, wp_mTru, wp_truB, wp_mAnd, wp_mOr, wp_mNot, wp_mYes, wp_mPart, wp_mSl, wp_mVs, wp_mV0, wp_mC, wp_ret, wp_sub, wp_addI, wp_lt, wp_le, wp_gt, wp_ge, wp_neg, wp_eqS, wp_lenT, wp_lenL, wp_tupT, wp_tupL, Bool.not_true, Bool.not_false, Bool.false_eq_true, if_true, if_false]
  refine ⟨?_, trivial⟩
  unfold path sortK
  rw [List.map_append]; rfl
def opD : Option Str → D
  | none => .non
  | some p => .str p
theorem path_len {q : Qu} {c : Str} : (path q c).length = (above q c).length + 1 := by unfold path; rw [List.length_append, sortK_len]; rfl
theorem path_par {q : Qu} {c p : Str} (h : par q c = some p) : atI ((path q c).map D.str) (-2) = some (.str p) := by
  obtain ⟨i, hi⟩ := List.getLast?_eq_some_iff.mp h
  unfold path
  rw [hi]
  unfold atI ixN
  have hl : ((i ++ [p] ++ [c] : List Str).map D.str).length = i.length + 2 := by simp
  rw [if_neg (by decide), if_pos (by rw [hl]; omega), Option.bind_some, hl, show ((-2 : Int) + ((i.length + 2 : Nat) : Int)).toNat = i.length by omega]
  simp
theorem path_last {q : Qu} {l : List Str} {p : Str} (h : l.getLast? = some p) : atI (l.map D.str) (-1) = some (.str p) := by
  obtain ⟨i, rfl⟩ := List.getLast?_eq_some_iff.mp h
  unfold atI ixN
  have hl : ((i ++ [p] : List Str).map D.str).length = i.length + 1 := by simp
  rw [if_neg (by decide), if_pos (by rw [hl]; omega), Option.bind_some, hl, show ((-1 : Int) + ((i.length + 1 : Nat) : Int)).toNat = i.length by omega]
  simp
theorem parent_fn {ts : Nat → Addr} {q : Qu} {c : Str} (h : OkQ q) (ht : Tb ts S) (hc : c ∈ q.cols) : Wp (if [qD q, .str c].length = P_parent_of.length then d_parent_of ts [qD q, .str c] else fail) S Q ↔ Q (opD (par q c)) S := by
  rw [if_pos (show [qD q, D.str c].length = P_parent_of.length from rfl)]
  refine wp_some (eqOf ?_)
  unfold d_parent_of
  rw [wp_def, show startR N_parent_of.length [qD q, .str c] = [some (qD q), some (.str c), none] from rfl]
  unfold b_parent_of
  simp only [List.set_cons_succ, List.set_cons_zero, wipeR, wp_mSeq, wp_mIfS, wp_mSet, wp_mRet, wp_mDrop, wp_mNx, wp_mPar, wp_parF, wp_mB, wp_mBin, wp_mUn, wp_mCall, wp_mFn, wp_mNil, wp_mCons, wp_mTup, wp_mLst, wp_mIf, wp_mAndV, wp_mOrV, wp_mNotV, wp_mIsN, wp_mNotN, wp_asB, wp_asI, wp_mTru, wp_truB, wp_mAnd, wp_mOr, wp_mNot, wp_mYes, wp_mPart, wp_mSl, wp_mVs, wp_mV0, wp_mC, wp_ret, wp_sub, wp_addI, wp_lt, wp_le, wp_gt, wp_ge, wp_neg, wp_eqS, wp_lenT, wp_lenL, wp_tupT, wp_tupL, Bool.not_true, Bool.not_false, Bool.false_eq_true, if_true, if_false, path_fn h ht hc, List.length_map, path_len]
  cases hp : par q c with
  | none =>
    rw [par_none.mp hp]
    simp only [List.set_cons_succ, List.set_cons_zero, wipeR, wp_mSeq, wp_mIfS, wp_mSet, wp_mRet, wp_mDrop, wp_mNx, wp_mPar, wp_parF, wp_mB, wp_mBin, wp_mUn, wp_mCall, wp_mFn, wp_mNil, wp_mCons, wp_mTup, wp_mLst, wp_mIf, wp_mAndV, wp_mOrV, wp_mNotV, wp_mIsN, wp_mNotN, wp_asB, wp_asI, wp_mTru, wp_truB, wp_mAnd, wp_mOr, wp_mNot, wp_mYes, wp_mPart, wp_mSl, wp_mVs, wp_mV0, wp_mC, wp_ret, wp_sub, wp_addI, wp_lt, wp_le, wp_gt, wp_ge, wp_neg, wp_eqS, wp_lenT, wp_lenL, wp_tupT, wp_tupL, Bool.not_true, Bool.not_false, Bool.false_eq_true, if_true, if_false, List.length_nil]
    simp only [List.set_cons_succ, List.set_cons_zero, wipeR, wp_mSeq, wp_mIfS, wp_mSet, wp_mRet, wp_mDrop, wp_mNx, wp_mPar, wp_parF, wp_mB, wp_mBin, wp_mUn, wp_mCall, wp_mFn, wp_mNil, wp_mCons, wp_mTup, wp_mLst, wp_mIf, wp_mAndV, wp_mOrV, wp_mNotV, wp_mIsN, wp_mNotN, wp_asB, wp_asI, wp_mTru, wp_truB, wp_mAnd, wp_mOr, wp_mNot, wp_mYes, wp_mPart, wp_mSl, wp_mVs, wp_mV0, wp_mC, wp_ret, wp_sub, wp_addI, wp_lt, wp_le, wp_gt, wp_ge, wp_neg, wp_eqS, wp_lenT, wp_lenL, wp_tupT, wp_tupL, Bool.not_true, Bool.not_false, Bool.false_eq_true, if_true, if_false, show decide ((1 : Int) < ((0 + 1 : Nat) : Int)) = false from rfl]
    (first | exact ⟨trivial, trivial⟩ | exact ⟨rfl, trivial⟩ | exact ⟨trivial, rfl⟩ | exact ⟨rfl, rfl⟩)
  | some p =>
    have : (above q c).length ≠ 0 := fun e => by rw [par_none.mpr (List.eq_nil_of_length_eq_zero e)] at hp; cases hp
    simp only [List.set_cons_succ, List.set_cons_zero, wipeR, wp_mSeq, wp_mIfS, wp_mSet, wp_mRet, wp_mDrop, wp_mNx, wp_mPar, wp_parF, wp_mB, wp_mBin, wp_mUn, wp_mCall, wp_mFn, wp_mNil, wp_mCons, wp_mTup, wp_mLst, wp_mIf, wp_mAndV, wp_mOrV, wp_mNotV, wp_mIsN, wp_mNotN, wp_asB, wp_asI, wp_mTru, wp_truB, wp_mAnd, wp_mOr, wp_mNot, wp_mYes, wp_mPart, wp_mSl, wp_mVs, wp_mV0, wp_mC, wp_ret, wp_sub, wp_addI, wp_lt, wp_le, wp_gt, wp_ge, wp_neg, wp_eqS, wp_lenT, wp_lenL, wp_tupT, wp_tupL, Bool.not_true, Bool.not_false, Bool.false_eq_true, if_true, if_false, show decide ((1 : Int) < (((above q c).length + 1 : Nat) : Int)) = true from decide_eq_true (by omega)]
    rw [wp_ixT (path_par hp)]
    simp only [List.set_cons_succ, List.set_cons_zero, wipeR, wp_mSeq, wp_mIfS, wp_mSet, wp_mRet, wp_mDrop, wp_mNx, wp_mPar, wp_parF, wp_mB, wp_mBin, wp_mUn, wp_mCall, wp_mFn, wp_mNil, wp_mCons, wp_mTup, wp_mLst, wp_mIf, wp_mAndV, wp_mOrV, wp_mNotV, wp_mIsN, wp_mNotN, wp_asB, wp_asI, wp_mTru, wp_truB, wp_mAnd, wp_mOr, wp_mNot, wp_mYes, wp_mPart, wp_mSl, wp_mVs, wp_mV0, wp_mC, wp_ret, wp_sub, wp_addI, wp_lt, wp_le, wp_gt, wp_ge, wp_neg, wp_eqS, wp_lenT, wp_lenL, wp_tupT, wp_tupL, Bool.not_true, Bool.not_false, Bool.false_eq_true, if_true, if_false]
    (first | exact ⟨trivial, trivial⟩ | exact ⟨rfl, trivial⟩ | exact ⟨trivial, rfl⟩ | exact ⟨rfl, rfl⟩)
end
section
variable {S : Sto} {b : Nat} {Q : D → Sto → Prop} {ts : Nat → Addr}
theorem opD_isN {o : Option Str} : isNonD (opD o) = decide (o = none) := by cases o <;> rfl
theorem opD_eq {o : Option Str} {c : Str} (ho : ∀ p, o = some p → Sm p) (hc : Sm c) : Wp (eqM (opD o) (.str c)) S Q ↔ Q (.bl (decide (o = some c))) S := by
  cases o with
  | none =>
    rw [wp_eq (p := .none) (q := .str c) rfl (by show pdT (.str c) = _; rw [pdT, if_pos hc.1]) (by decide)]
    rw [PyData.eqv]; simp
    all_goals simp
  | some p =>
    show Wp (eqM (.str p) (.str c)) S Q ↔ _
    rw [wp_eqS]
    have : (p == c) = decide (some p = some c) := by
      by_cases e : p = c
      · subst e; simp
      · have : ¬ (some p = some c) := fun z => e (Option.some.inj z)
        rw [decide_eq_false this]; simpa using e
    rw [this]
theorem opD_eqN {o : Option Str} (ho : ∀ p, o = some p → Sm p) : Wp (eqM (opD o) .non) S Q ↔ Q (.bl (decide (o = none))) S := by
  cases o with
  | none =>
    rw [wp_eq (p := .none) (q := .none) rfl rfl (by decide)]
    rw [PyData.eqv]; simp
  | some p =>
    rw [wp_eq (p := .str p) (q := .none) (by show pdT (.str p) = _; rw [pdT, if_pos (ho p rfl).1]) rfl (by rw [PyData.depth]; omega)]
    rw [PyData.eqv]; simp
    all_goals simp
theorem opD_eqO {o o' : Option Str} (ho : ∀ p, o = some p → Sm p) (ho' : ∀ p, o' = some p → Sm p) : Wp (eqM (opD o) (opD o')) S Q ↔ Q (.bl (decide (o = o'))) S := by
  cases o' with
  | none => exact opD_eqN ho
  | some c => exact opD_eq ho (ho' c rfl)
theorem par_sm {q : Qu} (h : OkQ q) {c p : Str} (hp : par q c = some p) : Sm p := h.cs p (par_up hp).1
theorem roots_fn {q : Qu} (h : OkQ q) (ht : Tb ts S) : Wp (if [qD q].length = P_roots_of.length then d_roots_of ts [qD q] else fail) S Q ↔ Q (.tup ((ch q none).map .str)) S := by
  rw [if_pos (show [qD q].length = P_roots_of.length from rfl)]
  refine wp_some (eqOf ?_)
  unfold d_roots_of
  rw [wp_def, show startR N_roots_of.length [qD q] = [some (qD q), none] from rfl]
  unfold b_roots_of
  simp only [List.set_cons_succ, List.set_cons_zero, wipeR, wp_mSeq, wp_mIfS, wp_mSet, wp_mRet, wp_mDrop, wp_mNx, wp_mPar, wp_parF, wp_mB, wp_mBin, wp_mUn, wp_mCall, wp_mFn, wp_mNil, wp_mCons, wp_mTup, wp_mLst, wp_mIf, wp_mAndV, wp_mOrV, wp_mNotV, wp_mIsN, wp_mNotN, wp_asB, wp_asI, wp_mTru, wp_truB, wp_mAnd, wp_mOr, wp_mNot, wp_mYes, wp_mPart, wp_mSl, wp_mVs, wp_mV0, wp_mC, wp_ret, wp_sub, wp_addI, wp_lt, wp_le, wp_gt, wp_ge, wp_neg, wp_eqS, wp_lenT, wp_lenL, wp_tupT, wp_tupL, Bool.not_true, Bool.not_false, Bool.false_eq_true, if_true, if_false, wp_mLc, wp_mISeq, iq0, src_tup]
  rw [lcA (t := fun x => decide (par q x = none)) (f := D.str) (c := D.str) (l := q.cols) srcOk_nil fun x hx => ⟨_, rfl, by simp only [List.set_cons_succ, List.set_cons_zero, wipeR, wp_mSeq, wp_mIfS, wp_mSet, wp_mRet, wp_mDrop, wp_mNx, wp_mPar, wp_parF, wp_mB, wp_mBin, wp_mUn, wp_mCall, wp_mFn, wp_mNil, wp_mCons, wp_mTup, wp_mLst, wp_mIf, wp_mAndV, wp_mOrV, wp_mNotV, wp_mIsN, wp_mNotN, wp_asB, wp_asI, wp_mTru, wp_truB, wp_mAnd, wp_mOr, wp_mNot, wp_mYes, wp_mPart, wp_mSl, wp_mVs, wp_mV0, wp_mC, wp_ret, wp_sub, wp_addI, wp_lt, wp_le, wp_gt, wp_ge, wp_neg, wp_eqS, wp_lenT, wp_lenL, wp_tupT, wp_tupL, Bool.not_true, Bool.not_false, Bool.false_eq_true, if_true, if_false, parent_fn h ht hx, opD_isN]; (first | exact ⟨trivial, trivial⟩ | exact ⟨rfl, trivial⟩ | exact ⟨trivial, rfl⟩ | exact ⟨rfl, rfl⟩), fun _ => by simp only [List.set_cons_succ, List.set_cons_zero, wipeR, wp_mSeq, wp_mIfS, wp_mSet, wp_mRet, wp_mDrop, wp_mNx, wp_mPar, wp_parF, wp_mB, wp_mBin, wp_mUn, wp_mCall, wp_mFn, wp_mNil, wp_mCons, wp_mTup, wp_mLst, wp_mIf, wp_mAndV, wp_mOrV, wp_mNotV, wp_mIsN, wp_mNotN, wp_asB, wp_asI, wp_mTru, wp_truB, wp_mAnd, wp_mOr, wp_mNot, wp_mYes, wp_mPart, wp_mSl, wp_mVs, wp_mV0, wp_mC, wp_ret, wp_sub, wp_addI, wp_lt, wp_le, wp_gt, wp_ge, wp_neg, wp_eqS, wp_lenT, wp_lenL, wp_tupT, wp_tupL, Bool.not_true, Bool.not_false, Bool.false_eq_true, if_true, if_false]; (first | exact ⟨trivial, trivial⟩ | exact ⟨rfl, trivial⟩ | exact ⟨trivial, rfl⟩ | exact ⟨rfl, rfl⟩)⟩]
  rw [wp_lim (by rw [List.length_map]; have := ch_len h (o := none); unfold ch at this; omega)]
  simp only [List.set_cons_succ, List.set_cons_zero, wipeR, wp_mSeq, wp_mIfS, wp_mSet, wp_mRet, wp_mDrop, wp_mNx, wp_mPar, wp_parF, wp_mB, wp_mBin, wp_mUn, wp_mCall, wp_mFn, wp_mNil, wp_mCons, wp_mTup, wp_mLst, wp_mIf, wp_mAndV, wp_mOrV, wp_mNotV, wp_mIsN, wp_mNotN, wp_asB, wp_asI, wp_mTru, wp_truB, wp_mAnd, wp_mOr, wp_mNot, wp_mYes, wp_mPart, wp_mSl, wp_mVs, wp_mV0, wp_mC, wp_ret, wp_sub, wp_addI, wp_lt, wp_le, wp_gt, wp_ge, wp_neg, wp_eqS, wp_lenT, wp_lenL, wp_tupT, wp_tupL, Bool.not_true, Bool.not_false, Bool.false_eq_true, if_true, if_false]
  exact ⟨rfl, trivial⟩
theorem children_fn {q : Qu} {c : Str} (h : OkQ q) (ht : Tb ts S) (hc : c ∈ q.cols) : Wp (if [qD q, .str c].length = P_children_of.length then d_children_of ts [qD q, .str c] else fail) S Q ↔ Q (.tup ((ch q (some c)).map .str)) S := by
  rw [if_pos (show [qD q, D.str c].length = P_children_of.length from rfl)]
  refine wp_some (eqOf ?_)
  unfold d_children_of
  rw [wp_def, show startR N_children_of.length [qD q, .str c] = [some (qD q), some (.str c), none] from rfl]
  unfold b_children_of
  simp only [List.set_cons_succ, List.set_cons_zero, wipeR, wp_mSeq, wp_mIfS, wp_mSet, wp_mRet, wp_mDrop, wp_mNx, wp_mPar, wp_parF, wp_mB, wp_mBin, wp_mUn, wp_mCall, wp_mFn, wp_mNil, wp_mCons, wp_mTup, wp_mLst, wp_mIf, wp_mAndV, wp_mOrV, wp_mNotV, wp_mIsN, wp_mNotN, wp_asB, wp_asI, wp_mTru, wp_truB, wp_mAnd, wp_mOr, wp_mNot, wp_mYes, wp_mPart, wp_mSl, wp_mVs, wp_mV0, wp_mC, wp_ret, wp_sub, wp_addI, wp_lt, wp_le, wp_gt, wp_ge, wp_neg, wp_eqS, wp_lenT, wp_lenL, wp_tupT, wp_tupL, Bool.not_true, Bool.not_false, Bool.false_eq_true, if_true, if_false, wp_mLc, wp_mISeq, iq0, src_tup]
  rw [lcA (t := fun x => decide (par q x = some c)) (f := D.str) (c := D.str) (l := q.cols) srcOk_nil fun x hx => ⟨_, rfl, by simp only [List.set_cons_succ, List.set_cons_zero, wipeR, wp_mSeq, wp_mIfS, wp_mSet, wp_mRet, wp_mDrop, wp_mNx, wp_mPar, wp_parF, wp_mB, wp_mBin, wp_mUn, wp_mCall, wp_mFn, wp_mNil, wp_mCons, wp_mTup, wp_mLst, wp_mIf, wp_mAndV, wp_mOrV, wp_mNotV, wp_mIsN, wp_mNotN, wp_asB, wp_asI, wp_mTru, wp_truB, wp_mAnd, wp_mOr, wp_mNot, wp_mYes, wp_mPart, wp_mSl, wp_mVs, wp_mV0, wp_mC, wp_ret, wp_sub, wp_addI, wp_lt, wp_le, wp_gt, wp_ge, wp_neg, wp_eqS, wp_lenT, wp_lenL, wp_tupT, wp_tupL, Bool.not_true, Bool.not_false, Bool.false_eq_true, if_true, if_false, parent_fn h ht hx]; rw [opD_eq (fun p hp => par_sm h hp) (h.cs c hc)]; simp only [List.set_cons_succ, List.set_cons_zero, wipeR, wp_mSeq, wp_mIfS, wp_mSet, wp_mRet, wp_mDrop, wp_mNx, wp_mPar, wp_parF, wp_mB, wp_mBin, wp_mUn, wp_mCall, wp_mFn, wp_mNil, wp_mCons, wp_mTup, wp_mLst, wp_mIf, wp_mAndV, wp_mOrV, wp_mNotV, wp_mIsN, wp_mNotN, wp_asB, wp_asI, wp_mTru, wp_truB, wp_mAnd, wp_mOr, wp_mNot, wp_mYes, wp_mPart, wp_mSl, wp_mVs, wp_mV0, wp_mC, wp_ret, wp_sub, wp_addI, wp_lt, wp_le, wp_gt, wp_ge, wp_neg, wp_eqS, wp_lenT, wp_lenL, wp_tupT, wp_tupL, Bool.not_true, Bool.not_false, Bool.false_eq_true, if_true, if_false]; (first | exact ⟨trivial, trivial⟩ | exact ⟨rfl, trivial⟩ | exact ⟨trivial, rfl⟩ | exact ⟨rfl, rfl⟩), fun _ => by simp only [List.set_cons_succ, List.set_cons_zero, wipeR, wp_mSeq, wp_mIfS, wp_mSet, wp_mRet, wp_mDrop, wp_mNx, wp_mPar, wp_parF, wp_mB, wp_mBin, wp_mUn, wp_mCall, wp_mFn, wp_mNil, wp_mCons, wp_mTup, wp_mLst, wp_mIf, wp_mAndV, wp_mOrV, wp_mNotV, wp_mIsN, wp_mNotN, wp_asB, wp_asI, wp_mTru, wp_truB, wp_mAnd, wp_mOr, wp_mNot, wp_mYes, wp_mPart, wp_mSl, wp_mVs, wp_mV0, wp_mC, wp_ret, wp_sub, wp_addI, wp_lt, wp_le, wp_gt, wp_ge, wp_neg, wp_eqS, wp_lenT, wp_lenL, wp_tupT, wp_tupL, Bool.not_true, Bool.not_false, Bool.false_eq_true, if_true, if_false]; (first | exact ⟨trivial, trivial⟩ | exact ⟨rfl, trivial⟩ | exact ⟨trivial, rfl⟩ | exact ⟨rfl, rfl⟩)⟩]
  rw [wp_lim (by rw [List.length_map]; have := ch_len h (o := some c); unfold ch at this; omega)]
  simp only [List.set_cons_succ, List.set_cons_zero, wipeR, wp_mSeq, wp_mIfS, wp_mSet, wp_mRet, wp_mDrop, wp_mNx, wp_mPar, wp_parF, wp_mB, wp_mBin, wp_mUn, wp_mCall, wp_mFn, wp_mNil, wp_mCons, wp_mTup, wp_mLst, wp_mIf, wp_mAndV, wp_mOrV, wp_mNotV, wp_mIsN, wp_mNotN, wp_asB, wp_asI, wp_mTru, wp_truB, wp_mAnd, wp_mOr, wp_mNot, wp_mYes, wp_mPart, wp_mSl, wp_mVs, wp_mV0, wp_mC, wp_ret, wp_sub, wp_addI, wp_lt, wp_le, wp_gt, wp_ge, wp_neg, wp_eqS, wp_lenT, wp_lenL, wp_tupT, wp_tupL, Bool.not_true, Bool.not_false, Bool.false_eq_true, if_true, if_false]
  exact ⟨rfl, trivial⟩
end
/-! ### sorted by ints ahead of a text -/
theorem sortL_any {α : Type} {f : α → D} {g : α → PyData} {l : List α} (hpd : ∀ x ∈ l, pdT (f x) = some (g x)) (hal : ∀ x ∈ l, ∀ y ∈ l, PySem.W.alike (g x) (g y) = true) (hs : ∀ x ∈ l, ∃ p ps, g x = .tuple (p :: ps)) (hd : ∀ x ∈ l, (g x).depth ≤ 100) :
    ∃ l' : List α, l'.Perm l ∧ l'.Pairwise (fun x y => PySem.W.dataLe false g x y = true) ∧ sortL (l.map f) = some (l'.map f) := by
  have e : pdL (l.map f) = some (l.map g) := by
    clear hal hs hd
    induction l with
    | nil => rfl
    | cons x l ih => rw [List.map_cons, pdL, hpd x List.mem_cons_self, ih fun y hy => hpd y (List.mem_cons_of_mem _ hy)]; rfl
  have hz : (l.map f).zip (l.map g) = l.map fun x => (f x, g x) := List.zip_map' ..
  have T := PySem.W.sortLe_total (PyProof.Rows.listOrd PyProof.Rows.itemOrd) false (fun b : α => PySem.W.keyToks (g b))
  refine ⟨l.mergeSort (PySem.W.dataLe false g), List.mergeSort_perm _ _, List.pairwise_mergeSort (fun a b c => T.trans a b c) (fun a b => by rw [Bool.or_eq_true]; exact T.total a b) l, ?_⟩
  unfold sortL
  rw [e]
  simp only
  rw [if_pos]
  · unfold sortBy
    rw [hz, ← List.map_mergeSort (r := PySem.W.dataLe false g) (f := fun x => (f x, g x)) (fun a _ b _ => rfl), List.map_map]
    rfl
  · rw [Bool.and_eq_true, Bool.and_eq_true]
    refine ⟨⟨?_, ?_⟩, ?_⟩
    · unfold alikeB
      rw [List.all_eq_true]
      intro p hp
      rw [List.all_eq_true]
      intro q hq
      obtain ⟨a, ha, rfl⟩ := List.mem_map.mp hp
      obtain ⟨b, hb, rfl⟩ := List.mem_map.mp hq
      exact hal a ha b hb
    · unfold sortB
      rw [Bool.or_eq_true]
      left
      rw [List.all_eq_true]
      intro p hp
      obtain ⟨a, ha, rfl⟩ := List.mem_map.mp hp
      obtain ⟨p, ps, e⟩ := hs a ha
      rw [e]
    · rw [List.all_eq_true]
      intro p hp
      obtain ⟨a, ha, rfl⟩ := List.mem_map.mp hp
      exact decide_eq_true (hd a ha)
theorem dl2 {i j : Int} {x y : Str} (h : i < j) : PySem.W.dataLt (.tuple [.int i, .str x]) (.tuple [.int j, .str y]) = true := by
  rw [PySem.W.dataLt_pair (by simp [PySem.W.alike]) (by simp [PySem.W.alike]), PySem.W.dataLt_int]
  have : PyData.eqv (.int i) (.int j) = false := by rw [PyData.eqv]; simp; omega
  rw [if_neg (by rw [this]; decide)]
  exact decide_eq_true h
theorem dl3 {i j i' j' : Int} {x y : Str} (h : i < i' ∨ (i = i' ∧ j < j')) : PySem.W.dataLt (.tuple [.int i, .int j, .str x]) (.tuple [.int i', .int j', .str y]) = true := by
  rw [PySem.W.dataLt_tuple, PySem.W.dataLt_cons (by simp [PySem.W.alike]), PySem.W.dataLt_int]
  rcases h with h | ⟨h, g⟩
  · have : PyData.eqv (.int i) (.int i') = false := by rw [PyData.eqv]; simp; omega
    rw [if_neg (by rw [this]; decide)]
    exact decide_eq_true h
  · subst h
    have : PyData.eqv (.int i) (.int i) = true := by rw [PyData.eqv]; simp
    rw [if_pos this, PySem.W.dataLt_cons (by simp [PySem.W.alike]), PySem.W.dataLt_int]
    have : PyData.eqv (.int j) (.int j') = false := by rw [PyData.eqv]; simp; omega
    rw [if_neg (by rw [this]; decide)]
    exact decide_eq_true g
theorem dle_lt {α : Type} {g : α → PyData} {x y : α} (h : PySem.W.dataLe false g x y = true) : PySem.W.dataLt (g y) (g x) = false := by
  rw [PySem.W.dataLe_eq] at h
  exact Bool.not_eq_true' _ ▸ h
theorem filter_ltm {α : Type} {p r : α → Bool} : ∀ {l : List α} {x : α}, (∀ x ∈ l, p x = true → r x = true) → x ∈ l → p x = false → r x = true → (l.filter p).length < (l.filter r).length
  | l, x, h, hx, h1, h2 => by
    have e : l.filter p = l.filter fun y => p y && r y := List.filter_congr fun y hy => by
      cases hp : p y with
      | false => rfl
      | true => rw [h y hy hp]; rfl
    rw [e]
    exact filter_lt (fun y hy => (Bool.and_eq_true _ _ ▸ hy : _ ∧ _).2) hx (by rw [h1]; rfl) h2
theorem idx_len {q : Qu} {c : Str} : (idx q.atoms c).length = (zi q c).length := by rw [idx_zi, List.length_map]
theorem len_lt {q : Qu} {x y : Str} (h : Sub q y x) (ne : idx q.atoms y ≠ idx q.atoms x) : (idx q.atoms x).length < (idx q.atoms y).length := by
  have : ∃ a ∈ q.atoms, y ∈ a.cs ∧ x ∉ a.cs := Classical.byContradiction fun z => ne (h.anti (Sub.of fun a ha hy => Classical.byContradiction fun hx => z ⟨a, ha, hy, hx⟩))
  obtain ⟨a, ha, h1, h2⟩ := this
  obtain ⟨k, hk⟩ := List.mem_iff_getElem?.mp ha
  rw [idx_len, idx_len]
  unfold zi
  refine filter_ltm (x := (a, k)) (fun p hp hx => decide_eq_true (h.mem (List.mem_of_getElem? (List.mem_zipIdx_iff_getElem?.mp hp)) (of_decide_eq_true hx))) (List.mem_zipIdx_iff_getElem?.mpr hk) (decide_eq_false h2) (decide_eq_true h1)
section
variable {S : Sto} {b : Nat} {Q : D → Sto → Prop} {ts : Nat → Addr}
theorem wp_niInt {a : Int} {l : List Int} : Wp (niM (.int a) (.lst (l.map D.int))) S Q ↔ Q (.bl (!decide (a ∈ l))) S := by
  refine wp_some ?_
  have h1 : pds S (.int a) = some (.int a) := rfl
  have h2 : pds S (.lst (l.map D.int)) = some (.list (l.map PyData.int)) := by
    show pdT (.lst (l.map D.int)) = _
    rw [pdT.eq_def]
    simp only [pdL_ints]; rfl
  unfold niM inL
  simp only [h1, h2]
  rw [if_pos (show (PyData.int a).depth ≤ 100 by rw [PyData.depth]; omega)]
  rw [any_int]; rfl
theorem law_above_fn {q : Qu} {x y : Str} (h : OkQ q) (hx : x ∈ q.cols) (hy : y ∈ q.cols) : Wp (if [qD q, .str x, .str y].length = P_law_is_above.length then d_law_is_above [qD q, .str x, .str y] else fail) S Q ↔ Q (.bl (up q x y)) S := by
  rw [if_pos (show [qD q, D.str x, D.str y].length = P_law_is_above.length from rfl)]
  refine wp_some (eqOf ?_)
  unfold d_law_is_above
  rw [wp_def, show startR N_law_is_above.length [qD q, .str x, .str y] = [some (qD q), some (.str x), some (.str y), none, none, none] from rfl]
  unfold b_law_is_above
  simp only [List.set_cons_succ, List.set_cons_zero, wipeR, wp_mSeq, wp_mIfS, wp_mSet, wp_mRet, wp_mDrop, wp_mNx, wp_mPar, wp_parF, wp_mB, wp_mBin, wp_mUn, wp_mCall, wp_mFn, wp_mNil, wp_mCons, wp_mTup, wp_mLst, wp_mIf, wp_mAndV, wp_mOrV, wp_mNotV, wp_mIsN, wp_mNotN, wp_asB, wp_asI, wp_mTru, wp_truB, wp_mAnd, wp_mOr, wp_mNot, wp_mYes, wp_mPart, wp_mSl, wp_mVs, wp_mV0, wp_mC, wp_ret, wp_sub, wp_addI, wp_lt, wp_le, wp_gt, wp_ge, wp_neg, wp_eqS, wp_lenT, wp_lenL, wp_tupT, wp_tupL, Bool.not_true, Bool.not_false, Bool.false_eq_true, if_true, if_false, wp_mAsg, law_atoms_fn h (h.cs x hx), law_atoms_fn h (h.cs y hy), Mn.mt2]
  rw [wp_asg2]
  simp only [List.set_cons_succ, List.set_cons_zero, wipeR, wp_mSeq, wp_mIfS, wp_mSet, wp_mRet, wp_mDrop, wp_mNx, wp_mPar, wp_parF, wp_mB, wp_mBin, wp_mUn, wp_mCall, wp_mFn, wp_mNil, wp_mCons, wp_mTup, wp_mLst, wp_mIf, wp_mAndV, wp_mOrV, wp_mNotV, wp_mIsN, wp_mNotN, wp_asB, wp_asI, wp_mTru, wp_truB, wp_mAnd, wp_mOr, wp_mNot, wp_mYes, wp_mPart, wp_mSl, wp_mVs, wp_mV0, wp_mC, wp_ret, wp_sub, wp_addI, wp_lt, wp_le, wp_gt, wp_ge, wp_neg, wp_eqS, wp_lenT, wp_lenL, wp_tupT, wp_tupL, Bool.not_true, Bool.not_false, Bool.false_eq_true, if_true, if_false]
  by_cases e : x = y
  · subst e
    simp only [List.set_cons_succ, List.set_cons_zero, wipeR, wp_mSeq, wp_mIfS, wp_mSet, wp_mRet, wp_mDrop, wp_mNx, wp_mPar, wp_parF, wp_mB, wp_mBin, wp_mUn, wp_mCall, wp_mFn, wp_mNil, wp_mCons, wp_mTup, wp_mLst, wp_mIf, wp_mAndV, wp_mOrV, wp_mNotV, wp_mIsN, wp_mNotN, wp_asB, wp_asI, wp_mTru, wp_truB, wp_mAnd, wp_mOr, wp_mNot, wp_mYes, wp_mPart, wp_mSl, wp_mVs, wp_mV0, wp_mC, wp_ret, wp_sub, wp_addI, wp_lt, wp_le, wp_gt, wp_ge, wp_neg, wp_eqS, wp_lenT, wp_lenL, wp_tupT, wp_tupL, Bool.not_true, Bool.not_false, Bool.false_eq_true, if_true, if_false, beq_self_eq_true, up_irrefl]
    (first | exact ⟨trivial, trivial⟩ | exact ⟨rfl, trivial⟩ | exact ⟨trivial, rfl⟩ | exact ⟨rfl, rfl⟩)
  · have e' : (x == y) = false := by simpa using e
    simp only [List.set_cons_succ, List.set_cons_zero, wipeR, wp_mSeq, wp_mIfS, wp_mSet, wp_mRet, wp_mDrop, wp_mNx, wp_mPar, wp_parF, wp_mB, wp_mBin, wp_mUn, wp_mCall, wp_mFn, wp_mNil, wp_mCons, wp_mTup, wp_mLst, wp_mIf, wp_mAndV, wp_mOrV, wp_mNotV, wp_mIsN, wp_mNotN, wp_asB, wp_asI, wp_mTru, wp_truB, wp_mAnd, wp_mOr, wp_mNot, wp_mYes, wp_mPart, wp_mSl, wp_mVs, wp_mV0, wp_mC, wp_ret, wp_sub, wp_addI, wp_lt, wp_le, wp_gt, wp_ge, wp_neg, wp_eqS, wp_lenT, wp_lenL, wp_tupT, wp_tupL, Bool.not_true, Bool.not_false, Bool.false_eq_true, if_true, if_false, e', wp_mLc, wp_mISeq, src_lst]
    rw [lcA (t := fun i => !decide (i ∈ idx q.atoms x)) (f := D.int) (c := D.int) (l := idx q.atoms y) srcOk_nil fun i hi => ⟨_, rfl, by simp only [List.set_cons_succ, List.set_cons_zero, wipeR, wp_mSeq, wp_mIfS, wp_mSet, wp_mRet, wp_mDrop, wp_mNx, wp_mPar, wp_parF, wp_mB, wp_mBin, wp_mUn, wp_mCall, wp_mFn, wp_mNil, wp_mCons, wp_mTup, wp_mLst, wp_mIf, wp_mAndV, wp_mOrV, wp_mNotV, wp_mIsN, wp_mNotN, wp_asB, wp_asI, wp_mTru, wp_truB, wp_mAnd, wp_mOr, wp_mNot, wp_mYes, wp_mPart, wp_mSl, wp_mVs, wp_mV0, wp_mC, wp_ret, wp_sub, wp_addI, wp_lt, wp_le, wp_gt, wp_ge, wp_neg, wp_eqS, wp_lenT, wp_lenL, wp_tupT, wp_tupL, Bool.not_true, Bool.not_false, Bool.false_eq_true, if_true, if_false, wp_niInt]; (first | exact ⟨trivial, trivial⟩ | exact ⟨rfl, trivial⟩ | exact ⟨trivial, rfl⟩ | exact ⟨rfl, rfl⟩), fun _ => by simp only [List.set_cons_succ, List.set_cons_zero, wipeR, wp_mSeq, wp_mIfS, wp_mSet, wp_mRet, wp_mDrop, wp_mNx, wp_mPar, wp_parF, wp_mB, wp_mBin, wp_mUn, wp_mCall, wp_mFn, wp_mNil, wp_mCons, wp_mTup, wp_mLst, wp_mIf, wp_mAndV, wp_mOrV, wp_mNotV, wp_mIsN, wp_mNotN, wp_asB, wp_asI, wp_mTru, wp_truB, wp_mAnd, wp_mOr, wp_mNot, wp_mYes, wp_mPart, wp_mSl, wp_mVs, wp_mV0, wp_mC, wp_ret, wp_sub, wp_addI, wp_lt, wp_le, wp_gt, wp_ge, wp_neg, wp_eqS, wp_lenT, wp_lenL, wp_tupT, wp_tupL, Bool.not_true, Bool.not_false, Bool.false_eq_true, if_true, if_false]; (first | exact ⟨trivial, trivial⟩ | exact ⟨rfl, trivial⟩ | exact ⟨trivial, rfl⟩ | exact ⟨rfl, rfl⟩)⟩]
    have hl : ((idx q.atoms y).filter fun i => !decide (i ∈ idx q.atoms x)).length ≤ 9 := Nat.le_trans (List.length_filter_le _ _) (by rw [idx_len]; exact zi_len h)
    rw [wp_lim (by rw [List.length_map]; omega)]
    simp only [List.set_cons_succ, List.set_cons_zero, wipeR, wp_mSeq, wp_mIfS, wp_mSet, wp_mRet, wp_mDrop, wp_mNx, wp_mPar, wp_parF, wp_mB, wp_mBin, wp_mUn, wp_mCall, wp_mFn, wp_mNil, wp_mCons, wp_mTup, wp_mLst, wp_mIf, wp_mAndV, wp_mOrV, wp_mNotV, wp_mIsN, wp_mNotN, wp_asB, wp_asI, wp_mTru, wp_truB, wp_mAnd, wp_mOr, wp_mNot, wp_mYes, wp_mPart, wp_mSl, wp_mVs, wp_mV0, wp_mC, wp_ret, wp_sub, wp_addI, wp_lt, wp_le, wp_gt, wp_ge, wp_neg, wp_eqS, wp_lenT, wp_lenL, wp_tupT, wp_tupL, Bool.not_true, Bool.not_false, Bool.false_eq_true, if_true, if_false, ml0]
    rw [wp_neNilL (pdL_ints _) (by rw [depth_ints]; omega), List.isEmpty_map]
    simp only [List.set_cons_succ, List.set_cons_zero, wipeR, wp_mSeq, wp_mIfS, wp_mSet, wp_mRet, wp_mDrop, wp_mNx, wp_mPar, wp_parF, wp_mB, wp_mBin, wp_mUn, wp_mCall, wp_mFn, wp_mNil, wp_mCons, wp_mTup, wp_mLst, wp_mIf, wp_mAndV, wp_mOrV, wp_mNotV, wp_mIsN, wp_mNotN, wp_asB, wp_asI, wp_mTru, wp_truB, wp_mAnd, wp_mOr, wp_mNot, wp_mYes, wp_mPart, wp_mSl, wp_mVs, wp_mV0, wp_mC, wp_ret, wp_sub, wp_addI, wp_lt, wp_le, wp_gt, wp_ge, wp_neg, wp_eqS, wp_lenT, wp_lenL, wp_tupT, wp_tupL, Bool.not_true, Bool.not_false, Bool.false_eq_true, if_true, if_false]
    cases hf : (idx q.atoms y).filter fun i => !decide (i ∈ idx q.atoms x) with
    | cons i l =>
      have hi : i ∈ (idx q.atoms y).filter fun i => !decide (i ∈ idx q.atoms x) := by rw [hf]; exact List.mem_cons_self
      obtain ⟨h1, h2⟩ := List.mem_filter.mp hi
      have h2 : i ∉ idx q.atoms x := by simpa using h2
      simp only [List.set_cons_succ, List.set_cons_zero, wipeR, wp_mSeq, wp_mIfS, wp_mSet, wp_mRet, wp_mDrop, wp_mNx, wp_mPar, wp_parF, wp_mB, wp_mBin, wp_mUn, wp_mCall, wp_mFn, wp_mNil, wp_mCons, wp_mTup, wp_mLst, wp_mIf, wp_mAndV, wp_mOrV, wp_mNotV, wp_mIsN, wp_mNotN, wp_asB, wp_asI, wp_mTru, wp_truB, wp_mAnd, wp_mOr, wp_mNot, wp_mYes, wp_mPart, wp_mSl, wp_mVs, wp_mV0, wp_mC, wp_ret, wp_sub, wp_addI, wp_lt, wp_le, wp_gt, wp_ge, wp_neg, wp_eqS, wp_lenT, wp_lenL, wp_tupT, wp_tupL, Bool.not_true, Bool.not_false, Bool.false_eq_true, if_true, if_false, List.isEmpty_cons]
      refine ⟨?_, trivial⟩
      cases hu : up q x y with
      | false => rfl
      | true => exact absurd (up_sub hu i h1) h2
    | nil =>
      have hs : Sub q x y := fun i hi => Classical.byContradiction fun hx => by
        have : i ∈ (idx q.atoms y).filter fun i => !decide (i ∈ idx q.atoms x) := List.mem_filter.mpr ⟨hi, by simpa using hx⟩
        rw [hf] at this
        cases this
      simp only [List.set_cons_succ, List.set_cons_zero, wipeR, wp_mSeq, wp_mIfS, wp_mSet, wp_mRet, wp_mDrop, wp_mNx, wp_mPar, wp_parF, wp_mB, wp_mBin, wp_mUn, wp_mCall, wp_mFn, wp_mNil, wp_mCons, wp_mTup, wp_mLst, wp_mIf, wp_mAndV, wp_mOrV, wp_mNotV, wp_mIsN, wp_mNotN, wp_asB, wp_asI, wp_mTru, wp_truB, wp_mAnd, wp_mOr, wp_mNot, wp_mYes, wp_mPart, wp_mSl, wp_mVs, wp_mV0, wp_mC, wp_ret, wp_sub, wp_addI, wp_lt, wp_le, wp_gt, wp_ge, wp_neg, wp_eqS, wp_lenT, wp_lenL, wp_tupT, wp_tupL, Bool.not_true, Bool.not_false, Bool.false_eq_true, if_true, if_false, List.isEmpty_nil, List.length_map]
      by_cases e2 : idx q.atoms x = idx q.atoms y
      · simp only [List.set_cons_succ, List.set_cons_zero, wipeR, wp_mSeq, wp_mIfS, wp_mSet, wp_mRet, wp_mDrop, wp_mNx, wp_mPar, wp_parF, wp_mB, wp_mBin, wp_mUn, wp_mCall, wp_mFn, wp_mNil, wp_mCons, wp_mTup, wp_mLst, wp_mIf, wp_mAndV, wp_mOrV, wp_mNotV, wp_mIsN, wp_mNotN, wp_asB, wp_asI, wp_mTru, wp_truB, wp_mAnd, wp_mOr, wp_mNot, wp_mYes, wp_mPart, wp_mSl, wp_mVs, wp_mV0, wp_mC, wp_ret, wp_sub, wp_addI, wp_lt, wp_le, wp_gt, wp_ge, wp_neg, wp_eqS, wp_lenT, wp_lenL, wp_tupT, wp_tupL, Bool.not_true, Bool.not_false, Bool.false_eq_true, if_true, if_false, e2, show decide (((idx q.atoms y).length : Int) < ((idx q.atoms y).length : Int)) = false from by simp, wp_tidx, iq0, tidx_tup, idx_fn hx, idx_fn hy]
        refine ⟨?_, trivial⟩
        unfold up
        rw [if_pos e2]
        simp
      · simp only [List.set_cons_succ, List.set_cons_zero, wipeR, wp_mSeq, wp_mIfS, wp_mSet, wp_mRet, wp_mDrop, wp_mNx, wp_mPar, wp_parF, wp_mB, wp_mBin, wp_mUn, wp_mCall, wp_mFn, wp_mNil, wp_mCons, wp_mTup, wp_mLst, wp_mIf, wp_mAndV, wp_mOrV, wp_mNotV, wp_mIsN, wp_mNotN, wp_asB, wp_asI, wp_mTru, wp_truB, wp_mAnd, wp_mOr, wp_mNot, wp_mYes, wp_mPart, wp_mSl, wp_mVs, wp_mV0, wp_mC, wp_ret, wp_sub, wp_addI, wp_lt, wp_le, wp_gt, wp_ge, wp_neg, wp_eqS, wp_lenT, wp_lenL, wp_tupT, wp_tupL, Bool.not_true, Bool.not_false, Bool.false_eq_true, if_true, if_false, show decide (((idx q.atoms y).length : Int) < ((idx q.atoms x).length : Int)) = true from decide_eq_true (by have := len_lt hs e2; omega)]
        refine ⟨?_, trivial⟩
        rw [up_iff.mpr (.inr ⟨e2, hs⟩)]
def pairD (q : Qu) (x : Str) : D := .tup [.int (kk q x : Nat), .str x]
theorem Gr.bl {S0 S : Sto} {n : Nat} {o : Ob} (h : S.ob n = some o) (hn : n < S.nx) {S' : Sto} (g : Gr S S') : S'.ob n = some o := (g.2 n hn).trans h
theorem law_path_fn {q : Qu} {c : Str} (h : OkQ q) (hn : Nst q) (hc : c ∈ q.cols) (fin : ∀ S', Gr S S' → Q (.lst ((path q c).map .str)) S') : Wp (if [qD q, .str c].length = P_law_path.length then d_law_path [qD q, .str c] else fail) S Q := by
  rw [if_pos (show [qD q, D.str c].length = P_law_path.length from rfl)]
  unfold d_law_path
  rw [wp_def, show startR N_law_path.length [qD q, .str c] = [some (qD q), some (.str c), none, none, none, none, none] from rfl]
  unfold b_law_path
  simp only [List.set_cons_succ, List.set_cons_zero, wipeR, wp_mSeq, wp_mIfS, wp_mSet, wp_mRet, wp_mDrop, wp_mNx, wp_mPar, wp_parF, wp_mB, wp_mBin, wp_mUn, wp_mCall, wp_mFn, wp_mNil, wp_mCons, wp_mTup, wp_mLst, wp_mIf, wp_mAndV, wp_mOrV, wp_mNotV, wp_mIsN, wp_mNotN, wp_asB, wp_asI, wp_mTru, wp_truB, wp_mAnd, wp_mOr, wp_mNot, wp_mYes, wp_mPart, wp_mSl, wp_mVs, wp_mV0, wp_mC, wp_ret, wp_sub, wp_addI, wp_lt, wp_le, wp_gt, wp_ge, wp_neg, wp_eqS, wp_lenT, wp_lenL, wp_tupT, wp_tupL, Bool.not_true, Bool.not_false, Bool.false_eq_true, if_true, if_false, wp_mLc, wp_mISeq, iq0, src_tup]
  rw [lcA (t := fun x => up q x c) (f := D.str) (c := D.str) (l := q.cols) srcOk_nil fun x hx => ⟨_, rfl, by simp only [List.set_cons_succ, List.set_cons_zero, wipeR, wp_mSeq, wp_mIfS, wp_mSet, wp_mRet, wp_mDrop, wp_mNx, wp_mPar, wp_parF, wp_mB, wp_mBin, wp_mUn, wp_mCall, wp_mFn, wp_mNil, wp_mCons, wp_mTup, wp_mLst, wp_mIf, wp_mAndV, wp_mOrV, wp_mNotV, wp_mIsN, wp_mNotN, wp_asB, wp_asI, wp_mTru, wp_truB, wp_mAnd, wp_mOr, wp_mNot, wp_mYes, wp_mPart, wp_mSl, wp_mVs, wp_mV0, wp_mC, wp_ret, wp_sub, wp_addI, wp_lt, wp_le, wp_gt, wp_ge, wp_neg, wp_eqS, wp_lenT, wp_lenL, wp_tupT, wp_tupL, Bool.not_true, Bool.not_false, Bool.false_eq_true, if_true, if_false, law_above_fn h hx hc]; (first | exact ⟨trivial, trivial⟩ | exact ⟨rfl, trivial⟩ | exact ⟨trivial, rfl⟩ | exact ⟨rfl, rfl⟩), fun _ => by simp only [List.set_cons_succ, List.set_cons_zero, wipeR, wp_mSeq, wp_mIfS, wp_mSet, wp_mRet, wp_mDrop, wp_mNx, wp_mPar, wp_parF, wp_mB, wp_mBin, wp_mUn, wp_mCall, wp_mFn, wp_mNil, wp_mCons, wp_mTup, wp_mLst, wp_mIf, wp_mAndV, wp_mOrV, wp_mNotV, wp_mIsN, wp_mNotN, wp_asB, wp_asI, wp_mTru, wp_truB, wp_mAnd, wp_mOr, wp_mNot, wp_mYes, wp_mPart, wp_mSl, wp_mVs, wp_mV0, wp_mC, wp_ret, wp_sub, wp_addI, wp_lt, wp_le, wp_gt, wp_ge, wp_neg, wp_eqS, wp_lenT, wp_lenL, wp_tupT, wp_tupL, Bool.not_true, Bool.not_false, Bool.false_eq_true, if_true, if_false]; (first | exact ⟨trivial, trivial⟩ | exact ⟨rfl, trivial⟩ | exact ⟨trivial, rfl⟩ | exact ⟨rfl, rfl⟩)⟩]
  rw [show (List.filter (fun x => up q x c) q.cols) = above q c from rfl, wp_lim (by rw [List.length_map]; have := above_le h (c := c); omega)]
  simp only [List.set_cons_succ, List.set_cons_zero, wipeR, wp_mSeq, wp_mIfS, wp_mSet, wp_mRet, wp_mDrop, wp_mNx, wp_mPar, wp_parF, wp_mB, wp_mBin, wp_mUn, wp_mCall, wp_mFn, wp_mNil, wp_mCons, wp_mTup, wp_mLst, wp_mIf, wp_mAndV, wp_mOrV, wp_mNotV, wp_mIsN, wp_mNotN, wp_asB, wp_asI, wp_mTru, wp_truB, wp_mAnd, wp_mOr, wp_mNot, wp_mYes, wp_mPart, wp_mSl, wp_mVs, wp_mV0, wp_mC, wp_ret, wp_sub, wp_addI, wp_lt, wp_le, wp_gt, wp_ge, wp_neg, wp_eqS, wp_lenT, wp_lenL, wp_tupT, wp_tupL, Bool.not_true, Bool.not_false, Bool.false_eq_true, if_true, if_false, wp_mNew]
  rw [new_nil]
  simp only [List.set_cons_succ, List.set_cons_zero, wipeR, wp_mSeq, wp_mIfS, wp_mSet, wp_mRet, wp_mDrop, wp_mNx, wp_mPar, wp_parF, wp_mB, wp_mBin, wp_mUn, wp_mCall, wp_mFn, wp_mNil, wp_mCons, wp_mTup, wp_mLst, wp_mIf, wp_mAndV, wp_mOrV, wp_mNotV, wp_mIsN, wp_mNotN, wp_asB, wp_asI, wp_mTru, wp_truB, wp_mAnd, wp_mOr, wp_mNot, wp_mYes, wp_mPart, wp_mSl, wp_mVs, wp_mV0, wp_mC, wp_ret, wp_sub, wp_addI, wp_lt, wp_le, wp_gt, wp_ge, wp_neg, wp_eqS, wp_lenT, wp_lenL, wp_tupT, wp_tupL, Bool.not_true, Bool.not_false, Bool.false_eq_true, if_true, if_false, wp_mFor, wp_mISeq, src_lst]
  refine Wp.mono (loopA_done (src := ⟨(above q c).map D.str, []⟩) (l := above q c) (pre := []) (c := D.str) (g := gV 4) (I := fun done r S1 => (∃ x4 x5, r = [some (qD q), some (.str c), some (.lst ((above q c).map .str)), some (.ref S.nx), x4, x5, none]) ∧ S1.ob S.nx = some (.lst (done.map (pairD q))) ∧ Gr S S1 ∧ S.nx < S1.nx) (fun _ _ _ _ => srcOk_nil) ⟨⟨_, _, rfl⟩, by rw [Sto.new_ob, if_pos rfl]; rfl, Gr.refl.new, Nat.lt_succ_self _⟩ ?_) ?_
  · rintro done x rest e r S1 ⟨⟨x4, x5, rfl⟩, ho, g, hx⟩
    have e : above q c = done ++ x :: rest := by simpa using e
    have hxm : x ∈ above q c := by rw [e]; simp
    have hlen : done.length ≤ 6 := by have := above_le h (c := c); rw [e] at this; simp at this; omega
    refine ⟨_, rfl, ?_⟩
    simp only [List.set_cons_succ, List.set_cons_zero, wipeR, wp_mSeq, wp_mIfS, wp_mSet, wp_mRet, wp_mDrop, wp_mNx, wp_mPar, wp_parF, wp_mB, wp_mBin, wp_mUn, wp_mCall, wp_mFn, wp_mNil, wp_mCons, wp_mTup, wp_mLst, wp_mIf, wp_mAndV, wp_mOrV, wp_mNotV, wp_mIsN, wp_mNotN, wp_asB, wp_asI, wp_mTru, wp_truB, wp_mAnd, wp_mOr, wp_mNot, wp_mYes, wp_mPart, wp_mSl, wp_mVs, wp_mV0, wp_mC, wp_ret, wp_sub, wp_addI, wp_lt, wp_le, wp_gt, wp_ge, wp_neg, wp_eqS, wp_lenT, wp_lenL, wp_tupT, wp_tupL, Bool.not_true, Bool.not_false, Bool.false_eq_true, if_true, if_false, wp_mLc, wp_mISeq, src_lst]
    rw [lcA (t := fun z => up q z x) (f := D.str) (c := D.str) (l := above q c) srcOk_nil fun z hz => ⟨_, rfl, by simp only [List.set_cons_succ, List.set_cons_zero, wipeR, wp_mSeq, wp_mIfS, wp_mSet, wp_mRet, wp_mDrop, wp_mNx, wp_mPar, wp_parF, wp_mB, wp_mBin, wp_mUn, wp_mCall, wp_mFn, wp_mNil, wp_mCons, wp_mTup, wp_mLst, wp_mIf, wp_mAndV, wp_mOrV, wp_mNotV, wp_mIsN, wp_mNotN, wp_asB, wp_asI, wp_mTru, wp_truB, wp_mAnd, wp_mOr, wp_mNot, wp_mYes, wp_mPart, wp_mSl, wp_mVs, wp_mV0, wp_mC, wp_ret, wp_sub, wp_addI, wp_lt, wp_le, wp_gt, wp_ge, wp_neg, wp_eqS, wp_lenT, wp_lenL, wp_tupT, wp_tupL, Bool.not_true, Bool.not_false, Bool.false_eq_true, if_true, if_false, law_above_fn h (mem_above.mp hz).1 (mem_above.mp hxm).1]; (first | exact ⟨trivial, trivial⟩ | exact ⟨rfl, trivial⟩ | exact ⟨trivial, rfl⟩ | exact ⟨rfl, rfl⟩), fun _ => by simp only [List.set_cons_succ, List.set_cons_zero, wipeR, wp_mSeq, wp_mIfS, wp_mSet, wp_mRet, wp_mDrop, wp_mNx, wp_mPar, wp_parF, wp_mB, wp_mBin, wp_mUn, wp_mCall, wp_mFn, wp_mNil, wp_mCons, wp_mTup, wp_mLst, wp_mIf, wp_mAndV, wp_mOrV, wp_mNotV, wp_mIsN, wp_mNotN, wp_asB, wp_asI, wp_mTru, wp_truB, wp_mAnd, wp_mOr, wp_mNot, wp_mYes, wp_mPart, wp_mSl, wp_mVs, wp_mV0, wp_mC, wp_ret, wp_sub, wp_addI, wp_lt, wp_le, wp_gt, wp_ge, wp_neg, wp_eqS, wp_lenT, wp_lenL, wp_tupT, wp_tupL, Bool.not_true, Bool.not_false, Bool.false_eq_true, if_true, if_false]; (first | exact ⟨trivial, trivial⟩ | exact ⟨rfl, trivial⟩ | exact ⟨trivial, rfl⟩ | exact ⟨rfl, rfl⟩)⟩]
    rw [above_above hxm, wp_lim (by rw [List.length_map]; have := above_le h (c := x); omega)]
    simp only [List.set_cons_succ, List.set_cons_zero, wipeR, wp_mSeq, wp_mIfS, wp_mSet, wp_mRet, wp_mDrop, wp_mNx, wp_mPar, wp_parF, wp_mB, wp_mBin, wp_mUn, wp_mCall, wp_mFn, wp_mNil, wp_mCons, wp_mTup, wp_mLst, wp_mIf, wp_mAndV, wp_mOrV, wp_mNotV, wp_mIsN, wp_mNotN, wp_asB, wp_asI, wp_mTru, wp_truB, wp_mAnd, wp_mOr, wp_mNot, wp_mYes, wp_mPart, wp_mSl, wp_mVs, wp_mV0, wp_mC, wp_ret, wp_sub, wp_addI, wp_lt, wp_le, wp_gt, wp_ge, wp_neg, wp_eqS, wp_lenT, wp_lenL, wp_tupT, wp_tupL, Bool.not_true, Bool.not_false, Bool.false_eq_true, if_true, if_false, wp_mMet]
    refine (wp_ref (f := appM) ho).mpr ?_
    simp only [List.set_cons_succ, List.set_cons_zero, wipeR, wp_mSeq, wp_mIfS, wp_mSet, wp_mRet, wp_mDrop, wp_mNx, wp_mPar, wp_parF, wp_mB, wp_mBin, wp_mUn, wp_mCall, wp_mFn, wp_mNil, wp_mCons, wp_mTup, wp_mLst, wp_mIf, wp_mAndV, wp_mOrV, wp_mNotV, wp_mIsN, wp_mNotN, wp_asB, wp_asI, wp_mTru, wp_truB, wp_mAnd, wp_mOr, wp_mNot, wp_mYes, wp_mPart, wp_mSl, wp_mVs, wp_mV0, wp_mC, wp_ret, wp_sub, wp_addI, wp_lt, wp_le, wp_gt, wp_ge, wp_neg, wp_eqS, wp_lenT, wp_lenL, wp_tupT, wp_tupL, Bool.not_true, Bool.not_false, Bool.false_eq_true, if_true, if_false, Mn.mt2, List.length_map]
    rw [app_wp ho (by rw [List.length_map]; omega)]
    exact ⟨trivial, ⟨_, _, rfl⟩, by rw [ob_set, List.map_append]; rfl, g.setN (Nat.le_refl _), hx⟩
  · rintro ⟨fl, r⟩ S1 ⟨e1, ⟨x4, x5, rfl⟩, ho, g, hx⟩
    have e1 : fl = .nx := e1
    subst e1
    rw [List.nil_append] at ho
    obtain ⟨l', hp, hw, hsr⟩ := sortL_any (f := pairD q) (g := fun x => .tuple [.int (kk q x : Nat), .str x]) (l := above q c) (fun x hx => by
      have hsx := h.cs x (mem_above.mp hx).1
      unfold pairD
      rw [pdT.eq_def]
      simp only [pdL]
      rw [show pdT (.int (kk q x : Nat)) = some (.int (kk q x : Nat)) from rfl, show pdT (.str x) = some (.str x) by rw [pdT, if_pos hsx.1]]; rfl) (fun x _ y _ => by simp [PySem.W.alike, PySem.W.alikeAll]) (fun x _ => ⟨_, _, rfl⟩) (fun x _ => by simp [PyData.depth, PyData.depthAll])
    have hck := chn_above hn hc
    have hl' : l' = sortK q (above q c) := by
      refine sort_one hck hp (hw.imp_of_mem fun {x y} hx hy hle => ?_)
      rcases Nat.lt_or_ge (kk q y) (kk q x) with g | g
      · have := dle_lt hle
        rw [dl2 (by omega)] at this
        cases this
      · exact g
    have wsort : Wp (sortM [.ref S.nx]) S1 = fun Q => Q (.lst (l'.map (pairD q))) S1 := by
      funext Q
      exact propext (wp_some (by unfold sortM items; simp only [ho, hsr]; rfl))
    simp only [List.set_cons_succ, List.set_cons_zero, wipeR, wp_mSeq, wp_mIfS, wp_mSet, wp_mRet, wp_mDrop, wp_mNx, wp_mPar, wp_parF, wp_mB, wp_mBin, wp_mUn, wp_mCall, wp_mFn, wp_mNil, wp_mCons, wp_mTup, wp_mLst, wp_mIf, wp_mAndV, wp_mOrV, wp_mNotV, wp_mIsN, wp_mNotN, wp_asB, wp_asI, wp_mTru, wp_truB, wp_mAnd, wp_mOr, wp_mNot, wp_mYes, wp_mPart, wp_mSl, wp_mVs, wp_mV0, wp_mC, wp_ret, wp_sub, wp_addI, wp_lt, wp_le, wp_gt, wp_ge, wp_neg, wp_eqS, wp_lenT, wp_lenL, wp_tupT, wp_tupL, Bool.not_true, Bool.not_false, Bool.false_eq_true, if_true, if_false, wp_mLc, wp_mISeq, wsort, src_lst]
    rw [lcA (t := fun _ => true) (f := D.str) (c := pairD q) (l := l') srcOk_nil fun x hx => ⟨[some (qD q), some (.str c), some (.lst ((above q c).map .str)), some (.ref S.nx), some (.str x), some (.int (kk q x : Nat)), none], rfl, by simp only [List.set_cons_succ, List.set_cons_zero, wipeR, wp_mSeq, wp_mIfS, wp_mSet, wp_mRet, wp_mDrop, wp_mNx, wp_mPar, wp_parF, wp_mB, wp_mBin, wp_mUn, wp_mCall, wp_mFn, wp_mNil, wp_mCons, wp_mTup, wp_mLst, wp_mIf, wp_mAndV, wp_mOrV, wp_mNotV, wp_mIsN, wp_mNotN, wp_asB, wp_asI, wp_mTru, wp_truB, wp_mAnd, wp_mOr, wp_mNot, wp_mYes, wp_mPart, wp_mSl, wp_mVs, wp_mV0, wp_mC, wp_ret, wp_sub, wp_addI, wp_lt, wp_le, wp_gt, wp_ge, wp_neg, wp_eqS, wp_lenT, wp_lenL, wp_tupT, wp_tupL, Bool.not_true, Bool.not_false, Bool.false_eq_true, if_true, if_false]; (first | exact ⟨trivial, trivial⟩ | exact ⟨rfl, trivial⟩ | exact ⟨trivial, rfl⟩ | exact ⟨rfl, rfl⟩), fun _ => by simp only [List.set_cons_succ, List.set_cons_zero, wipeR, wp_mSeq, wp_mIfS, wp_mSet, wp_mRet, wp_mDrop, wp_mNx, wp_mPar, wp_parF, wp_mB, wp_mBin, wp_mUn, wp_mCall, wp_mFn, wp_mNil, wp_mCons, wp_mTup, wp_mLst, wp_mIf, wp_mAndV, wp_mOrV, wp_mNotV, wp_mIsN, wp_mNotN, wp_asB, wp_asI, wp_mTru, wp_truB, wp_mAnd, wp_mOr, wp_mNot, wp_mYes, wp_mPart, wp_mSl, wp_mVs, wp_mV0, wp_mC, wp_ret, wp_sub, wp_addI, wp_lt, wp_le, wp_gt, wp_ge, wp_neg, wp_eqS, wp_lenT, wp_lenL, wp_tupT, wp_tupL, Bool.not_true, Bool.not_false, Bool.false_eq_true, if_true, if_false]; (first | exact ⟨trivial, trivial⟩ | exact ⟨rfl, trivial⟩ | exact ⟨trivial, rfl⟩ | exact ⟨rfl, rfl⟩)⟩]
    have hl6 : l'.length ≤ 6 := by rw [hp.length_eq]; exact above_le h
    rw [filt_true, wp_lim (by rw [List.length_map]; omega)]
    simp only [List.set_cons_succ, List.set_cons_zero, wipeR, wp_mSeq, wp_mIfS, wp_mSet, wp_mRet, wp_mDrop, wp_mNx, wp_mPar, wp_parF, wp_mB, wp_mBin, wp_mUn, wp_mCall, wp_mFn, wp_mNil, wp_mCons, wp_mTup, wp_mLst, wp_mIf, wp_mAndV, wp_mOrV, wp_mNotV, wp_mIsN, wp_mNotN, wp_asB, wp_asI, wp_mTru, wp_truB, wp_mAnd, wp_mOr, wp_mNot, wp_mYes, wp_mPart, wp_mSl, wp_mVs, wp_mV0, wp_mC, wp_ret, wp_sub, wp_addI, wp_lt, wp_le, wp_gt, wp_ge, wp_neg, wp_eqS, wp_lenT, wp_lenL, wp_tupT, wp_tupL, Bool.not_true, Bool.not_false, Bool.false_eq_true, if_true, if_false, ml1]
    rw [wp_addL (by rw [List.length_map]; simp; omega)]
    rw [hl', show (List.map D.str (sortK q (above q c)) ++ [D.str c]) = (path q c).map .str by unfold path; rw [List.map_append]; rfl]
    exact fin S1 g
end
section
variable {S : Sto} {b : Nat} {Q : D → Sto → Prop} {ts : Nat → Addr}
/-! ### the law: children, ways, through, factors -/
theorem Gr.set_new {S0 S : Sto} {o : Ob} (g : Gr S0 S) {n : Nat} (h : S0.nx ≤ n) : Gr S0 (S.set n o) := g.setN h
theorem parN {q : Qu} {x : Str} (h : par q x = none) : decide ((1 : Int) < ((path q x).map D.str).length) = false := by
  rw [List.length_map, path_len, par_none.mp h]; rfl
theorem parS {q : Qu} {x p : Str} (h : par q x = some p) : decide ((1 : Int) < ((path q x).map D.str).length) = true := by
  have : (above q x).length ≠ 0 := fun e => by rw [par_none.mpr (List.eq_nil_of_length_eq_zero e)] at h; cases h
  rw [List.length_map, path_len]
  exact decide_eq_true (by omega)
theorem parM {q : Qu} {x : Str} {i : Nat} {rho : Mn.Env} (e : ∀ S Q, Wp (mV i rho) S Q ↔ Q (.lst ((path q x).map .str)) S) :
    Wp (mIf (mB (mBin gtM (mCall lenM (mCons (mV i) mNil)) (mC (.int 1)))) (mBin ixM (mV i) (mUn negM (mC (.int 2)))) (mC .non) rho) S Q ↔ Q (opD (par q x)) S := by
  simp only [List.set_cons_succ, List.set_cons_zero, wipeR, wp_mSeq, wp_mIfS, wp_mSet, wp_mRet, wp_mDrop, wp_mNx, wp_mPar, wp_parF, wp_mB, wp_mBin, wp_mUn, wp_mCall, wp_mFn, wp_mNil, wp_mCons, wp_mTup, wp_mLst, wp_mIf, wp_mAndV, wp_mOrV, wp_mNotV, wp_mIsN, wp_mNotN, wp_asB, wp_asI, wp_mTru, wp_truB, wp_mAnd, wp_mOr, wp_mNot, wp_mYes, wp_mPart, wp_mSl, wp_mVs, wp_mV0, wp_mC, wp_ret, wp_sub, wp_addI, wp_lt, wp_le, wp_gt, wp_ge, wp_neg, wp_eqS, wp_lenT, wp_lenL, wp_tupT, wp_tupL, Bool.not_true, Bool.not_false, Bool.false_eq_true, if_true, if_false, e]
  cases hp : par q x with
  | none =>
    rw [parN hp]
    simp only [List.set_cons_succ, List.set_cons_zero, wipeR, wp_mSeq, wp_mIfS, wp_mSet, wp_mRet, wp_mDrop, wp_mNx, wp_mPar, wp_parF, wp_mB, wp_mBin, wp_mUn, wp_mCall, wp_mFn, wp_mNil, wp_mCons, wp_mTup, wp_mLst, wp_mIf, wp_mAndV, wp_mOrV, wp_mNotV, wp_mIsN, wp_mNotN, wp_asB, wp_asI, wp_mTru, wp_truB, wp_mAnd, wp_mOr, wp_mNot, wp_mYes, wp_mPart, wp_mSl, wp_mVs, wp_mV0, wp_mC, wp_ret, wp_sub, wp_addI, wp_lt, wp_le, wp_gt, wp_ge, wp_neg, wp_eqS, wp_lenT, wp_lenL, wp_tupT, wp_tupL, Bool.not_true, Bool.not_false, Bool.false_eq_true, if_true, if_false]
    rfl
  | some p =>
    rw [parS hp]
    simp only [List.set_cons_succ, List.set_cons_zero, wipeR, wp_mSeq, wp_mIfS, wp_mSet, wp_mRet, wp_mDrop, wp_mNx, wp_mPar, wp_parF, wp_mB, wp_mBin, wp_mUn, wp_mCall, wp_mFn, wp_mNil, wp_mCons, wp_mTup, wp_mLst, wp_mIf, wp_mAndV, wp_mOrV, wp_mNotV, wp_mIsN, wp_mNotN, wp_asB, wp_asI, wp_mTru, wp_truB, wp_mAnd, wp_mOr, wp_mNot, wp_mYes, wp_mPart, wp_mSl, wp_mVs, wp_mV0, wp_mC, wp_ret, wp_sub, wp_addI, wp_lt, wp_le, wp_gt, wp_ge, wp_neg, wp_eqS, wp_lenT, wp_lenL, wp_tupT, wp_tupL, Bool.not_true, Bool.not_false, Bool.false_eq_true, if_true, if_false, e]
    rw [wp_ixL (path_par hp)]
    rfl
theorem law_children_fn {q : Qu} {o : Option Str} (h : OkQ q) (hn : Nst q) (ho : ∀ p, o = some p → Sm p) (fin : ∀ S' n, Gr S S' → S.nx ≤ n → n < S'.nx → S'.ob n = some (.lst ((ch q o).map .str)) → Q (.ref n) S') :
    Wp (if [qD q, opD o].length = P_law_children.length then d_law_children [qD q, opD o] else fail) S Q := by
  rw [if_pos (show [qD q, opD o].length = P_law_children.length from rfl)]
  unfold d_law_children
  rw [wp_def, show startR N_law_children.length [qD q, opD o] = [some (qD q), some (opD o), none, none, none] from rfl]
  unfold b_law_children
  simp only [List.set_cons_succ, List.set_cons_zero, wipeR, wp_mSeq, wp_mIfS, wp_mSet, wp_mRet, wp_mDrop, wp_mNx, wp_mPar, wp_parF, wp_mB, wp_mBin, wp_mUn, wp_mCall, wp_mFn, wp_mNil, wp_mCons, wp_mTup, wp_mLst, wp_mIf, wp_mAndV, wp_mOrV, wp_mNotV, wp_mIsN, wp_mNotN, wp_asB, wp_asI, wp_mTru, wp_truB, wp_mAnd, wp_mOr, wp_mNot, wp_mYes, wp_mPart, wp_mSl, wp_mVs, wp_mV0, wp_mC, wp_ret, wp_sub, wp_addI, wp_lt, wp_le, wp_gt, wp_ge, wp_neg, wp_eqS, wp_lenT, wp_lenL, wp_tupT, wp_tupL, Bool.not_true, Bool.not_false, Bool.false_eq_true, if_true, if_false, wp_mNew]
  rw [new_nil]
  simp only [List.set_cons_succ, List.set_cons_zero, wipeR, wp_mSeq, wp_mIfS, wp_mSet, wp_mRet, wp_mDrop, wp_mNx, wp_mPar, wp_parF, wp_mB, wp_mBin, wp_mUn, wp_mCall, wp_mFn, wp_mNil, wp_mCons, wp_mTup, wp_mLst, wp_mIf, wp_mAndV, wp_mOrV, wp_mNotV, wp_mIsN, wp_mNotN, wp_asB, wp_asI, wp_mTru, wp_truB, wp_mAnd, wp_mOr, wp_mNot, wp_mYes, wp_mPart, wp_mSl, wp_mVs, wp_mV0, wp_mC, wp_ret, wp_sub, wp_addI, wp_lt, wp_le, wp_gt, wp_ge, wp_neg, wp_eqS, wp_lenT, wp_lenL, wp_tupT, wp_tupL, Bool.not_true, Bool.not_false, Bool.false_eq_true, if_true, if_false, wp_mFor, wp_mISeq, iq0, src_tup]
  refine Wp.mono (loopA_done (src := ⟨q.cols.map D.str, []⟩) (l := q.cols) (pre := []) (c := D.str) (g := gV 3) (I := fun done r S1 => (∃ x3 x4, r = [some (qD q), some (opD o), some (.ref S.nx), x3, x4]) ∧ S1.ob S.nx = some (.lst ((done.filter fun x => decide (par q x = o)).map .str)) ∧ Gr S S1 ∧ S.nx < S1.nx) (fun _ _ _ _ => srcOk_nil) ⟨⟨_, _, rfl⟩, by rw [Sto.new_ob, if_pos rfl]; rfl, Gr.refl.new, Nat.lt_succ_self _⟩ ?_) ?_
  · rintro done x rest e r S1 ⟨⟨x3, x4, rfl⟩, hob, g, hx⟩
    have e : q.cols = done ++ x :: rest := by simpa using e
    have hxm : x ∈ q.cols := by rw [e]; simp
    have hlen : done.length ≤ 6 := by have := h.c; rw [e] at this; simp at this; omega
    refine ⟨_, rfl, ?_⟩
    rw [wp_mSeq, wp_mSet, wp_mFn]
    simp only [wp_mCons, wp_mNil, List.set_cons_succ, List.set_cons_zero, wp_mVs, wp_mV0]
    refine law_path_fn h hn hxm fun S2 g2 => ?_
    have hob2 : S2.ob S.nx = some (.lst ((done.filter fun x => decide (par q x = o)).map .str)) := (g2.2 _ hx).trans hob
    have hl1 : (((done.filter fun x => decide (par q x = o)).map D.str)).length ≤ 1000 := by rw [List.length_map]; have := List.length_filter_le (fun x => decide (par q x = o)) done; omega
    rw [wp_mSeq, wp_mIfS, wp_mB, wp_mBin, parM (q := q) (x := x) (fun S Q => by simp only [List.set_cons_succ, List.set_cons_zero, wipeR, wp_mSeq, wp_mIfS, wp_mSet, wp_mRet, wp_mDrop, wp_mNx, wp_mPar, wp_parF, wp_mB, wp_mBin, wp_mUn, wp_mCall, wp_mFn, wp_mNil, wp_mCons, wp_mTup, wp_mLst, wp_mIf, wp_mAndV, wp_mOrV, wp_mNotV, wp_mIsN, wp_mNotN, wp_asB, wp_asI, wp_mTru, wp_truB, wp_mAnd, wp_mOr, wp_mNot, wp_mYes, wp_mPart, wp_mSl, wp_mVs, wp_mV0, wp_mC, wp_ret, wp_sub, wp_addI, wp_lt, wp_le, wp_gt, wp_ge, wp_neg, wp_eqS, wp_lenT, wp_lenL, wp_tupT, wp_tupL, Bool.not_true, Bool.not_false, Bool.false_eq_true, if_true, if_false])]
    simp only [wp_mVs, wp_mV0]
    rw [opD_eqO (fun p hp => par_sm h hp) ho]
    simp only [List.set_cons_succ, List.set_cons_zero, wipeR, wp_mSeq, wp_mIfS, wp_mSet, wp_mRet, wp_mDrop, wp_mNx, wp_mPar, wp_parF, wp_mB, wp_mBin, wp_mUn, wp_mCall, wp_mFn, wp_mNil, wp_mCons, wp_mTup, wp_mLst, wp_mIf, wp_mAndV, wp_mOrV, wp_mNotV, wp_mIsN, wp_mNotN, wp_asB, wp_asI, wp_mTru, wp_truB, wp_mAnd, wp_mOr, wp_mNot, wp_mYes, wp_mPart, wp_mSl, wp_mVs, wp_mV0, wp_mC, wp_ret, wp_sub, wp_addI, wp_lt, wp_le, wp_gt, wp_ge, wp_neg, wp_eqS, wp_lenT, wp_lenL, wp_tupT, wp_tupL, Bool.not_true, Bool.not_false, Bool.false_eq_true, if_true, if_false]
    by_cases hp : par q x = o
    · simp only [List.set_cons_succ, List.set_cons_zero, wipeR, wp_mSeq, wp_mIfS, wp_mSet, wp_mRet, wp_mDrop, wp_mNx, wp_mPar, wp_parF, wp_mB, wp_mBin, wp_mUn, wp_mCall, wp_mFn, wp_mNil, wp_mCons, wp_mTup, wp_mLst, wp_mIf, wp_mAndV, wp_mOrV, wp_mNotV, wp_mIsN, wp_mNotN, wp_asB, wp_asI, wp_mTru, wp_truB, wp_mAnd, wp_mOr, wp_mNot, wp_mYes, wp_mPart, wp_mSl, wp_mVs, wp_mV0, wp_mC, wp_ret, wp_sub, wp_addI, wp_lt, wp_le, wp_gt, wp_ge, wp_neg, wp_eqS, wp_lenT, wp_lenL, wp_tupT, wp_tupL, Bool.not_true, Bool.not_false, Bool.false_eq_true, if_true, if_false, decide_eq_true hp, wp_mMet]
      refine (wp_ref (f := appM) hob2).mpr ?_
      simp only [List.set_cons_succ, List.set_cons_zero, wipeR, wp_mSeq, wp_mIfS, wp_mSet, wp_mRet, wp_mDrop, wp_mNx, wp_mPar, wp_parF, wp_mB, wp_mBin, wp_mUn, wp_mCall, wp_mFn, wp_mNil, wp_mCons, wp_mTup, wp_mLst, wp_mIf, wp_mAndV, wp_mOrV, wp_mNotV, wp_mIsN, wp_mNotN, wp_asB, wp_asI, wp_mTru, wp_truB, wp_mAnd, wp_mOr, wp_mNot, wp_mYes, wp_mPart, wp_mSl, wp_mVs, wp_mV0, wp_mC, wp_ret, wp_sub, wp_addI, wp_lt, wp_le, wp_gt, wp_ge, wp_neg, wp_eqS, wp_lenT, wp_lenL, wp_tupT, wp_tupL, Bool.not_true, Bool.not_false, Bool.false_eq_true, if_true, if_false]
      rw [app_wp hob2 hl1]
      exact ⟨trivial, ⟨_, _, rfl⟩, by rw [ob_set, List.filter_append, List.map_append, List.filter_cons_of_pos (by simpa using hp)]; rfl, (g.trans g2).setN (Nat.le_refl _), Nat.lt_of_lt_of_le hx g2.1⟩
    · simp only [List.set_cons_succ, List.set_cons_zero, wipeR, wp_mSeq, wp_mIfS, wp_mSet, wp_mRet, wp_mDrop, wp_mNx, wp_mPar, wp_parF, wp_mB, wp_mBin, wp_mUn, wp_mCall, wp_mFn, wp_mNil, wp_mCons, wp_mTup, wp_mLst, wp_mIf, wp_mAndV, wp_mOrV, wp_mNotV, wp_mIsN, wp_mNotN, wp_asB, wp_asI, wp_mTru, wp_truB, wp_mAnd, wp_mOr, wp_mNot, wp_mYes, wp_mPart, wp_mSl, wp_mVs, wp_mV0, wp_mC, wp_ret, wp_sub, wp_addI, wp_lt, wp_le, wp_gt, wp_ge, wp_neg, wp_eqS, wp_lenT, wp_lenL, wp_tupT, wp_tupL, Bool.not_true, Bool.not_false, Bool.false_eq_true, if_true, if_false, decide_eq_false hp]
      exact ⟨trivial, ⟨_, _, rfl⟩, by rw [hob2, List.filter_append, List.filter_cons_of_neg (by simpa using hp), List.filter_nil, List.append_nil], g.trans g2, Nat.lt_of_lt_of_le hx g2.1⟩
  · rintro ⟨fl, r⟩ S1 ⟨e1, ⟨x3, x4, rfl⟩, hob, g, hx⟩
    have e1 : fl = .nx := e1
    subst e1
    rw [List.nil_append] at hob
    simp only [List.set_cons_succ, List.set_cons_zero, wipeR, wp_mSeq, wp_mIfS, wp_mSet, wp_mRet, wp_mDrop, wp_mNx, wp_mPar, wp_parF, wp_mB, wp_mBin, wp_mUn, wp_mCall, wp_mFn, wp_mNil, wp_mCons, wp_mTup, wp_mLst, wp_mIf, wp_mAndV, wp_mOrV, wp_mNotV, wp_mIsN, wp_mNotN, wp_asB, wp_asI, wp_mTru, wp_truB, wp_mAnd, wp_mOr, wp_mNot, wp_mYes, wp_mPart, wp_mSl, wp_mVs, wp_mV0, wp_mC, wp_ret, wp_sub, wp_addI, wp_lt, wp_le, wp_gt, wp_ge, wp_neg, wp_eqS, wp_lenT, wp_lenL, wp_tupT, wp_tupL, Bool.not_true, Bool.not_false, Bool.false_eq_true, if_true, if_false]
    exact fin S1 _ g (Nat.le_refl _) hx hob
end
theorem ints_of {B : Int → Prop} : ∀ {r : List D}, (∀ y ∈ r, ∃ v : Int, y = .int v ∧ B v) → ∃ l : List Int, r = l.map .int ∧ ∀ v ∈ l, B v
  | [], _ => ⟨[], rfl, fun _ h => nomatch h⟩
  | y :: r, h => by
    obtain ⟨v, rfl, hv⟩ := h y List.mem_cons_self
    obtain ⟨l, rfl, hl⟩ := ints_of (r := r) fun z hz => h z (List.mem_cons_of_mem _ hz)
    exact ⟨v :: l, rfl, fun x hx => (List.mem_cons.mp hx).elim (fun e => by rw [e]; exact hv) (hl x)⟩
theorem Gr.kp {b : Nat} {S S' : Sto} (g : Gr S S') : Kp b S S' := ⟨g.1, fun n _ h => g.2 n h⟩
mutual
theorem pdR_of : ∀ (d : D) (p : PyData), pdT d = some p → pdR d = some p
  | .non, p, h => by rw [pdT] at h; rw [pdR]; exact h
  | .bl b, p, h => by rw [pdT] at h; rw [pdR]; exact h
  | .int b, p, h => by rw [pdT] at h; rw [pdR]; exact h
  | .str x, p, h => by
    rw [pdT] at h; rw [pdR]
    split at h
    · exact h
    · cases h
  | .tup ds, p, h => by
    rw [pdT.eq_def] at h; rw [pdR]
    simp only at h
    cases hp : pdL ds with
    | none => rw [hp] at h; cases h
    | some ps => rw [hp] at h; rw [pdRL_of ds ps hp]; exact h
  | .lst ds, p, h => by
    rw [pdT.eq_def] at h; rw [pdR]
    simp only at h
    cases hp : pdL ds with
    | none => rw [hp] at h; cases h
    | some ps => rw [hp] at h; rw [pdRL_of ds ps hp]; exact h
  | .rol ds, p, h => by
    rw [pdT.eq_def] at h; rw [pdR]
    simp only at h
    cases hp : pdL ds with
    | none => rw [hp] at h; cases h
    | some ps => rw [hp] at h; rw [pdRL_of ds ps hp]; exact h
  | .dic ks ds, p, h => by rw [pdT.eq_def] at h; cases h
  | .ref n, p, h => by rw [pdT.eq_def] at h; cases h
theorem pdRL_of : ∀ (ds : List D) (ps : List PyData), pdL ds = some ps → pdRL ds = some ps
  | [], ps, h => by rw [pdL] at h; rw [pdRL]; exact h
  | d :: ds, ps, h => by
    rw [pdL.eq_def] at h; rw [pdRL]
    simp only at h
    cases hp : pdT d with
    | none => rw [hp] at h; cases h
    | some p =>
      rw [hp] at h
      cases hq : pdL ds with
      | none => rw [hq] at h; cases h
      | some qs => rw [hq] at h; rw [pdR_of d p hp, pdRL_of ds qs hq]; exact h
end
theorem lcA_no {α : Type} {rho : Mn.Env} {src : Src} {g : GM} {mt : EM Bool} {me : EM D} {I : Sto → Prop} {c : α → D} (ok : ∀ S, I S → srcOk src S) : ∀ {l : List α} {S : Sto}, I S →
    (∀ x ∈ l, ∃ r1, g (c x) rho = some r1 ∧ ∀ S, I S → Wp (mt r1) S fun b S1 => b = false ∧ I S1) →
    Wp (lcGo src g mt me rho (l.map c)) S fun r S1 => r = [] ∧ I S1
  | [], S, i, _ => ⟨[], S, by rw [List.map_nil]; unfold lcGo; rw [if_pos (ok S i)], rfl, i⟩
  | d :: ds, S, i, h => by
    obtain ⟨r1, h1, h2⟩ := h d List.mem_cons_self
    obtain ⟨b, S1, e1, rfl, i1⟩ := h2 S i
    obtain ⟨r, S3, e3, hr, i3⟩ := lcA_no (l := ds) (me := me) ok i1 fun x hx => h x (List.mem_cons_of_mem _ hx)
    refine ⟨r, S3, ?_, hr, i3⟩
    rw [List.map_cons]
    unfold lcGo
    rw [if_pos (ok S i), h1, Option.bind_some]
    unfold bnd
    simp only [e1, Option.bind_some, Bool.false_eq_true, if_false, e3]
section
variable {S : Sto} {b : Nat} {Q : D → Sto → Prop} {ts : Nat → Addr}
theorem new_any {ds : List D} (h : ds.length ≤ 1000) : Wp (mkNew ds) S Q ↔ Q (.ref S.nx) (S.new (.lst ds)) := wp_some (by unfold mkNew; rw [if_pos (limP (by omega))])
theorem Tb.gr {S S' : Sto} (h : Tb ts S) (g : Gr S S') : Tb ts S' := ⟨(g.2 0 h.2).trans h.1, Nat.le_trans h.2 g.1⟩
theorem Tb.kp {S S' : Sto} (h : Tb ts S) (hb : 1 ≤ b) (g : Kp b S S') : Tb ts S' := ⟨(g.2 0 (by omega) h.2).trans h.1, Nat.le_trans h.2 g.1⟩
end
section
variable {S : Sto} {Q : D → Sto → Prop}
def prD (p : D × D) : D := .tup [p.1, p.2]
def rgOf (rs : List Rn) (c : Str) : D × D := match rs.find? (fun r => r.c == c) with
  | some r => (r.lo, r.hi)
  | none => (.non, .non)
theorem rgOf_bnd {q : Qu} (h : OkQ q) (c : Str) : Bnd (rgOf q.rs c).1 ∧ Bnd (rgOf q.rs c).2 := by
  unfold rgOf
  split
  · rename_i r hr
    exact (h.rok r (List.mem_of_find?_eq_some hr)).2
  · exact ⟨.inl rfl, .inl rfl⟩
theorem iq2 {q : Qu} : Wp (ixM (qD q) (.int 2)) S Q ↔ Q (.tup (q.rs.map rnD)) S := wp_ixT rfl
theorem find_some {rs : List Rn} {c : Str} : rs.findSome? (fun r : Rn => if (r.c == c) = true then some (D.tup [r.lo, r.hi]) else none) = (rs.find? fun r => r.c == c).map fun r => D.tup [r.lo, r.hi] := by
  induction rs with
  | nil => rfl
  | cons r rs ih =>
    rw [List.findSome?_cons, List.find?_cons, ih]
    cases hc : (r.c == c) with
    | true => rfl
    | false => rfl
theorem range_fn {q : Qu} {c : Str} : Wp (if [qD q, .str c].length = P_range_of.length then d_range_of [qD q, .str c] else fail) S Q ↔ Q (prD (rgOf q.rs c)) S := by
  rw [if_pos (show [qD q, D.str c].length = P_range_of.length from rfl)]
  refine wp_some (eqOf ?_)
  unfold d_range_of
  rw [wp_def, show startR N_range_of.length [qD q, .str c] = [some (qD q), some (.str c), none, none, none] from rfl]
  unfold b_range_of
  rw [wp_mSeq, wp_mFor, wp_mISeq]
  simp only [List.set_cons_succ, List.set_cons_zero, wipeR, wp_mSeq, wp_mIfS, wp_mSet, wp_mRet, wp_mDrop, wp_mNx, wp_mPar, wp_parF, wp_mB, wp_mBin, wp_mUn, wp_mCall, wp_mFn, wp_mNil, wp_mCons, wp_mTup, wp_mLst, wp_mIf, wp_mAndV, wp_mOrV, wp_mNotV, wp_mIsN, wp_mNotN, wp_asB, wp_asI, wp_mTru, wp_truB, wp_mAnd, wp_mOr, wp_mNot, wp_mYes, wp_mPart, wp_mSl, wp_mVs, wp_mV0, wp_mC, wp_ret, wp_sub, wp_addI, wp_lt, wp_le, wp_gt, wp_ge, wp_neg, wp_eqS, wp_lenT, wp_lenL, wp_tupT, wp_tupL, Bool.not_true, Bool.not_false, Bool.false_eq_true, if_true, if_false, iq2]
  rw [src_tup]
  refine (loopA_find (src := ⟨q.rs.map rnD, []⟩) (l := q.rs) (c := rnD) (J := fun S1 => S1 = S) (I := fun r S1 => (∃ x2 x3 x4, r = [some (qD q), some (.str c), x2, x3, x4]) ∧ S1 = S) (f := fun r : Rn => if (r.c == c) = true then some (D.tup [r.lo, r.hi]) else none) (fun _ _ _ => srcOk_nil) ⟨⟨_, _, _, rfl⟩, rfl⟩ ?_).mono ?_
  · rintro r hr e S1 ⟨⟨x2, x3, x4, rfl⟩, rfl⟩
    refine ⟨[some (qD q), some (.str c), some (.str r.c), some r.lo, some r.hi], rfl, ?_⟩
    cases hc : (r.c == c) with
    | true =>
      simp only [List.set_cons_succ, List.set_cons_zero, wipeR, wp_mSeq, wp_mIfS, wp_mSet, wp_mRet, wp_mDrop, wp_mNx, wp_mPar, wp_parF, wp_mB, wp_mBin, wp_mUn, wp_mCall, wp_mFn, wp_mNil, wp_mCons, wp_mTup, wp_mLst, wp_mIf, wp_mAndV, wp_mOrV, wp_mNotV, wp_mIsN, wp_mNotN, wp_asB, wp_asI, wp_mTru, wp_truB, wp_mAnd, wp_mOr, wp_mNot, wp_mYes, wp_mPart, wp_mSl, wp_mVs, wp_mV0, wp_mC, wp_ret, wp_sub, wp_addI, wp_lt, wp_le, wp_gt, wp_ge, wp_neg, wp_eqS, wp_lenT, wp_lenL, wp_tupT, wp_tupL, Bool.not_true, Bool.not_false, Bool.false_eq_true, if_true, if_false, mt2, hc]
      (first | exact ⟨trivial, trivial⟩ | exact ⟨rfl, trivial⟩ | exact ⟨trivial, rfl⟩ | exact ⟨rfl, rfl⟩)
    | false =>
      simp only [List.set_cons_succ, List.set_cons_zero, wipeR, wp_mSeq, wp_mIfS, wp_mSet, wp_mRet, wp_mDrop, wp_mNx, wp_mPar, wp_parF, wp_mB, wp_mBin, wp_mUn, wp_mCall, wp_mFn, wp_mNil, wp_mCons, wp_mTup, wp_mLst, wp_mIf, wp_mAndV, wp_mOrV, wp_mNotV, wp_mIsN, wp_mNotN, wp_asB, wp_asI, wp_mTru, wp_truB, wp_mAnd, wp_mOr, wp_mNot, wp_mYes, wp_mPart, wp_mSl, wp_mVs, wp_mV0, wp_mC, wp_ret, wp_sub, wp_addI, wp_lt, wp_le, wp_gt, wp_ge, wp_neg, wp_eqS, wp_lenT, wp_lenL, wp_tupT, wp_tupL, Bool.not_true, Bool.not_false, Bool.false_eq_true, if_true, if_false, hc]
      exact ⟨trivial, ⟨_, _, _, rfl⟩, trivial⟩
  · rintro ⟨fl, r⟩ S1 hm
    rw [find_some] at hm
    unfold prD rgOf
    cases hf : q.rs.find? (fun r => r.c == c) with
    | none =>
      rw [hf] at hm
      obtain ⟨e1, ⟨x2, x3, x4, e2⟩, e3⟩ := hm
      have e1 : fl = .nx := e1
      subst e1 e3
      simp only [List.set_cons_succ, List.set_cons_zero, wipeR, wp_mSeq, wp_mIfS, wp_mSet, wp_mRet, wp_mDrop, wp_mNx, wp_mPar, wp_parF, wp_mB, wp_mBin, wp_mUn, wp_mCall, wp_mFn, wp_mNil, wp_mCons, wp_mTup, wp_mLst, wp_mIf, wp_mAndV, wp_mOrV, wp_mNotV, wp_mIsN, wp_mNotN, wp_asB, wp_asI, wp_mTru, wp_truB, wp_mAnd, wp_mOr, wp_mNot, wp_mYes, wp_mPart, wp_mSl, wp_mVs, wp_mV0, wp_mC, wp_ret, wp_sub, wp_addI, wp_lt, wp_le, wp_gt, wp_ge, wp_neg, wp_eqS, wp_lenT, wp_lenL, wp_tupT, wp_tupL, Bool.not_true, Bool.not_false, Bool.false_eq_true, if_true, if_false, mt2]
      (first | exact ⟨trivial, trivial⟩ | exact ⟨rfl, trivial⟩ | exact ⟨trivial, rfl⟩ | exact ⟨rfl, rfl⟩)
    | some r =>
      rw [hf] at hm
      obtain ⟨e1, e3⟩ := hm
      have e1 : fl = .rt _ := e1
      subst e1 e3
      simp only [List.set_cons_succ, List.set_cons_zero, wipeR, wp_mSeq, wp_mIfS, wp_mSet, wp_mRet, wp_mDrop, wp_mNx, wp_mPar, wp_parF, wp_mB, wp_mBin, wp_mUn, wp_mCall, wp_mFn, wp_mNil, wp_mCons, wp_mTup, wp_mLst, wp_mIf, wp_mAndV, wp_mOrV, wp_mNotV, wp_mIsN, wp_mNotN, wp_asB, wp_asI, wp_mTru, wp_truB, wp_mAnd, wp_mOr, wp_mNot, wp_mYes, wp_mPart, wp_mSl, wp_mVs, wp_mV0, wp_mC, wp_ret, wp_sub, wp_addI, wp_lt, wp_le, wp_gt, wp_ge, wp_neg, wp_eqS, wp_lenT, wp_lenL, wp_tupT, wp_tupL, Bool.not_true, Bool.not_false, Bool.false_eq_true, if_true, if_false]
      (first | exact ⟨trivial, trivial⟩ | exact ⟨rfl, trivial⟩ | exact ⟨trivial, rfl⟩ | exact ⟨rfl, rfl⟩)
theorem pdPairs {q : Qu} (h : OkQ q) (c : Str) : ∃ ps, OkL (((q.rs.filter fun r => r.c == c).map fun r => D.tup [r.lo, r.hi]).length * 101) 1 ((q.rs.filter fun r => r.c == c).map fun r => D.tup [r.lo, r.hi]) ps := OkL.all (a := 100) fun d hd => by
  obtain ⟨r, hr, rfl⟩ := List.mem_map.mp hd
  have := h.rok r (List.mem_filter.mp hr).1
  obtain ⟨p1, o1⟩ := this.2.1.ok
  obtain ⟨p2, o2⟩ := this.2.2.ok
  exact ⟨_, (OkL.cons o1 (OkL.cons o2 OkL.nil)).tup.mono (by omega) (Nat.le_refl _)⟩
theorem at0 {d : D} {l : List D} : Wp (ixM (.lst (d :: l)) (.int 0)) S Q ↔ Q d S := wp_ixL (by unfold atI ixN; rw [if_pos (Int.le_refl 0), if_pos (by simp)]; rfl)
theorem law_range_fn {q : Qu} {c : Str} (h : OkQ q) : Wp (if [qD q, .str c].length = P_law_range_of.length then d_law_range_of [qD q, .str c] else fail) S Q ↔ Q (prD (rgOf q.rs c)) S := by
  rw [if_pos (show [qD q, D.str c].length = P_law_range_of.length from rfl)]
  refine wp_some (eqOf ?_)
  unfold d_law_range_of
  rw [wp_def, show startR N_law_range_of.length [qD q, .str c] = [some (qD q), some (.str c), none, none, none, none] from rfl]
  unfold b_law_range_of
  obtain ⟨ps, hp⟩ := pdPairs h c
  simp only [List.set_cons_succ, List.set_cons_zero, wipeR, wp_mSeq, wp_mIfS, wp_mSet, wp_mRet, wp_mDrop, wp_mNx, wp_mPar, wp_parF, wp_mB, wp_mBin, wp_mUn, wp_mCall, wp_mFn, wp_mNil, wp_mCons, wp_mTup, wp_mLst, wp_mIf, wp_mAndV, wp_mOrV, wp_mNotV, wp_mIsN, wp_mNotN, wp_asB, wp_asI, wp_mTru, wp_truB, wp_mAnd, wp_mOr, wp_mNot, wp_mYes, wp_mPart, wp_mSl, wp_mVs, wp_mV0, wp_mC, wp_ret, wp_sub, wp_addI, wp_lt, wp_le, wp_gt, wp_ge, wp_neg, wp_eqS, wp_lenT, wp_lenL, wp_tupT, wp_tupL, Bool.not_true, Bool.not_false, Bool.false_eq_true, if_true, if_false, wp_mLc, wp_mISeq, iq2, src_tup]
  refine (lcA (t := fun r : Rn => r.c == c) (f := fun r => D.tup [r.lo, r.hi]) (c := rnD) (l := q.rs) srcOk_nil fun r hr => ⟨[some (qD q), some (.str c), none, some (.str r.c), some r.lo, some r.hi], rfl, ?_, fun _ => ?_⟩).mpr ?_
  · simp only [List.set_cons_succ, List.set_cons_zero, wipeR, wp_mSeq, wp_mIfS, wp_mSet, wp_mRet, wp_mDrop, wp_mNx, wp_mPar, wp_parF, wp_mB, wp_mBin, wp_mUn, wp_mCall, wp_mFn, wp_mNil, wp_mCons, wp_mTup, wp_mLst, wp_mIf, wp_mAndV, wp_mOrV, wp_mNotV, wp_mIsN, wp_mNotN, wp_asB, wp_asI, wp_mTru, wp_truB, wp_mAnd, wp_mOr, wp_mNot, wp_mYes, wp_mPart, wp_mSl, wp_mVs, wp_mV0, wp_mC, wp_ret, wp_sub, wp_addI, wp_lt, wp_le, wp_gt, wp_ge, wp_neg, wp_eqS, wp_lenT, wp_lenL, wp_tupT, wp_tupL, Bool.not_true, Bool.not_false, Bool.false_eq_true, if_true, if_false]
    (first | exact ⟨trivial, trivial⟩ | exact ⟨rfl, trivial⟩ | exact ⟨trivial, rfl⟩ | exact ⟨rfl, rfl⟩)
  · simp only [List.set_cons_succ, List.set_cons_zero, wipeR, wp_mSeq, wp_mIfS, wp_mSet, wp_mRet, wp_mDrop, wp_mNx, wp_mPar, wp_parF, wp_mB, wp_mBin, wp_mUn, wp_mCall, wp_mFn, wp_mNil, wp_mCons, wp_mTup, wp_mLst, wp_mIf, wp_mAndV, wp_mOrV, wp_mNotV, wp_mIsN, wp_mNotN, wp_asB, wp_asI, wp_mTru, wp_truB, wp_mAnd, wp_mOr, wp_mNot, wp_mYes, wp_mPart, wp_mSl, wp_mVs, wp_mV0, wp_mC, wp_ret, wp_sub, wp_addI, wp_lt, wp_le, wp_gt, wp_ge, wp_neg, wp_eqS, wp_lenT, wp_lenL, wp_tupT, wp_tupL, Bool.not_true, Bool.not_false, Bool.false_eq_true, if_true, if_false, mt2]
    (first | exact ⟨trivial, trivial⟩ | exact ⟨rfl, trivial⟩ | exact ⟨trivial, rfl⟩ | exact ⟨rfl, rfl⟩)
  have hl : ((q.rs.filter fun r => r.c == c).map fun r => D.tup [r.lo, r.hi]).length ≤ 6 := by
    rw [List.length_map]
    exact Nat.le_trans (List.length_filter_le _ _) h.rl
  rw [wp_lim (by omega)]
  simp only [List.set_cons_succ, List.set_cons_zero, wipeR, wp_mSeq, wp_mIfS, wp_mSet, wp_mRet, wp_mDrop, wp_mNx, wp_mPar, wp_parF, wp_mB, wp_mBin, wp_mUn, wp_mCall, wp_mFn, wp_mNil, wp_mCons, wp_mTup, wp_mLst, wp_mIf, wp_mAndV, wp_mOrV, wp_mNotV, wp_mIsN, wp_mNotN, wp_asB, wp_asI, wp_mTru, wp_truB, wp_mAnd, wp_mOr, wp_mNot, wp_mYes, wp_mPart, wp_mSl, wp_mVs, wp_mV0, wp_mC, wp_ret, wp_sub, wp_addI, wp_lt, wp_le, wp_gt, wp_ge, wp_neg, wp_eqS, wp_lenT, wp_lenL, wp_tupT, wp_tupL, Bool.not_true, Bool.not_false, Bool.false_eq_true, if_true, if_false, ml0]
  rw [wp_neNilL hp.pd (by have := hp.dp; omega), wp_asB]
  unfold prD rgOf
  rw [← List.head?_filter]
  cases hf : q.rs.filter (fun r => r.c == c) with
  | nil =>
    simp only [List.set_cons_succ, List.set_cons_zero, wipeR, wp_mSeq, wp_mIfS, wp_mSet, wp_mRet, wp_mDrop, wp_mNx, wp_mPar, wp_parF, wp_mB, wp_mBin, wp_mUn, wp_mCall, wp_mFn, wp_mNil, wp_mCons, wp_mTup, wp_mLst, wp_mIf, wp_mAndV, wp_mOrV, wp_mNotV, wp_mIsN, wp_mNotN, wp_asB, wp_asI, wp_mTru, wp_truB, wp_mAnd, wp_mOr, wp_mNot, wp_mYes, wp_mPart, wp_mSl, wp_mVs, wp_mV0, wp_mC, wp_ret, wp_sub, wp_addI, wp_lt, wp_le, wp_gt, wp_ge, wp_neg, wp_eqS, wp_lenT, wp_lenL, wp_tupT, wp_tupL, Bool.not_true, Bool.not_false, Bool.false_eq_true, if_true, if_false, List.map_nil, List.isEmpty_nil, mt2, List.head?_nil]
    (first | exact ⟨trivial, trivial⟩ | exact ⟨rfl, trivial⟩ | exact ⟨trivial, rfl⟩ | exact ⟨rfl, rfl⟩)
  | cons r rs =>
    simp only [List.set_cons_succ, List.set_cons_zero, wipeR, wp_mSeq, wp_mIfS, wp_mSet, wp_mRet, wp_mDrop, wp_mNx, wp_mPar, wp_parF, wp_mB, wp_mBin, wp_mUn, wp_mCall, wp_mFn, wp_mNil, wp_mCons, wp_mTup, wp_mLst, wp_mIf, wp_mAndV, wp_mOrV, wp_mNotV, wp_mIsN, wp_mNotN, wp_asB, wp_asI, wp_mTru, wp_truB, wp_mAnd, wp_mOr, wp_mNot, wp_mYes, wp_mPart, wp_mSl, wp_mVs, wp_mV0, wp_mC, wp_ret, wp_sub, wp_addI, wp_lt, wp_le, wp_gt, wp_ge, wp_neg, wp_eqS, wp_lenT, wp_lenL, wp_tupT, wp_tupL, Bool.not_true, Bool.not_false, Bool.false_eq_true, if_true, if_false, List.map_cons, List.isEmpty_cons, at0, List.head?_cons]
    (first | exact ⟨trivial, trivial⟩ | exact ⟨rfl, trivial⟩ | exact ⟨trivial, rfl⟩ | exact ⟨rfl, rfl⟩)
def inR (p : D × D) (v : Int) : Bool := (match p.1 with | .int i => decide (i ≤ v) | _ => true) && (match p.2 with | .int i => decide (v ≤ i) | _ => true)
theorem lets_fn {q : Qu} {c : Str} {v : Int} (h : OkQ q) : Wp (if [qD q, .str c, .int v].length = P_lets.length then d_lets [qD q, .str c, .int v] else fail) S Q ↔ Q (.bl (inR (rgOf q.rs c) v)) S := by
  rw [if_pos (show [qD q, D.str c, D.int v].length = P_lets.length from rfl)]
  refine wp_some (eqOf ?_)
  unfold d_lets
  rw [wp_def, show startR N_lets.length [qD q, .str c, .int v] = [some (qD q), some (.str c), some (.int v), none, none] from rfl]
  unfold b_lets
  simp only [List.set_cons_succ, List.set_cons_zero, wipeR, wp_mSeq, wp_mIfS, wp_mSet, wp_mRet, wp_mDrop, wp_mNx, wp_mPar, wp_parF, wp_mB, wp_mBin, wp_mUn, wp_mCall, wp_mFn, wp_mNil, wp_mCons, wp_mTup, wp_mLst, wp_mIf, wp_mAndV, wp_mOrV, wp_mNotV, wp_mIsN, wp_mNotN, wp_asB, wp_asI, wp_mTru, wp_truB, wp_mAnd, wp_mOr, wp_mNot, wp_mYes, wp_mPart, wp_mSl, wp_mVs, wp_mV0, wp_mC, wp_ret, wp_sub, wp_addI, wp_lt, wp_le, wp_gt, wp_ge, wp_neg, wp_eqS, wp_lenT, wp_lenL, wp_tupT, wp_tupL, Bool.not_true, Bool.not_false, Bool.false_eq_true, if_true, if_false, wp_mAsg, range_fn]
  unfold prD
  rw [wp_asg2]
  obtain ⟨b1, b2⟩ := rgOf_bnd h c
  generalize rgOf q.rs c = p at *
  obtain ⟨lo, hi⟩ := p
  rcases b1 with e | ⟨i, e, _⟩ <;> rcases b2 with e2 | ⟨j, e2, _⟩ <;> simp only at e e2 <;> subst e e2
  · simp only [List.set_cons_succ, List.set_cons_zero, wipeR, wp_mSeq, wp_mIfS, wp_mSet, wp_mRet, wp_mDrop, wp_mNx, wp_mPar, wp_parF, wp_mB, wp_mBin, wp_mUn, wp_mCall, wp_mFn, wp_mNil, wp_mCons, wp_mTup, wp_mLst, wp_mIf, wp_mAndV, wp_mOrV, wp_mNotV, wp_mIsN, wp_mNotN, wp_asB, wp_asI, wp_mTru, wp_truB, wp_mAnd, wp_mOr, wp_mNot, wp_mYes, wp_mPart, wp_mSl, wp_mVs, wp_mV0, wp_mC, wp_ret, wp_sub, wp_addI, wp_lt, wp_le, wp_gt, wp_ge, wp_neg, wp_eqS, wp_lenT, wp_lenL, wp_tupT, wp_tupL, Bool.not_true, Bool.not_false, Bool.false_eq_true, if_true, if_false, isNonD, inR]
    (first | exact ⟨trivial, trivial⟩ | exact ⟨rfl, trivial⟩ | exact ⟨trivial, rfl⟩ | exact ⟨rfl, rfl⟩)
  · simp only [List.set_cons_succ, List.set_cons_zero, wipeR, wp_mSeq, wp_mIfS, wp_mSet, wp_mRet, wp_mDrop, wp_mNx, wp_mPar, wp_parF, wp_mB, wp_mBin, wp_mUn, wp_mCall, wp_mFn, wp_mNil, wp_mCons, wp_mTup, wp_mLst, wp_mIf, wp_mAndV, wp_mOrV, wp_mNotV, wp_mIsN, wp_mNotN, wp_asB, wp_asI, wp_mTru, wp_truB, wp_mAnd, wp_mOr, wp_mNot, wp_mYes, wp_mPart, wp_mSl, wp_mVs, wp_mV0, wp_mC, wp_ret, wp_sub, wp_addI, wp_lt, wp_le, wp_gt, wp_ge, wp_neg, wp_eqS, wp_lenT, wp_lenL, wp_tupT, wp_tupL, Bool.not_true, Bool.not_false, Bool.false_eq_true, if_true, if_false, isNonD, inR]
    (first | exact ⟨trivial, trivial⟩ | exact ⟨rfl, trivial⟩ | exact ⟨trivial, rfl⟩ | exact ⟨rfl, rfl⟩)
  · by_cases h1 : i ≤ v <;> simp only [List.set_cons_succ, List.set_cons_zero, wipeR, wp_mSeq, wp_mIfS, wp_mSet, wp_mRet, wp_mDrop, wp_mNx, wp_mPar, wp_parF, wp_mB, wp_mBin, wp_mUn, wp_mCall, wp_mFn, wp_mNil, wp_mCons, wp_mTup, wp_mLst, wp_mIf, wp_mAndV, wp_mOrV, wp_mNotV, wp_mIsN, wp_mNotN, wp_asB, wp_asI, wp_mTru, wp_truB, wp_mAnd, wp_mOr, wp_mNot, wp_mYes, wp_mPart, wp_mSl, wp_mVs, wp_mV0, wp_mC, wp_ret, wp_sub, wp_addI, wp_lt, wp_le, wp_gt, wp_ge, wp_neg, wp_eqS, wp_lenT, wp_lenL, wp_tupT, wp_tupL, Bool.not_true, Bool.not_false, Bool.false_eq_true, if_true, if_false, isNonD, inR, h1, decide_true, decide_false, Bool.and_self] <;> (first | exact ⟨trivial, trivial⟩ | exact ⟨rfl, trivial⟩ | exact ⟨trivial, rfl⟩ | exact ⟨rfl, rfl⟩)
  · by_cases h1 : i ≤ v <;> simp only [List.set_cons_succ, List.set_cons_zero, wipeR, wp_mSeq, wp_mIfS, wp_mSet, wp_mRet, wp_mDrop, wp_mNx, wp_mPar, wp_parF, wp_mB, wp_mBin, wp_mUn, wp_mCall, wp_mFn, wp_mNil, wp_mCons, wp_mTup, wp_mLst, wp_mIf, wp_mAndV, wp_mOrV, wp_mNotV, wp_mIsN, wp_mNotN, wp_asB, wp_asI, wp_mTru, wp_truB, wp_mAnd, wp_mOr, wp_mNot, wp_mYes, wp_mPart, wp_mSl, wp_mVs, wp_mV0, wp_mC, wp_ret, wp_sub, wp_addI, wp_lt, wp_le, wp_gt, wp_ge, wp_neg, wp_eqS, wp_lenT, wp_lenL, wp_tupT, wp_tupL, Bool.not_true, Bool.not_false, Bool.false_eq_true, if_true, if_false, isNonD, inR, h1, decide_true, decide_false, Bool.and_self] <;> (first | exact ⟨trivial, trivial⟩ | exact ⟨rfl, trivial⟩ | exact ⟨trivial, rfl⟩ | exact ⟨rfl, rfl⟩)
theorem law_in_fn {q : Qu} {c : Str} {v : Int} (h : OkQ q) : Wp (if [qD q, .str c, .int v].length = P_law_is_in_range.length then d_law_is_in_range [qD q, .str c, .int v] else fail) S Q ↔ Q (.bl (inR (rgOf q.rs c) v)) S := by
  rw [if_pos (show [qD q, D.str c, D.int v].length = P_law_is_in_range.length from rfl)]
  refine wp_some (eqOf ?_)
  unfold d_law_is_in_range
  rw [wp_def, show startR N_law_is_in_range.length [qD q, .str c, .int v] = [some (qD q), some (.str c), some (.int v), none, none] from rfl]
  unfold b_law_is_in_range
  simp only [List.set_cons_succ, List.set_cons_zero, wipeR, wp_mSeq, wp_mIfS, wp_mSet, wp_mRet, wp_mDrop, wp_mNx, wp_mPar, wp_parF, wp_mB, wp_mBin, wp_mUn, wp_mCall, wp_mFn, wp_mNil, wp_mCons, wp_mTup, wp_mLst, wp_mIf, wp_mAndV, wp_mOrV, wp_mNotV, wp_mIsN, wp_mNotN, wp_asB, wp_asI, wp_mTru, wp_truB, wp_mAnd, wp_mOr, wp_mNot, wp_mYes, wp_mPart, wp_mSl, wp_mVs, wp_mV0, wp_mC, wp_ret, wp_sub, wp_addI, wp_lt, wp_le, wp_gt, wp_ge, wp_neg, wp_eqS, wp_lenT, wp_lenL, wp_tupT, wp_tupL, Bool.not_true, Bool.not_false, Bool.false_eq_true, if_true, if_false, wp_mAsg, law_range_fn h]
  unfold prD
  rw [wp_asg2]
  obtain ⟨b1, b2⟩ := rgOf_bnd h c
  generalize rgOf q.rs c = p at *
  obtain ⟨lo, hi⟩ := p
  rcases b1 with e | ⟨i, e, _⟩ <;> rcases b2 with e2 | ⟨j, e2, _⟩ <;> simp only at e e2 <;> subst e e2
  · simp only [List.set_cons_succ, List.set_cons_zero, wipeR, wp_mSeq, wp_mIfS, wp_mSet, wp_mRet, wp_mDrop, wp_mNx, wp_mPar, wp_parF, wp_mB, wp_mBin, wp_mUn, wp_mCall, wp_mFn, wp_mNil, wp_mCons, wp_mTup, wp_mLst, wp_mIf, wp_mAndV, wp_mOrV, wp_mNotV, wp_mIsN, wp_mNotN, wp_asB, wp_asI, wp_mTru, wp_truB, wp_mAnd, wp_mOr, wp_mNot, wp_mYes, wp_mPart, wp_mSl, wp_mVs, wp_mV0, wp_mC, wp_ret, wp_sub, wp_addI, wp_lt, wp_le, wp_gt, wp_ge, wp_neg, wp_eqS, wp_lenT, wp_lenL, wp_tupT, wp_tupL, Bool.not_true, Bool.not_false, Bool.false_eq_true, if_true, if_false, isNonD, inR]
    (first | exact ⟨trivial, trivial⟩ | exact ⟨rfl, trivial⟩ | exact ⟨trivial, rfl⟩ | exact ⟨rfl, rfl⟩)
  · simp only [List.set_cons_succ, List.set_cons_zero, wipeR, wp_mSeq, wp_mIfS, wp_mSet, wp_mRet, wp_mDrop, wp_mNx, wp_mPar, wp_parF, wp_mB, wp_mBin, wp_mUn, wp_mCall, wp_mFn, wp_mNil, wp_mCons, wp_mTup, wp_mLst, wp_mIf, wp_mAndV, wp_mOrV, wp_mNotV, wp_mIsN, wp_mNotN, wp_asB, wp_asI, wp_mTru, wp_truB, wp_mAnd, wp_mOr, wp_mNot, wp_mYes, wp_mPart, wp_mSl, wp_mVs, wp_mV0, wp_mC, wp_ret, wp_sub, wp_addI, wp_lt, wp_le, wp_gt, wp_ge, wp_neg, wp_eqS, wp_lenT, wp_lenL, wp_tupT, wp_tupL, Bool.not_true, Bool.not_false, Bool.false_eq_true, if_true, if_false, isNonD, inR]
    (first | exact ⟨trivial, trivial⟩ | exact ⟨rfl, trivial⟩ | exact ⟨trivial, rfl⟩ | exact ⟨rfl, rfl⟩)
  · by_cases h1 : i ≤ v <;> simp only [List.set_cons_succ, List.set_cons_zero, wipeR, wp_mSeq, wp_mIfS, wp_mSet, wp_mRet, wp_mDrop, wp_mNx, wp_mPar, wp_parF, wp_mB, wp_mBin, wp_mUn, wp_mCall, wp_mFn, wp_mNil, wp_mCons, wp_mTup, wp_mLst, wp_mIf, wp_mAndV, wp_mOrV, wp_mNotV, wp_mIsN, wp_mNotN, wp_asB, wp_asI, wp_mTru, wp_truB, wp_mAnd, wp_mOr, wp_mNot, wp_mYes, wp_mPart, wp_mSl, wp_mVs, wp_mV0, wp_mC, wp_ret, wp_sub, wp_addI, wp_lt, wp_le, wp_gt, wp_ge, wp_neg, wp_eqS, wp_lenT, wp_lenL, wp_tupT, wp_tupL, Bool.not_true, Bool.not_false, Bool.false_eq_true, if_true, if_false, isNonD, inR, h1, decide_true, decide_false, Bool.and_self] <;> (first | exact ⟨trivial, trivial⟩ | exact ⟨rfl, trivial⟩ | exact ⟨trivial, rfl⟩ | exact ⟨rfl, rfl⟩)
  · by_cases h1 : i ≤ v <;> simp only [List.set_cons_succ, List.set_cons_zero, wipeR, wp_mSeq, wp_mIfS, wp_mSet, wp_mRet, wp_mDrop, wp_mNx, wp_mPar, wp_parF, wp_mB, wp_mBin, wp_mUn, wp_mCall, wp_mFn, wp_mNil, wp_mCons, wp_mTup, wp_mLst, wp_mIf, wp_mAndV, wp_mOrV, wp_mNotV, wp_mIsN, wp_mNotN, wp_asB, wp_asI, wp_mTru, wp_truB, wp_mAnd, wp_mOr, wp_mNot, wp_mYes, wp_mPart, wp_mSl, wp_mVs, wp_mV0, wp_mC, wp_ret, wp_sub, wp_addI, wp_lt, wp_le, wp_gt, wp_ge, wp_neg, wp_eqS, wp_lenT, wp_lenL, wp_tupT, wp_tupL, Bool.not_true, Bool.not_false, Bool.false_eq_true, if_true, if_false, isNonD, inR, h1, decide_true, decide_false, Bool.and_self] <;> (first | exact ⟨trivial, trivial⟩ | exact ⟨rfl, trivial⟩ | exact ⟨trivial, rfl⟩ | exact ⟨rfl, rfl⟩)
def isI : D → Bool
  | .int _ => true
  | _ => false
end
end K56
set_option maxRecDepth 100000
set_option maxHeartbeats 1000000
namespace K56
open PySem PySem.Spec PyProof.Rows L2 Mn
/-! ### any things -/
mutual
def trB : D → Bool
  | .non => true
  | .bl _ => true
  | .int _ => true
  | .str x => PyData.strOk x
  | .tup ds => decide (ds.length ≤ 1000) && trL ds
  | .lst ds => trL ds
  | .rol _ => false
  | .dic _ _ => true
  | .ref _ => false
def trL : List D → Bool
  | [] => true
  | d :: ds => trB d && trL ds
end
theorem trL_mem : ∀ {ds : List D} {d : D}, trL ds = true → d ∈ ds → trB d = true
  | x :: ds, d, h, hd => by
    rw [trL, Bool.and_eq_true] at h
    rcases List.mem_cons.mp hd with e | hd
    · rw [e]; exact h.1
    · exact trL_mem h.2 hd
theorem trL_of : ∀ {ds : List D}, (∀ d ∈ ds, trB d = true) → trL ds = true
  | [], _ => rfl
  | d :: ds, h => by rw [trL, h d List.mem_cons_self, trL_of fun x hx => h x (List.mem_cons_of_mem _ hx)]; rfl
theorem tr_tup {ds : List D} (h : trB (.tup ds) = true) {d : D} (hd : d ∈ ds) : trB d = true := trL_mem (by rw [trB, Bool.and_eq_true] at h; exact h.2) hd
theorem tr_len {ds : List D} (h : trB (.tup ds) = true) : ds.length ≤ 1000 := by rw [trB, Bool.and_eq_true] at h; exact of_decide_eq_true h.1
def isTup : D → Bool
  | .tup _ => true
  | _ => false
section
variable {S : Sto} {b : Nat} {Q : D → Sto → Prop} {ts : Nat → Addr}
theorem isi_wp {T t : String} {d : D} {b : Bool} (h : tyN S d = some t) (k : kitB t T = some b) : Wp (isiM T d) S Q ↔ Q (.bl b) S := wp_some (by unfold isiM; rw [h]; simp only; rw [k]; rfl)
theorem isT_wp {d : D} (h : trB d = true) : Wp (isiM "tuple" d) S Q ↔ Q (.bl (isTup d)) S := by
  cases d with
  | non => exact isi_wp (b := false) (t := "NoneType") rfl (by decide +kernel)
  | bl _ => exact isi_wp (b := false) (t := "bool") rfl (by decide +kernel)
  | int _ => exact isi_wp (b := false) (t := "int") rfl (by decide +kernel)
  | str _ => exact isi_wp (b := false) (t := "str") rfl (by decide +kernel)
  | tup _ => exact isi_wp (b := true) (t := "tuple") rfl (by decide +kernel)
  | lst _ => exact isi_wp (b := false) (t := "list") rfl (by decide +kernel)
  | dic _ _ => exact isi_wp (b := false) (t := "dict") rfl (by decide +kernel)
  | rol _ => rw [trB] at h; cases h
  | ref _ => rw [trB] at h; cases h
def isIB : D → Bool
  | .int _ => true
  | .bl _ => true
  | _ => false
def isBl : D → Bool
  | .bl _ => true
  | _ => false
theorem isN_wp {d : D} (h : trB d = true) : Wp (isiM "int" d) S Q ↔ Q (.bl (isIB d)) S := by
  cases d with
  | non => exact isi_wp (b := false) (t := "NoneType") rfl (by decide +kernel)
  | bl _ => exact isi_wp (b := true) (t := "bool") rfl (by decide +kernel)
  | int _ => exact isi_wp (b := true) (t := "int") rfl (by decide +kernel)
  | str _ => exact isi_wp (b := false) (t := "str") rfl (by decide +kernel)
  | tup _ => exact isi_wp (b := false) (t := "tuple") rfl (by decide +kernel)
  | lst _ => exact isi_wp (b := false) (t := "list") rfl (by decide +kernel)
  | dic _ _ => exact isi_wp (b := false) (t := "dict") rfl (by decide +kernel)
  | rol _ => rw [trB] at h; cases h
  | ref _ => rw [trB] at h; cases h
theorem isB_wp {d : D} (h : trB d = true) : Wp (isiM "bool" d) S Q ↔ Q (.bl (isBl d)) S := by
  cases d with
  | non => exact isi_wp (b := false) (t := "NoneType") rfl (by decide +kernel)
  | bl _ => exact isi_wp (b := true) (t := "bool") rfl (by decide +kernel)
  | int _ => exact isi_wp (b := false) (t := "int") rfl (by decide +kernel)
  | str _ => exact isi_wp (b := false) (t := "str") rfl (by decide +kernel)
  | tup _ => exact isi_wp (b := false) (t := "tuple") rfl (by decide +kernel)
  | lst _ => exact isi_wp (b := false) (t := "list") rfl (by decide +kernel)
  | dic _ _ => exact isi_wp (b := false) (t := "dict") rfl (by decide +kernel)
  | rol _ => rw [trB] at h; cases h
  | ref _ => rw [trB] at h; cases h
theorem is_integer_fn {d : D} (h : trB d = true) : Wp (if [d].length = P_is_integer.length then d_is_integer [d] else fail) S Q ↔ Q (.bl (isI d)) S := by
  rw [if_pos (show [d].length = P_is_integer.length from rfl)]
  refine wp_some (eqOf ?_)
  unfold d_is_integer
  rw [wp_def, show startR N_is_integer.length [d] = [some d] from rfl]
  unfold b_is_integer
  simp only [List.set_cons_succ, List.set_cons_zero, wipeR, wp_mSeq, wp_mIfS, wp_mSet, wp_mRet, wp_mDrop, wp_mNx, wp_mPar, wp_parF, wp_mB, wp_mBin, wp_mUn, wp_mCall, wp_mFn, wp_mNil, wp_mCons, wp_mTup, wp_mLst, wp_mIf, wp_mAndV, wp_mOrV, wp_mNotV, wp_mIsN, wp_mNotN, wp_asB, wp_asI, wp_mTru, wp_truB, wp_mAnd, wp_mOr, wp_mNot, wp_mYes, wp_mPart, wp_mSl, wp_mVs, wp_mV0, wp_mC, wp_ret, wp_sub, wp_addI, wp_lt, wp_le, wp_gt, wp_ge, wp_neg, wp_eqS, wp_lenT, wp_lenL, wp_tupT, wp_tupL, Bool.not_true, Bool.not_false, Bool.false_eq_true, if_true, if_false, isN_wp h]
  cases d <;> (simp only [List.set_cons_succ, List.set_cons_zero, wipeR, wp_mSeq, wp_mIfS, wp_mSet, wp_mRet, wp_mDrop, wp_mNx, wp_mPar, wp_parF, wp_mB, wp_mBin, wp_mUn, wp_mCall, wp_mFn, wp_mNil, wp_mCons, wp_mTup, wp_mLst, wp_mIf, wp_mAndV, wp_mOrV, wp_mNotV, wp_mIsN, wp_mNotN, wp_asB, wp_asI, wp_mTru, wp_truB, wp_mAnd, wp_mOr, wp_mNot, wp_mYes, wp_mPart, wp_mSl, wp_mVs, wp_mV0, wp_mC, wp_ret, wp_sub, wp_addI, wp_lt, wp_le, wp_gt, wp_ge, wp_neg, wp_eqS, wp_lenT, wp_lenL, wp_tupT, wp_tupL, Bool.not_true, Bool.not_false, Bool.false_eq_true, if_true, if_false, isIB, isB_wp h, isBl, isI]; (first | exact ⟨trivial, trivial⟩ | exact ⟨rfl, trivial⟩ | exact ⟨trivial, rfl⟩ | exact ⟨rfl, rfl⟩))
theorem law_is_int_fn {d : D} (h : trB d = true) : Wp (if [d].length = P_law_is_int.length then d_law_is_int [d] else fail) S Q ↔ Q (.bl (isI d)) S := by
  rw [if_pos (show [d].length = P_law_is_int.length from rfl)]
  refine wp_some (eqOf ?_)
  unfold d_law_is_int
  rw [wp_def, show startR N_law_is_int.length [d] = [some d] from rfl]
  unfold b_law_is_int
  simp only [List.set_cons_succ, List.set_cons_zero, wipeR, wp_mSeq, wp_mIfS, wp_mSet, wp_mRet, wp_mDrop, wp_mNx, wp_mPar, wp_parF, wp_mB, wp_mBin, wp_mUn, wp_mCall, wp_mFn, wp_mNil, wp_mCons, wp_mTup, wp_mLst, wp_mIf, wp_mAndV, wp_mOrV, wp_mNotV, wp_mIsN, wp_mNotN, wp_asB, wp_asI, wp_mTru, wp_truB, wp_mAnd, wp_mOr, wp_mNot, wp_mYes, wp_mPart, wp_mSl, wp_mVs, wp_mV0, wp_mC, wp_ret, wp_sub, wp_addI, wp_lt, wp_le, wp_gt, wp_ge, wp_neg, wp_eqS, wp_lenT, wp_lenL, wp_tupT, wp_tupL, Bool.not_true, Bool.not_false, Bool.false_eq_true, if_true, if_false, isN_wp h]
  cases d <;> (simp only [List.set_cons_succ, List.set_cons_zero, wipeR, wp_mSeq, wp_mIfS, wp_mSet, wp_mRet, wp_mDrop, wp_mNx, wp_mPar, wp_parF, wp_mB, wp_mBin, wp_mUn, wp_mCall, wp_mFn, wp_mNil, wp_mCons, wp_mTup, wp_mLst, wp_mIf, wp_mAndV, wp_mOrV, wp_mNotV, wp_mIsN, wp_mNotN, wp_asB, wp_asI, wp_mTru, wp_truB, wp_mAnd, wp_mOr, wp_mNot, wp_mYes, wp_mPart, wp_mSl, wp_mVs, wp_mV0, wp_mC, wp_ret, wp_sub, wp_addI, wp_lt, wp_le, wp_gt, wp_ge, wp_neg, wp_eqS, wp_lenT, wp_lenL, wp_tupT, wp_tupL, Bool.not_true, Bool.not_false, Bool.false_eq_true, if_true, if_false, isIB, isB_wp h, isBl, isI]; (first | exact ⟨trivial, trivial⟩ | exact ⟨rfl, trivial⟩ | exact ⟨trivial, rfl⟩ | exact ⟨rfl, rfl⟩))
/-! ### what a shape is -/
def inI (q : Qu) (c : Str) : D → Bool
  | .int i => inR (rgOf q.rs c) i
  | _ => false
def placeD (F : List Str → D → Bool) (q : Qu) (c : Str) : D → Bool
  | .tup [v, y] => inI q c v && F (ch q (some c)) y
  | _ => false
def fstD : D → Int
  | .tup (.int i :: _) => i
  | _ => 0
def ascD (ps : List D) : Bool := (ps.zip (ps.drop 1)).all fun p => decide (fstD p.1 < fstD p.2)
def branchD (F : List Str → D → Bool) (q : Qu) (c : Str) : D → Bool
  | .tup ps => !ps.isEmpty && ps.all (placeD F q c) && ascD ps
  | _ => false
def formD (q : Qu) : Nat → List Str → D → Bool
  | 0, _, _ => false
  | n + 1, cs, d => match d with
    | .tup bs => bs.length == cs.length && (cs.zip bs).all fun p => branchD (formD q n) q p.1 p.2
    | _ => false
theorem eq0_wp {ds : List D} : Wp (eq0M (.tup ds) (.tup [])) S Q ↔ Q (.bl ds.isEmpty) S := wp_some rfl
theorem ne0_wp {ds : List D} : Wp (ne0M (.tup ds) (.tup [])) S Q ↔ Q (.bl (!ds.isEmpty)) S := wp_some rfl
theorem neI_wp {i j : Int} : Wp (neM (.int i) (.int j)) S Q ↔ Q (.bl (!(i == j))) S := by
  rw [wp_ne (p := .int i) (q := .int j) rfl rfl (by rw [PyData.depth]; omega)]
  rw [PyData.eqv]
theorem pairs_cols {cs : List Str} {bs : List D} : pairs2 (cs.map .str) bs = (cs.zip bs).map fun p => D.tup [.str p.1, p.2] := by
  unfold pairs2
  rw [List.zip_map_left, List.map_map]
  rfl
theorem placeD_pair {F : List Str → D → Bool} {q : Qu} {c : Str} {x : D} (h : placeD F q c x = true) : ∃ i y, x = .tup [.int i, y] := by
  unfold placeD at h
  split at h
  · rename_i v y
    cases v with
    | int i => exact ⟨i, y, rfl⟩
    | _ => rw [Bool.and_eq_true] at h; cases h.1
  · cases h
theorem find_bad {α : Type} {f : α → Bool} {l : List α} : (l.findSome? fun x => if f x = true then none else some (D.bl false)) = if l.all f = true then none else some (.bl false) := by
  induction l with
  | nil => rfl
  | cons x l ih =>
    rw [List.findSome?_cons, List.all_cons]
    cases h : f x with
    | true => simp only [if_true, Bool.true_and]; exact ih
    | false => simp
/-- the program's walk -/
theorem branches_fn {q : Qu} (h : OkQ q) (ht : Tb ts S) : ∀ (f : Nat),
    (∀ (n : Nat) (cs : List Str) (d : D) (Q : D → Sto → Prop), 2 * n + 1 ≤ f → cs.length ≤ 6 → trB d = true → (∀ c ∈ cs, c ∈ q.cols ∧ q.cols.length ≤ n + kk q c) →
      (Wp (if [qD q, .tup (cs.map .str), d].length = P_are_branches.length then d_are_branches ts f [qD q, .tup (cs.map .str), d] else fail) S Q ↔ Q (.bl (formD q (n + 1) cs d)) S)) ∧
    (∀ (n : Nat) (c : Str) (d : D) (Q : D → Sto → Prop), 2 * n + 2 ≤ f → trB d = true → c ∈ q.cols → q.cols.length ≤ n + 1 + kk q c →
      (Wp (if [qD q, .str c, d].length = P_is_branch.length then d_is_branch ts f [qD q, .str c, d] else fail) S Q ↔ Q (.bl (branchD (formD q (n + 1)) q c d)) S))
  | 0 => ⟨fun n cs d Q hf _ => by omega, fun n c d Q hf => by omega⟩
  | f + 1 => by
    obtain ⟨ih1, ih2⟩ := branches_fn h ht f
    constructor
    · intro n cs d Q hf hcl hd hc
      rw [if_pos (show [qD q, D.tup (cs.map .str), d].length = P_are_branches.length from rfl)]
      refine wp_some (eqOf ?_)
      show Wp (mDef N_are_branches.length (b_are_branches ts (d_is_branch ts f) (d_are_branches ts f)) [qD q, .tup (cs.map .str), d]) S _
      rw [wp_def, show startR N_are_branches.length [qD q, D.tup (cs.map .str), d] = [some (qD q), some (.tup (cs.map .str)), some d, none, none] from rfl]
      unfold b_are_branches
      simp only [List.set_cons_succ, List.set_cons_zero, wipeR, wp_mSeq, wp_mIfS, wp_mSet, wp_mRet, wp_mDrop, wp_mNx, wp_mPar, wp_parF, wp_mB, wp_mBin, wp_mUn, wp_mCall, wp_mFn, wp_mNil, wp_mCons, wp_mTup, wp_mLst, wp_mIf, wp_mAndV, wp_mOrV, wp_mNotV, wp_mIsN, wp_mNotN, wp_asB, wp_asI, wp_mTru, wp_truB, wp_mAnd, wp_mOr, wp_mNot, wp_mYes, wp_mPart, wp_mSl, wp_mVs, wp_mV0, wp_mC, wp_ret, wp_sub, wp_addI, wp_lt, wp_le, wp_gt, wp_ge, wp_neg, wp_eqS, wp_lenT, wp_lenL, wp_tupT, wp_tupL, Bool.not_true, Bool.not_false, Bool.false_eq_true, if_true, if_false, isT_wp hd]
      cases d with
      | tup bs =>
        simp only [List.set_cons_succ, List.set_cons_zero, wipeR, wp_mSeq, wp_mIfS, wp_mSet, wp_mRet, wp_mDrop, wp_mNx, wp_mPar, wp_parF, wp_mB, wp_mBin, wp_mUn, wp_mCall, wp_mFn, wp_mNil, wp_mCons, wp_mTup, wp_mLst, wp_mIf, wp_mAndV, wp_mOrV, wp_mNotV, wp_mIsN, wp_mNotN, wp_asB, wp_asI, wp_mTru, wp_truB, wp_mAnd, wp_mOr, wp_mNot, wp_mYes, wp_mPart, wp_mSl, wp_mVs, wp_mV0, wp_mC, wp_ret, wp_sub, wp_addI, wp_lt, wp_le, wp_gt, wp_ge, wp_neg, wp_eqS, wp_lenT, wp_lenL, wp_tupT, wp_tupL, Bool.not_true, Bool.not_false, Bool.false_eq_true, if_true, if_false, isTup, neI_wp, List.length_map]
        cases hl : ((bs.length : Int) == (cs.length : Int)) with
        | false =>
          simp only [List.set_cons_succ, List.set_cons_zero, wipeR, wp_mSeq, wp_mIfS, wp_mSet, wp_mRet, wp_mDrop, wp_mNx, wp_mPar, wp_parF, wp_mB, wp_mBin, wp_mUn, wp_mCall, wp_mFn, wp_mNil, wp_mCons, wp_mTup, wp_mLst, wp_mIf, wp_mAndV, wp_mOrV, wp_mNotV, wp_mIsN, wp_mNotN, wp_asB, wp_asI, wp_mTru, wp_truB, wp_mAnd, wp_mOr, wp_mNot, wp_mYes, wp_mPart, wp_mSl, wp_mVs, wp_mV0, wp_mC, wp_ret, wp_sub, wp_addI, wp_lt, wp_le, wp_gt, wp_ge, wp_neg, wp_eqS, wp_lenT, wp_lenL, wp_tupT, wp_tupL, Bool.not_true, Bool.not_false, Bool.false_eq_true, if_true, if_false]
          refine ⟨?_, trivial⟩
          have : (bs.length == cs.length) = false := by
            have : ¬ ((bs.length : Int) = (cs.length : Int)) := by simpa using hl
            simpa using (by omega : bs.length ≠ cs.length)
          rw [formD, this]; rfl
        | true =>
          have hl2 : bs.length = cs.length := by
            have : ((bs.length : Int) = (cs.length : Int)) := by simpa using hl
            omega
          simp only [List.set_cons_succ, List.set_cons_zero, wipeR, wp_mSeq, wp_mIfS, wp_mSet, wp_mRet, wp_mDrop, wp_mNx, wp_mPar, wp_parF, wp_mB, wp_mBin, wp_mUn, wp_mCall, wp_mFn, wp_mNil, wp_mCons, wp_mTup, wp_mLst, wp_mIf, wp_mAndV, wp_mOrV, wp_mNotV, wp_mIsN, wp_mNotN, wp_asB, wp_asI, wp_mTru, wp_truB, wp_mAnd, wp_mOr, wp_mNot, wp_mYes, wp_mPart, wp_mSl, wp_mVs, wp_mV0, wp_mC, wp_ret, wp_sub, wp_addI, wp_lt, wp_le, wp_gt, wp_ge, wp_neg, wp_eqS, wp_lenT, wp_lenL, wp_tupT, wp_tupL, Bool.not_true, Bool.not_false, Bool.false_eq_true, if_true, if_false, wp_mLc, wp_bnd]
          rw [zip_tt, pairs_cols]
          rw [lcA (t := fun _ => true) (f := fun p => .bl (branchD (formD q n) q p.1 p.2)) (c := fun p : Str × D => D.tup [.str p.1, p.2]) (l := cs.zip bs) srcOk_nil fun p hp => ⟨[some (qD q), some (.tup (cs.map .str)), some (.tup bs), some (.str p.1), some p.2], rfl, by simp only [List.set_cons_succ, List.set_cons_zero, wipeR, wp_mSeq, wp_mIfS, wp_mSet, wp_mRet, wp_mDrop, wp_mNx, wp_mPar, wp_parF, wp_mB, wp_mBin, wp_mUn, wp_mCall, wp_mFn, wp_mNil, wp_mCons, wp_mTup, wp_mLst, wp_mIf, wp_mAndV, wp_mOrV, wp_mNotV, wp_mIsN, wp_mNotN, wp_asB, wp_asI, wp_mTru, wp_truB, wp_mAnd, wp_mOr, wp_mNot, wp_mYes, wp_mPart, wp_mSl, wp_mVs, wp_mV0, wp_mC, wp_ret, wp_sub, wp_addI, wp_lt, wp_le, wp_gt, wp_ge, wp_neg, wp_eqS, wp_lenT, wp_lenL, wp_tupT, wp_tupL, Bool.not_true, Bool.not_false, Bool.false_eq_true, if_true, if_false]; (first | exact ⟨trivial, trivial⟩ | exact ⟨rfl, trivial⟩ | exact ⟨trivial, rfl⟩ | exact ⟨rfl, rfl⟩), fun _ => by
            obtain ⟨hp1, hp2⟩ := List.of_mem_zip hp
            obtain ⟨hc1, hc2⟩ := hc p.1 hp1
            have := kk_le hc1
            obtain ⟨m, rfl⟩ : ∃ m, n = m + 1 := ⟨n - 1, by omega⟩
            simp only [List.set_cons_succ, List.set_cons_zero, wipeR, wp_mSeq, wp_mIfS, wp_mSet, wp_mRet, wp_mDrop, wp_mNx, wp_mPar, wp_parF, wp_mB, wp_mBin, wp_mUn, wp_mCall, wp_mFn, wp_mNil, wp_mCons, wp_mTup, wp_mLst, wp_mIf, wp_mAndV, wp_mOrV, wp_mNotV, wp_mIsN, wp_mNotN, wp_asB, wp_asI, wp_mTru, wp_truB, wp_mAnd, wp_mOr, wp_mNot, wp_mYes, wp_mPart, wp_mSl, wp_mVs, wp_mV0, wp_mC, wp_ret, wp_sub, wp_addI, wp_lt, wp_le, wp_gt, wp_ge, wp_neg, wp_eqS, wp_lenT, wp_lenL, wp_tupT, wp_tupL, Bool.not_true, Bool.not_false, Bool.false_eq_true, if_true, if_false]
            rw [ih2 m p.1 p.2 _ (by omega) (tr_tup hd hp2) hc1 (by omega)]
            (first | exact ⟨trivial, trivial⟩ | exact ⟨rfl, trivial⟩ | exact ⟨trivial, rfl⟩ | exact ⟨rfl, rfl⟩)⟩]
          rw [filt_true, wp_lim (by rw [List.length_map, List.length_zip]; omega)]
          rw [show ((cs.zip bs).map fun p => D.bl (branchD (formD q n) q p.1 p.2)) = ((cs.zip bs).map fun p => branchD (formD q n) q p.1 p.2).map D.bl by rw [List.map_map]; rfl, wp_allB]
          simp only [List.set_cons_succ, List.set_cons_zero, wipeR, wp_mSeq, wp_mIfS, wp_mSet, wp_mRet, wp_mDrop, wp_mNx, wp_mPar, wp_parF, wp_mB, wp_mBin, wp_mUn, wp_mCall, wp_mFn, wp_mNil, wp_mCons, wp_mTup, wp_mLst, wp_mIf, wp_mAndV, wp_mOrV, wp_mNotV, wp_mIsN, wp_mNotN, wp_asB, wp_asI, wp_mTru, wp_truB, wp_mAnd, wp_mOr, wp_mNot, wp_mYes, wp_mPart, wp_mSl, wp_mVs, wp_mV0, wp_mC, wp_ret, wp_sub, wp_addI, wp_lt, wp_le, wp_gt, wp_ge, wp_neg, wp_eqS, wp_lenT, wp_lenL, wp_tupT, wp_tupL, Bool.not_true, Bool.not_false, Bool.false_eq_true, if_true, if_false]
          refine ⟨?_, trivial⟩
          rw [formD, List.all_map]
          simp only [hl2, beq_self_eq_true, Bool.true_and]
          rfl
      | _ =>
        simp only [List.set_cons_succ, List.set_cons_zero, wipeR, wp_mSeq, wp_mIfS, wp_mSet, wp_mRet, wp_mDrop, wp_mNx, wp_mPar, wp_parF, wp_mB, wp_mBin, wp_mUn, wp_mCall, wp_mFn, wp_mNil, wp_mCons, wp_mTup, wp_mLst, wp_mIf, wp_mAndV, wp_mOrV, wp_mNotV, wp_mIsN, wp_mNotN, wp_asB, wp_asI, wp_mTru, wp_truB, wp_mAnd, wp_mOr, wp_mNot, wp_mYes, wp_mPart, wp_mSl, wp_mVs, wp_mV0, wp_mC, wp_ret, wp_sub, wp_addI, wp_lt, wp_le, wp_gt, wp_ge, wp_neg, wp_eqS, wp_lenT, wp_lenL, wp_tupT, wp_tupL, Bool.not_true, Bool.not_false, Bool.false_eq_true, if_true, if_false, isTup]
        exact ⟨rfl, trivial⟩
    · intro n c d Q hf hd hc hk
      rw [if_pos (show [qD q, D.str c, d].length = P_is_branch.length from rfl)]
      refine wp_some (eqOf ?_)
      show Wp (mDef N_is_branch.length (b_is_branch ts (d_is_branch ts f) (d_are_branches ts f)) [qD q, .str c, d]) S _
      rw [wp_def, show startR N_is_branch.length [qD q, D.str c, d] = [some (qD q), some (.str c), some d, none, none, none] from rfl]
      unfold b_is_branch
      simp only [List.set_cons_succ, List.set_cons_zero, wipeR, wp_mSeq, wp_mIfS, wp_mSet, wp_mRet, wp_mDrop, wp_mNx, wp_mPar, wp_parF, wp_mB, wp_mBin, wp_mUn, wp_mCall, wp_mFn, wp_mNil, wp_mCons, wp_mTup, wp_mLst, wp_mIf, wp_mAndV, wp_mOrV, wp_mNotV, wp_mIsN, wp_mNotN, wp_asB, wp_asI, wp_mTru, wp_truB, wp_mAnd, wp_mOr, wp_mNot, wp_mYes, wp_mPart, wp_mSl, wp_mVs, wp_mV0, wp_mC, wp_ret, wp_sub, wp_addI, wp_lt, wp_le, wp_gt, wp_ge, wp_neg, wp_eqS, wp_lenT, wp_lenL, wp_tupT, wp_tupL, Bool.not_true, Bool.not_false, Bool.false_eq_true, if_true, if_false, isT_wp hd]
      cases d with
      | tup ps =>
        simp only [List.set_cons_succ, List.set_cons_zero, wipeR, wp_mSeq, wp_mIfS, wp_mSet, wp_mRet, wp_mDrop, wp_mNx, wp_mPar, wp_parF, wp_mB, wp_mBin, wp_mUn, wp_mCall, wp_mFn, wp_mNil, wp_mCons, wp_mTup, wp_mLst, wp_mIf, wp_mAndV, wp_mOrV, wp_mNotV, wp_mIsN, wp_mNotN, wp_asB, wp_asI, wp_mTru, wp_truB, wp_mAnd, wp_mOr, wp_mNot, wp_mYes, wp_mPart, wp_mSl, wp_mVs, wp_mV0, wp_mC, wp_ret, wp_sub, wp_addI, wp_lt, wp_le, wp_gt, wp_ge, wp_neg, wp_eqS, wp_lenT, wp_lenL, wp_tupT, wp_tupL, Bool.not_true, Bool.not_false, Bool.false_eq_true, if_true, if_false, isTup, Mn.mt0, eq0_wp]
        cases hp0 : ps.isEmpty with
        | true =>
          simp only [List.set_cons_succ, List.set_cons_zero, wipeR, wp_mSeq, wp_mIfS, wp_mSet, wp_mRet, wp_mDrop, wp_mNx, wp_mPar, wp_parF, wp_mB, wp_mBin, wp_mUn, wp_mCall, wp_mFn, wp_mNil, wp_mCons, wp_mTup, wp_mLst, wp_mIf, wp_mAndV, wp_mOrV, wp_mNotV, wp_mIsN, wp_mNotN, wp_asB, wp_asI, wp_mTru, wp_truB, wp_mAnd, wp_mOr, wp_mNot, wp_mYes, wp_mPart, wp_mSl, wp_mVs, wp_mV0, wp_mC, wp_ret, wp_sub, wp_addI, wp_lt, wp_le, wp_gt, wp_ge, wp_neg, wp_eqS, wp_lenT, wp_lenL, wp_tupT, wp_tupL, Bool.not_true, Bool.not_false, Bool.false_eq_true, if_true, if_false]
          refine ⟨?_, trivial⟩
          rw [branchD, hp0]; rfl
        | false =>
          rw [if_neg (by decide)]
          simp only [List.set_cons_succ, List.set_cons_zero, wipeR, wp_mSeq, wp_mIfS, wp_mSet, wp_mRet, wp_mDrop, wp_mNx, wp_mPar, wp_parF, wp_mB, wp_mBin, wp_mUn, wp_mCall, wp_mFn, wp_mNil, wp_mCons, wp_mTup, wp_mLst, wp_mIf, wp_mAndV, wp_mOrV, wp_mNotV, wp_mIsN, wp_mNotN, wp_asB, wp_asI, wp_mTru, wp_truB, wp_mAnd, wp_mOr, wp_mNot, wp_mYes, wp_mPart, wp_mSl, wp_mVs, wp_mV0, wp_mC, wp_ret, wp_sub, wp_addI, wp_lt, wp_le, wp_gt, wp_ge, wp_neg, wp_eqS, wp_lenT, wp_lenL, wp_tupT, wp_tupL, Bool.not_true, Bool.not_false, Bool.false_eq_true, if_true, if_false, wp_mFor, wp_mISeq]
          rw [src_tup]
          refine Wp.mono (loop_find (src := ⟨ps, []⟩) (ds := ps) (J := fun S1 => S1 = S) (I := fun r S1 => (∃ x3, r = [some (qD q), some (.str c), some (.tup ps), x3, none, none]) ∧ S1 = S) (f := fun x : D => if placeD (formD q (n + 1)) q c x = true then none else some (.bl false)) (fun _ _ _ => srcOk_nil) ⟨⟨_, rfl⟩, rfl⟩ ?_) ?_
          · rintro x hx r S1 ⟨⟨x3, rfl⟩, rfl⟩
            have hxt := tr_tup hd hx
            refine ⟨[some (qD q), some (.str c), some (.tup ps), some x, none, none], rfl, ?_⟩
            simp only [List.set_cons_succ, List.set_cons_zero, wipeR, wp_mSeq, wp_mIfS, wp_mSet, wp_mRet, wp_mDrop, wp_mNx, wp_mPar, wp_parF, wp_mB, wp_mBin, wp_mUn, wp_mCall, wp_mFn, wp_mNil, wp_mCons, wp_mTup, wp_mLst, wp_mIf, wp_mAndV, wp_mOrV, wp_mNotV, wp_mIsN, wp_mNotN, wp_asB, wp_asI, wp_mTru, wp_truB, wp_mAnd, wp_mOr, wp_mNot, wp_mYes, wp_mPart, wp_mSl, wp_mVs, wp_mV0, wp_mC, wp_ret, wp_sub, wp_addI, wp_lt, wp_le, wp_gt, wp_ge, wp_neg, wp_eqS, wp_lenT, wp_lenL, wp_tupT, wp_tupL, Bool.not_true, Bool.not_false, Bool.false_eq_true, if_true, if_false, isT_wp hxt]
            cases x with
            | tup xs =>
              simp only [List.set_cons_succ, List.set_cons_zero, wipeR, wp_mSeq, wp_mIfS, wp_mSet, wp_mRet, wp_mDrop, wp_mNx, wp_mPar, wp_parF, wp_mB, wp_mBin, wp_mUn, wp_mCall, wp_mFn, wp_mNil, wp_mCons, wp_mTup, wp_mLst, wp_mIf, wp_mAndV, wp_mOrV, wp_mNotV, wp_mIsN, wp_mNotN, wp_asB, wp_asI, wp_mTru, wp_truB, wp_mAnd, wp_mOr, wp_mNot, wp_mYes, wp_mPart, wp_mSl, wp_mVs, wp_mV0, wp_mC, wp_ret, wp_sub, wp_addI, wp_lt, wp_le, wp_gt, wp_ge, wp_neg, wp_eqS, wp_lenT, wp_lenL, wp_tupT, wp_tupL, Bool.not_true, Bool.not_false, Bool.false_eq_true, if_true, if_false, isTup, neI_wp]
              match xs, hxt with
              | [v, y], hxt =>
                have hv : trB v = true := tr_tup hxt (by simp)
                have hy : trB y = true := tr_tup hxt (by simp)
                have x0 : ∀ (S : Sto) (Q : D → Sto → Prop), Wp (ixM (.tup [v, y]) (.int 0)) S Q ↔ Q v S := fun S Q => wp_ixT rfl
                have x1 : ∀ (S : Sto) (Q : D → Sto → Prop), Wp (ixM (.tup [v, y]) (.int 1)) S Q ↔ Q y S := fun S Q => wp_ixT rfl
                simp only [List.set_cons_succ, List.set_cons_zero, wipeR, wp_mSeq, wp_mIfS, wp_mSet, wp_mRet, wp_mDrop, wp_mNx, wp_mPar, wp_parF, wp_mB, wp_mBin, wp_mUn, wp_mCall, wp_mFn, wp_mNil, wp_mCons, wp_mTup, wp_mLst, wp_mIf, wp_mAndV, wp_mOrV, wp_mNotV, wp_mIsN, wp_mNotN, wp_asB, wp_asI, wp_mTru, wp_truB, wp_mAnd, wp_mOr, wp_mNot, wp_mYes, wp_mPart, wp_mSl, wp_mVs, wp_mV0, wp_mC, wp_ret, wp_sub, wp_addI, wp_lt, wp_le, wp_gt, wp_ge, wp_neg, wp_eqS, wp_lenT, wp_lenL, wp_tupT, wp_tupL, Bool.not_true, Bool.not_false, Bool.false_eq_true, if_true, if_false, show ((([v, y] : List D).length : Int) == 2) = true from rfl, x0, is_integer_fn hv]
                cases v with
                | int i =>
                  simp only [List.set_cons_succ, List.set_cons_zero, wipeR, wp_mSeq, wp_mIfS, wp_mSet, wp_mRet, wp_mDrop, wp_mNx, wp_mPar, wp_parF, wp_mB, wp_mBin, wp_mUn, wp_mCall, wp_mFn, wp_mNil, wp_mCons, wp_mTup, wp_mLst, wp_mIf, wp_mAndV, wp_mOrV, wp_mNotV, wp_mIsN, wp_mNotN, wp_asB, wp_asI, wp_mTru, wp_truB, wp_mAnd, wp_mOr, wp_mNot, wp_mYes, wp_mPart, wp_mSl, wp_mVs, wp_mV0, wp_mC, wp_ret, wp_sub, wp_addI, wp_lt, wp_le, wp_gt, wp_ge, wp_neg, wp_eqS, wp_lenT, wp_lenL, wp_tupT, wp_tupL, Bool.not_true, Bool.not_false, Bool.false_eq_true, if_true, if_false, isI, x0, x1, lets_fn h, children_fn h ht hc]
                  rw [show placeD (formD q (n + 1)) q c (.tup [.int i, y]) = (inR (rgOf q.rs c) i && formD q (n + 1) (ch q (some c)) y) from rfl]
                  cases inR (rgOf q.rs c) i with
                  | false =>
                    simp only [List.set_cons_succ, List.set_cons_zero, wipeR, wp_mSeq, wp_mIfS, wp_mSet, wp_mRet, wp_mDrop, wp_mNx, wp_mPar, wp_parF, wp_mB, wp_mBin, wp_mUn, wp_mCall, wp_mFn, wp_mNil, wp_mCons, wp_mTup, wp_mLst, wp_mIf, wp_mAndV, wp_mOrV, wp_mNotV, wp_mIsN, wp_mNotN, wp_asB, wp_asI, wp_mTru, wp_truB, wp_mAnd, wp_mOr, wp_mNot, wp_mYes, wp_mPart, wp_mSl, wp_mVs, wp_mV0, wp_mC, wp_ret, wp_sub, wp_addI, wp_lt, wp_le, wp_gt, wp_ge, wp_neg, wp_eqS, wp_lenT, wp_lenL, wp_tupT, wp_tupL, Bool.not_true, Bool.not_false, Bool.false_eq_true, if_true, if_false, Bool.false_and]
                    (first | exact ⟨trivial, trivial⟩ | exact ⟨rfl, trivial⟩ | exact ⟨trivial, rfl⟩ | exact ⟨rfl, rfl⟩)
                  | true =>
                    simp only [List.set_cons_succ, List.set_cons_zero, wipeR, wp_mSeq, wp_mIfS, wp_mSet, wp_mRet, wp_mDrop, wp_mNx, wp_mPar, wp_parF, wp_mB, wp_mBin, wp_mUn, wp_mCall, wp_mFn, wp_mNil, wp_mCons, wp_mTup, wp_mLst, wp_mIf, wp_mAndV, wp_mOrV, wp_mNotV, wp_mIsN, wp_mNotN, wp_asB, wp_asI, wp_mTru, wp_truB, wp_mAnd, wp_mOr, wp_mNot, wp_mYes, wp_mPart, wp_mSl, wp_mVs, wp_mV0, wp_mC, wp_ret, wp_sub, wp_addI, wp_lt, wp_le, wp_gt, wp_ge, wp_neg, wp_eqS, wp_lenT, wp_lenL, wp_tupT, wp_tupL, Bool.not_true, Bool.not_false, Bool.false_eq_true, if_true, if_false, Bool.true_and, children_fn h ht hc, x1]
                    rw [ih1 n (ch q (some c)) y _ (by omega) (ch_len h) hy fun e he => ⟨(mem_ch.mp he).1, by have := ch_kk he; omega⟩]
                    cases formD q (n + 1) (ch q (some c)) y with
                    | false =>
                      simp only [List.set_cons_succ, List.set_cons_zero, wipeR, wp_mSeq, wp_mIfS, wp_mSet, wp_mRet, wp_mDrop, wp_mNx, wp_mPar, wp_parF, wp_mB, wp_mBin, wp_mUn, wp_mCall, wp_mFn, wp_mNil, wp_mCons, wp_mTup, wp_mLst, wp_mIf, wp_mAndV, wp_mOrV, wp_mNotV, wp_mIsN, wp_mNotN, wp_asB, wp_asI, wp_mTru, wp_truB, wp_mAnd, wp_mOr, wp_mNot, wp_mYes, wp_mPart, wp_mSl, wp_mVs, wp_mV0, wp_mC, wp_ret, wp_sub, wp_addI, wp_lt, wp_le, wp_gt, wp_ge, wp_neg, wp_eqS, wp_lenT, wp_lenL, wp_tupT, wp_tupL, Bool.not_true, Bool.not_false, Bool.false_eq_true, if_true, if_false]
                      (first | exact ⟨trivial, trivial⟩ | exact ⟨rfl, trivial⟩ | exact ⟨trivial, rfl⟩ | exact ⟨rfl, rfl⟩)
                    | true =>
                      simp only [List.set_cons_succ, List.set_cons_zero, wipeR, wp_mSeq, wp_mIfS, wp_mSet, wp_mRet, wp_mDrop, wp_mNx, wp_mPar, wp_parF, wp_mB, wp_mBin, wp_mUn, wp_mCall, wp_mFn, wp_mNil, wp_mCons, wp_mTup, wp_mLst, wp_mIf, wp_mAndV, wp_mOrV, wp_mNotV, wp_mIsN, wp_mNotN, wp_asB, wp_asI, wp_mTru, wp_truB, wp_mAnd, wp_mOr, wp_mNot, wp_mYes, wp_mPart, wp_mSl, wp_mVs, wp_mV0, wp_mC, wp_ret, wp_sub, wp_addI, wp_lt, wp_le, wp_gt, wp_ge, wp_neg, wp_eqS, wp_lenT, wp_lenL, wp_tupT, wp_tupL, Bool.not_true, Bool.not_false, Bool.false_eq_true, if_true, if_false]
                      first | exact ⟨trivial, ⟨_, rfl⟩, rfl⟩ | exact ⟨trivial, ⟨_, rfl⟩, trivial⟩
                | _ =>
                  simp only [List.set_cons_succ, List.set_cons_zero, wipeR, wp_mSeq, wp_mIfS, wp_mSet, wp_mRet, wp_mDrop, wp_mNx, wp_mPar, wp_parF, wp_mB, wp_mBin, wp_mUn, wp_mCall, wp_mFn, wp_mNil, wp_mCons, wp_mTup, wp_mLst, wp_mIf, wp_mAndV, wp_mOrV, wp_mNotV, wp_mIsN, wp_mNotN, wp_asB, wp_asI, wp_mTru, wp_truB, wp_mAnd, wp_mOr, wp_mNot, wp_mYes, wp_mPart, wp_mSl, wp_mVs, wp_mV0, wp_mC, wp_ret, wp_sub, wp_addI, wp_lt, wp_le, wp_gt, wp_ge, wp_neg, wp_eqS, wp_lenT, wp_lenL, wp_tupT, wp_tupL, Bool.not_true, Bool.not_false, Bool.false_eq_true, if_true, if_false, isI, placeD, inI, Bool.false_and]
                  (first | exact ⟨trivial, trivial⟩ | exact ⟨rfl, trivial⟩ | exact ⟨trivial, rfl⟩ | exact ⟨rfl, rfl⟩)
              | [], _ =>
                simp only [List.set_cons_succ, List.set_cons_zero, wipeR, wp_mSeq, wp_mIfS, wp_mSet, wp_mRet, wp_mDrop, wp_mNx, wp_mPar, wp_parF, wp_mB, wp_mBin, wp_mUn, wp_mCall, wp_mFn, wp_mNil, wp_mCons, wp_mTup, wp_mLst, wp_mIf, wp_mAndV, wp_mOrV, wp_mNotV, wp_mIsN, wp_mNotN, wp_asB, wp_asI, wp_mTru, wp_truB, wp_mAnd, wp_mOr, wp_mNot, wp_mYes, wp_mPart, wp_mSl, wp_mVs, wp_mV0, wp_mC, wp_ret, wp_sub, wp_addI, wp_lt, wp_le, wp_gt, wp_ge, wp_neg, wp_eqS, wp_lenT, wp_lenL, wp_tupT, wp_tupL, Bool.not_true, Bool.not_false, Bool.false_eq_true, if_true, if_false, show ((([] : List D).length : Int) == 2) = false from rfl, placeD]
                (first | exact ⟨trivial, trivial⟩ | exact ⟨rfl, trivial⟩ | exact ⟨trivial, rfl⟩ | exact ⟨rfl, rfl⟩)
              | [v], _ =>
                simp only [List.set_cons_succ, List.set_cons_zero, wipeR, wp_mSeq, wp_mIfS, wp_mSet, wp_mRet, wp_mDrop, wp_mNx, wp_mPar, wp_parF, wp_mB, wp_mBin, wp_mUn, wp_mCall, wp_mFn, wp_mNil, wp_mCons, wp_mTup, wp_mLst, wp_mIf, wp_mAndV, wp_mOrV, wp_mNotV, wp_mIsN, wp_mNotN, wp_asB, wp_asI, wp_mTru, wp_truB, wp_mAnd, wp_mOr, wp_mNot, wp_mYes, wp_mPart, wp_mSl, wp_mVs, wp_mV0, wp_mC, wp_ret, wp_sub, wp_addI, wp_lt, wp_le, wp_gt, wp_ge, wp_neg, wp_eqS, wp_lenT, wp_lenL, wp_tupT, wp_tupL, Bool.not_true, Bool.not_false, Bool.false_eq_true, if_true, if_false, show ((([v] : List D).length : Int) == 2) = false from rfl, placeD]
                (first | exact ⟨trivial, trivial⟩ | exact ⟨rfl, trivial⟩ | exact ⟨trivial, rfl⟩ | exact ⟨rfl, rfl⟩)
              | v :: y :: z :: zs, _ =>
                simp only [List.set_cons_succ, List.set_cons_zero, wipeR, wp_mSeq, wp_mIfS, wp_mSet, wp_mRet, wp_mDrop, wp_mNx, wp_mPar, wp_parF, wp_mB, wp_mBin, wp_mUn, wp_mCall, wp_mFn, wp_mNil, wp_mCons, wp_mTup, wp_mLst, wp_mIf, wp_mAndV, wp_mOrV, wp_mNotV, wp_mIsN, wp_mNotN, wp_asB, wp_asI, wp_mTru, wp_truB, wp_mAnd, wp_mOr, wp_mNot, wp_mYes, wp_mPart, wp_mSl, wp_mVs, wp_mV0, wp_mC, wp_ret, wp_sub, wp_addI, wp_lt, wp_le, wp_gt, wp_ge, wp_neg, wp_eqS, wp_lenT, wp_lenL, wp_tupT, wp_tupL, Bool.not_true, Bool.not_false, Bool.false_eq_true, if_true, if_false, show (((v :: y :: z :: zs : List D).length : Int) == 2) = false by simp; omega, placeD]
                (first | exact ⟨trivial, trivial⟩ | exact ⟨rfl, trivial⟩ | exact ⟨trivial, rfl⟩ | exact ⟨rfl, rfl⟩)
            | _ =>
              simp only [List.set_cons_succ, List.set_cons_zero, wipeR, wp_mSeq, wp_mIfS, wp_mSet, wp_mRet, wp_mDrop, wp_mNx, wp_mPar, wp_parF, wp_mB, wp_mBin, wp_mUn, wp_mCall, wp_mFn, wp_mNil, wp_mCons, wp_mTup, wp_mLst, wp_mIf, wp_mAndV, wp_mOrV, wp_mNotV, wp_mIsN, wp_mNotN, wp_asB, wp_asI, wp_mTru, wp_truB, wp_mAnd, wp_mOr, wp_mNot, wp_mYes, wp_mPart, wp_mSl, wp_mVs, wp_mV0, wp_mC, wp_ret, wp_sub, wp_addI, wp_lt, wp_le, wp_gt, wp_ge, wp_neg, wp_eqS, wp_lenT, wp_lenL, wp_tupT, wp_tupL, Bool.not_true, Bool.not_false, Bool.false_eq_true, if_true, if_false, isTup, placeD]
              (first | exact ⟨trivial, trivial⟩ | exact ⟨rfl, trivial⟩ | exact ⟨trivial, rfl⟩ | exact ⟨rfl, rfl⟩)
          · rintro ⟨fl, r⟩ S1 hm
            rw [find_bad] at hm
            cases hall : ps.all (placeD (formD q (n + 1)) q c) with
            | false =>
              rw [hall, if_neg (by decide)] at hm
              obtain ⟨e1, e2⟩ := hm
              have e1 : fl = .rt _ := e1
              subst e1 e2
              simp only [List.set_cons_succ, List.set_cons_zero, wipeR, wp_mSeq, wp_mIfS, wp_mSet, wp_mRet, wp_mDrop, wp_mNx, wp_mPar, wp_parF, wp_mB, wp_mBin, wp_mUn, wp_mCall, wp_mFn, wp_mNil, wp_mCons, wp_mTup, wp_mLst, wp_mIf, wp_mAndV, wp_mOrV, wp_mNotV, wp_mIsN, wp_mNotN, wp_asB, wp_asI, wp_mTru, wp_truB, wp_mAnd, wp_mOr, wp_mNot, wp_mYes, wp_mPart, wp_mSl, wp_mVs, wp_mV0, wp_mC, wp_ret, wp_sub, wp_addI, wp_lt, wp_le, wp_gt, wp_ge, wp_neg, wp_eqS, wp_lenT, wp_lenL, wp_tupT, wp_tupL, Bool.not_true, Bool.not_false, Bool.false_eq_true, if_true, if_false]
              refine ⟨?_, trivial⟩
              rw [branchD, hall, Bool.and_false, Bool.false_and]
            | true =>
              rw [hall, if_pos rfl] at hm
              obtain ⟨e1, ⟨x3, e3⟩, e2⟩ := hm
              have e1 : fl = .nx := e1
              have e3 : r = _ := e3
              subst e1 e2 e3
              simp only [List.set_cons_succ, List.set_cons_zero, wipeR, wp_mSeq, wp_mIfS, wp_mSet, wp_mRet, wp_mDrop, wp_mNx, wp_mPar, wp_parF, wp_mB, wp_mBin, wp_mUn, wp_mCall, wp_mFn, wp_mNil, wp_mCons, wp_mTup, wp_mLst, wp_mIf, wp_mAndV, wp_mOrV, wp_mNotV, wp_mIsN, wp_mNotN, wp_asB, wp_asI, wp_mTru, wp_truB, wp_mAnd, wp_mOr, wp_mNot, wp_mYes, wp_mPart, wp_mSl, wp_mVs, wp_mV0, wp_mC, wp_ret, wp_sub, wp_addI, wp_lt, wp_le, wp_gt, wp_ge, wp_neg, wp_eqS, wp_lenT, wp_lenL, wp_tupT, wp_tupL, Bool.not_true, Bool.not_false, Bool.false_eq_true, if_true, if_false, wp_mLc, wp_bnd, wp_slT]
              rw [show Mn.cutD ps (some 1) none = ps.drop 1 from cut_lo ps 1, zip_tt]
              unfold pairs2
              rw [lcA (t := fun _ => true) (f := fun p => .bl (decide (fstD p.1 < fstD p.2))) (c := fun p : D × D => D.tup [p.1, p.2]) (l := ps.zip (ps.drop 1)) srcOk_nil fun p hp => ⟨[some (qD q), some (.str c), some (.tup ps), x3, some p.1, some p.2], rfl, by simp only [List.set_cons_succ, List.set_cons_zero, wipeR, wp_mSeq, wp_mIfS, wp_mSet, wp_mRet, wp_mDrop, wp_mNx, wp_mPar, wp_parF, wp_mB, wp_mBin, wp_mUn, wp_mCall, wp_mFn, wp_mNil, wp_mCons, wp_mTup, wp_mLst, wp_mIf, wp_mAndV, wp_mOrV, wp_mNotV, wp_mIsN, wp_mNotN, wp_asB, wp_asI, wp_mTru, wp_truB, wp_mAnd, wp_mOr, wp_mNot, wp_mYes, wp_mPart, wp_mSl, wp_mVs, wp_mV0, wp_mC, wp_ret, wp_sub, wp_addI, wp_lt, wp_le, wp_gt, wp_ge, wp_neg, wp_eqS, wp_lenT, wp_lenL, wp_tupT, wp_tupL, Bool.not_true, Bool.not_false, Bool.false_eq_true, if_true, if_false]; (first | exact ⟨trivial, trivial⟩ | exact ⟨rfl, trivial⟩ | exact ⟨trivial, rfl⟩ | exact ⟨rfl, rfl⟩), fun _ => by
                obtain ⟨hp1, hp2⟩ := List.of_mem_zip hp
                obtain ⟨i, y, ei⟩ := placeD_pair (List.all_eq_true.mp hall p.1 hp1)
                obtain ⟨j, z, ej⟩ := placeD_pair (List.all_eq_true.mp hall p.2 (List.mem_of_mem_drop hp2))
                have x0 : ∀ (i : Int) (y : D) (S : Sto) (Q : D → Sto → Prop), Wp (ixM (.tup [.int i, y]) (.int 0)) S Q ↔ Q (.int i) S := fun i y S Q => wp_ixT rfl
                simp only [List.set_cons_succ, List.set_cons_zero, wipeR, wp_mSeq, wp_mIfS, wp_mSet, wp_mRet, wp_mDrop, wp_mNx, wp_mPar, wp_parF, wp_mB, wp_mBin, wp_mUn, wp_mCall, wp_mFn, wp_mNil, wp_mCons, wp_mTup, wp_mLst, wp_mIf, wp_mAndV, wp_mOrV, wp_mNotV, wp_mIsN, wp_mNotN, wp_asB, wp_asI, wp_mTru, wp_truB, wp_mAnd, wp_mOr, wp_mNot, wp_mYes, wp_mPart, wp_mSl, wp_mVs, wp_mV0, wp_mC, wp_ret, wp_sub, wp_addI, wp_lt, wp_le, wp_gt, wp_ge, wp_neg, wp_eqS, wp_lenT, wp_lenL, wp_tupT, wp_tupL, Bool.not_true, Bool.not_false, Bool.false_eq_true, if_true, if_false, ei, ej, x0]
                exact ⟨rfl, trivial⟩⟩]
              rw [filt_true, wp_lim (by rw [List.length_map, List.length_zip]; have := tr_len hd; omega)]
              rw [show ((ps.zip (ps.drop 1)).map fun p => D.bl (decide (fstD p.1 < fstD p.2))) = ((ps.zip (ps.drop 1)).map fun p => decide (fstD p.1 < fstD p.2)).map D.bl by rw [List.map_map]; rfl, wp_allB]
              simp only [List.set_cons_succ, List.set_cons_zero, wipeR, wp_mSeq, wp_mIfS, wp_mSet, wp_mRet, wp_mDrop, wp_mNx, wp_mPar, wp_parF, wp_mB, wp_mBin, wp_mUn, wp_mCall, wp_mFn, wp_mNil, wp_mCons, wp_mTup, wp_mLst, wp_mIf, wp_mAndV, wp_mOrV, wp_mNotV, wp_mIsN, wp_mNotN, wp_asB, wp_asI, wp_mTru, wp_truB, wp_mAnd, wp_mOr, wp_mNot, wp_mYes, wp_mPart, wp_mSl, wp_mVs, wp_mV0, wp_mC, wp_ret, wp_sub, wp_addI, wp_lt, wp_le, wp_gt, wp_ge, wp_neg, wp_eqS, wp_lenT, wp_lenL, wp_tupT, wp_tupL, Bool.not_true, Bool.not_false, Bool.false_eq_true, if_true, if_false]
              refine ⟨?_, trivial⟩
              rw [branchD, hall, hp0, List.all_map]
              rfl
      | _ =>
        simp only [List.set_cons_succ, List.set_cons_zero, wipeR, wp_mSeq, wp_mIfS, wp_mSet, wp_mRet, wp_mDrop, wp_mNx, wp_mPar, wp_parF, wp_mB, wp_mBin, wp_mUn, wp_mCall, wp_mFn, wp_mNil, wp_mCons, wp_mTup, wp_mLst, wp_mIf, wp_mAndV, wp_mOrV, wp_mNotV, wp_mIsN, wp_mNotN, wp_asB, wp_asI, wp_mTru, wp_truB, wp_mAnd, wp_mOr, wp_mNot, wp_mYes, wp_mPart, wp_mSl, wp_mVs, wp_mV0, wp_mC, wp_ret, wp_sub, wp_addI, wp_lt, wp_le, wp_gt, wp_ge, wp_neg, wp_eqS, wp_lenT, wp_lenL, wp_tupT, wp_tupL, Bool.not_true, Bool.not_false, Bool.false_eq_true, if_true, if_false, isTup]
        exact ⟨rfl, trivial⟩
end
end K56
set_option maxRecDepth 100000
set_option maxHeartbeats 1000000
namespace K56
open PySem PySem.Spec PyProof.Rows L2 Mn
section
variable {S : Sto} {b : Nat} {Q : D → Sto → Prop} {ts : Nat → Addr}
theorem zip_src {dc : D} {cs : List Str} {gs : List (Nat × List D)} {bs : List D} {QI : Src → Sto → Prop} (h : srcOf dc S = some ⟨cs.map .str, gs⟩) : Wp (zipM [dc, .tup bs]) S QI ↔ QI ⟨(cs.zip bs).map fun p => D.tup [.str p.1, p.2], gs ++ []⟩ S := wp_some (by
  unfold zipM
  simp only [h, show srcOf (.tup bs) S = some ⟨bs, []⟩ from rfl, pairs_cols])
theorem len_src {dc : D} {cs : List Str} {gs : List (Nat × List D)} (h : srcOf dc S = some ⟨cs.map .str, gs⟩) (hr : ∀ ds, dc ≠ .rol ds) : Wp (lenM [dc]) S Q ↔ Q (.int cs.length) S := by
  cases dc with
  | tup ds => cases h; rw [wp_lenT, List.length_map]
  | lst ds => cases h; rw [wp_lenL, List.length_map]
  | rol ds => exact absurd rfl (hr ds)
  | ref n =>
    unfold srcOf at h
    simp only at h
    cases ho : S.ob n with
    | none => rw [ho] at h; cases h
    | some o =>
      cases o with
      | lst ds => rw [ho] at h; cases h; rw [wp_lenR ho, List.length_map]
      | dic _ _ => rw [ho] at h; cases h
      | tab _ _ => rw [ho] at h; cases h
  | _ => cases h
theorem form_fn {q : Qu} (h : OkQ q) (hn : Nst q) : ∀ (f n : Nat) {cs : List Str} {dc : D} {gs : List (Nat × List D)} {d : D} {S : Sto} {Q : D → Sto → Prop}, n + 1 ≤ f → cs.length ≤ 6 → trB d = true → (∀ ds, dc ≠ .rol ds) →
    srcOf dc S = some ⟨cs.map .str, gs⟩ → (∀ S1, Gr S S1 → srcOk ⟨cs.map .str, gs⟩ S1) → (∀ c ∈ cs, c ∈ q.cols ∧ q.cols.length ≤ n + kk q c) →
    (∀ S', Gr S S' → Q (.bl (formD q (n + 1) cs d)) S') → Wp (if [qD q, dc, d].length = P_law_is_form.length then d_law_is_form f [qD q, dc, d] else fail) S Q
  | 0, n, cs, dc, gs, d, S, Q, hf, _, _, _, _, _, _, _ => by omega
  | f + 1, n, cs, dc, gs, d, S, Q, hf, hcl, hd, hnr, hs, ok, hc, fin => by
    have ih := @form_fn q h hn f
    rw [if_pos (show [qD q, dc, d].length = P_law_is_form.length from rfl)]
    rw [d_law_is_form, wp_def, show startR N_law_is_form.length [qD q, dc, d] = [some (qD q), some dc, some d, none, none, none, none, none] from rfl]
    unfold b_law_is_form
    simp only [List.set_cons_succ, List.set_cons_zero, wipeR, wp_mSeq, wp_mIfS, wp_mSet, wp_mRet, wp_mDrop, wp_mNx, wp_mPar, wp_parF, wp_mB, wp_mBin, wp_mUn, wp_mCall, wp_mFn, wp_mNil, wp_mCons, wp_mTup, wp_mLst, wp_mIf, wp_mAndV, wp_mOrV, wp_mNotV, wp_mIsN, wp_mNotN, wp_asB, wp_asI, wp_mTru, wp_truB, wp_mAnd, wp_mOr, wp_mNot, wp_mYes, wp_mPart, wp_mSl, wp_mVs, wp_mV0, wp_mC, wp_ret, wp_sub, wp_addI, wp_lt, wp_le, wp_gt, wp_ge, wp_neg, wp_eqS, wp_lenT, wp_lenL, wp_tupT, wp_tupL, Bool.not_true, Bool.not_false, Bool.false_eq_true, if_true, if_false, isT_wp hd]
    cases d with
    | tup bs =>
      simp only [List.set_cons_succ, List.set_cons_zero, wipeR, wp_mSeq, wp_mIfS, wp_mSet, wp_mRet, wp_mDrop, wp_mNx, wp_mPar, wp_parF, wp_mB, wp_mBin, wp_mUn, wp_mCall, wp_mFn, wp_mNil, wp_mCons, wp_mTup, wp_mLst, wp_mIf, wp_mAndV, wp_mOrV, wp_mNotV, wp_mIsN, wp_mNotN, wp_asB, wp_asI, wp_mTru, wp_truB, wp_mAnd, wp_mOr, wp_mNot, wp_mYes, wp_mPart, wp_mSl, wp_mVs, wp_mV0, wp_mC, wp_ret, wp_sub, wp_addI, wp_lt, wp_le, wp_gt, wp_ge, wp_neg, wp_eqS, wp_lenT, wp_lenL, wp_tupT, wp_tupL, Bool.not_true, Bool.not_false, Bool.false_eq_true, if_true, if_false, isTup, len_src hs hnr, neI_wp]
      cases hl : ((bs.length : Int) == (cs.length : Int)) with
      | false =>
        simp only [List.set_cons_succ, List.set_cons_zero, wipeR, wp_mSeq, wp_mIfS, wp_mSet, wp_mRet, wp_mDrop, wp_mNx, wp_mPar, wp_parF, wp_mB, wp_mBin, wp_mUn, wp_mCall, wp_mFn, wp_mNil, wp_mCons, wp_mTup, wp_mLst, wp_mIf, wp_mAndV, wp_mOrV, wp_mNotV, wp_mIsN, wp_mNotN, wp_asB, wp_asI, wp_mTru, wp_truB, wp_mAnd, wp_mOr, wp_mNot, wp_mYes, wp_mPart, wp_mSl, wp_mVs, wp_mV0, wp_mC, wp_ret, wp_sub, wp_addI, wp_lt, wp_le, wp_gt, wp_ge, wp_neg, wp_eqS, wp_lenT, wp_lenL, wp_tupT, wp_tupL, Bool.not_true, Bool.not_false, Bool.false_eq_true, if_true, if_false]
        have : (bs.length == cs.length) = false := by
          have : ¬ ((bs.length : Int) = (cs.length : Int)) := by simpa using hl
          simpa using (by omega : bs.length ≠ cs.length)
        have e : formD q (n + 1) cs (.tup bs) = false := by rw [formD, this]; rfl
        rw [← e]
        exact fin S Gr.refl
      | true =>
        have hl2 : bs.length = cs.length := by
          have : ((bs.length : Int) = (cs.length : Int)) := by simpa using hl
          omega
        have e : formD q (n + 1) cs (.tup bs) = (cs.zip bs).all fun p => branchD (formD q n) q p.1 p.2 := by
          rw [formD]
          simp only [hl2, beq_self_eq_true, Bool.true_and]
        rw [e] at fin
        simp only [List.set_cons_succ, List.set_cons_zero, wipeR, wp_mSeq, wp_mIfS, wp_mSet, wp_mRet, wp_mDrop, wp_mNx, wp_mPar, wp_parF, wp_mB, wp_mBin, wp_mUn, wp_mCall, wp_mFn, wp_mNil, wp_mCons, wp_mTup, wp_mLst, wp_mIf, wp_mAndV, wp_mOrV, wp_mNotV, wp_mIsN, wp_mNotN, wp_asB, wp_asI, wp_mTru, wp_truB, wp_mAnd, wp_mOr, wp_mNot, wp_mYes, wp_mPart, wp_mSl, wp_mVs, wp_mV0, wp_mC, wp_ret, wp_sub, wp_addI, wp_lt, wp_le, wp_gt, wp_ge, wp_neg, wp_eqS, wp_lenT, wp_lenL, wp_tupT, wp_tupL, Bool.not_true, Bool.not_false, Bool.false_eq_true, if_true, if_false, wp_mFor, wp_bnd]
        rw [zip_src hs]
        refine Wp.mono (loopA_find (l := cs.zip bs) (c := fun p : Str × D => D.tup [.str p.1, p.2]) (g := gT 2 (gsCons (gV 3) (gsCons (gV 4) gsNil))) (J := fun S1 => Gr S S1) (I := fun r S1 => (∃ x3 x4 x5, r = [some (qD q), some dc, some (.tup bs), x3, x4, x5, none, none]) ∧ Gr S S1) (f := fun p : Str × D => if branchD (formD q n) q p.1 p.2 = true then none else some (.bl false)) (fun r S1 hh p hp => ok S1 hh.2 p (by simpa using hp)) ⟨⟨_, _, _, rfl⟩, Gr.refl⟩ ?_) ?_
        · rintro p hp r S1 ⟨⟨x3, x4, x5, rfl⟩, g1⟩
          obtain ⟨hp1, hp2⟩ := List.of_mem_zip hp
          obtain ⟨hcc, hck⟩ := hc p.1 hp1
          have hbt := tr_tup hd hp2
          have hlt := kk_le hcc
          obtain ⟨m, rfl⟩ : ∃ m, n = m + 1 := ⟨n - 1, by omega⟩
          obtain ⟨c, br⟩ := p
          simp only at hcc hck hbt hlt ⊢
          refine ⟨[some (qD q), some dc, some (.tup bs), some (.str c), some br, x5, none, none], rfl, ?_⟩
          simp only [List.set_cons_succ, List.set_cons_zero, wipeR, wp_mSeq, wp_mIfS, wp_mSet, wp_mRet, wp_mDrop, wp_mNx, wp_mPar, wp_parF, wp_mB, wp_mBin, wp_mUn, wp_mCall, wp_mFn, wp_mNil, wp_mCons, wp_mTup, wp_mLst, wp_mIf, wp_mAndV, wp_mOrV, wp_mNotV, wp_mIsN, wp_mNotN, wp_asB, wp_asI, wp_mTru, wp_truB, wp_mAnd, wp_mOr, wp_mNot, wp_mYes, wp_mPart, wp_mSl, wp_mVs, wp_mV0, wp_mC, wp_ret, wp_sub, wp_addI, wp_lt, wp_le, wp_gt, wp_ge, wp_neg, wp_eqS, wp_lenT, wp_lenL, wp_tupT, wp_tupL, Bool.not_true, Bool.not_false, Bool.false_eq_true, if_true, if_false, isT_wp hbt]
          cases br with
          | tup ps =>
            simp only [List.set_cons_succ, List.set_cons_zero, wipeR, wp_mSeq, wp_mIfS, wp_mSet, wp_mRet, wp_mDrop, wp_mNx, wp_mPar, wp_parF, wp_mB, wp_mBin, wp_mUn, wp_mCall, wp_mFn, wp_mNil, wp_mCons, wp_mTup, wp_mLst, wp_mIf, wp_mAndV, wp_mOrV, wp_mNotV, wp_mIsN, wp_mNotN, wp_asB, wp_asI, wp_mTru, wp_truB, wp_mAnd, wp_mOr, wp_mNot, wp_mYes, wp_mPart, wp_mSl, wp_mVs, wp_mV0, wp_mC, wp_ret, wp_sub, wp_addI, wp_lt, wp_le, wp_gt, wp_ge, wp_neg, wp_eqS, wp_lenT, wp_lenL, wp_tupT, wp_tupL, Bool.not_true, Bool.not_false, Bool.false_eq_true, if_true, if_false, isTup, Mn.mt0, eq0_wp]
            cases hp0 : ps.isEmpty with
            | true =>
              have eb : branchD (formD q (m + 1)) q c (.tup ps) = false := by rw [branchD, hp0]; rfl
              rw [eb]
              simp only [List.set_cons_succ, List.set_cons_zero, wipeR, wp_mSeq, wp_mIfS, wp_mSet, wp_mRet, wp_mDrop, wp_mNx, wp_mPar, wp_parF, wp_mB, wp_mBin, wp_mUn, wp_mCall, wp_mFn, wp_mNil, wp_mCons, wp_mTup, wp_mLst, wp_mIf, wp_mAndV, wp_mOrV, wp_mNotV, wp_mIsN, wp_mNotN, wp_asB, wp_asI, wp_mTru, wp_truB, wp_mAnd, wp_mOr, wp_mNot, wp_mYes, wp_mPart, wp_mSl, wp_mVs, wp_mV0, wp_mC, wp_ret, wp_sub, wp_addI, wp_lt, wp_le, wp_gt, wp_ge, wp_neg, wp_eqS, wp_lenT, wp_lenL, wp_tupT, wp_tupL, Bool.not_true, Bool.not_false, Bool.false_eq_true, if_true, if_false]
              exact ⟨trivial, g1⟩
            | false =>
              rw [if_neg (by decide)]
              simp only [List.set_cons_succ, List.set_cons_zero, wipeR, wp_mSeq, wp_mIfS, wp_mSet, wp_mRet, wp_mDrop, wp_mNx, wp_mPar, wp_parF, wp_mB, wp_mBin, wp_mUn, wp_mCall, wp_mFn, wp_mNil, wp_mCons, wp_mTup, wp_mLst, wp_mIf, wp_mAndV, wp_mOrV, wp_mNotV, wp_mIsN, wp_mNotN, wp_asB, wp_asI, wp_mTru, wp_truB, wp_mAnd, wp_mOr, wp_mNot, wp_mYes, wp_mPart, wp_mSl, wp_mVs, wp_mV0, wp_mC, wp_ret, wp_sub, wp_addI, wp_lt, wp_le, wp_gt, wp_ge, wp_neg, wp_eqS, wp_lenT, wp_lenL, wp_tupT, wp_tupL, Bool.not_true, Bool.not_false, Bool.false_eq_true, if_true, if_false, wp_mFor, wp_mISeq]
              rw [src_tup]
              refine Wp.mono (loop_find (src := ⟨ps, []⟩) (ds := ps) (J := fun S2 => Gr S S2) (I := fun r S2 => (∃ x5, r = [some (qD q), some dc, some (.tup bs), some (.str c), some (.tup ps), x5, none, none]) ∧ Gr S S2) (f := fun x : D => if placeD (formD q (m + 1)) q c x = true then none else some (.bl false)) (fun _ _ _ => srcOk_nil) ⟨⟨_, rfl⟩, g1⟩ ?_) ?_
              · rintro x hx r S2 ⟨⟨x5, rfl⟩, g2⟩
                have hxt := tr_tup hbt hx
                refine ⟨[some (qD q), some dc, some (.tup bs), some (.str c), some (.tup ps), some x, none, none], rfl, ?_⟩
                simp only [List.set_cons_succ, List.set_cons_zero, wipeR, wp_mSeq, wp_mIfS, wp_mSet, wp_mRet, wp_mDrop, wp_mNx, wp_mPar, wp_parF, wp_mB, wp_mBin, wp_mUn, wp_mCall, wp_mFn, wp_mNil, wp_mCons, wp_mTup, wp_mLst, wp_mIf, wp_mAndV, wp_mOrV, wp_mNotV, wp_mIsN, wp_mNotN, wp_asB, wp_asI, wp_mTru, wp_truB, wp_mAnd, wp_mOr, wp_mNot, wp_mYes, wp_mPart, wp_mSl, wp_mVs, wp_mV0, wp_mC, wp_ret, wp_sub, wp_addI, wp_lt, wp_le, wp_gt, wp_ge, wp_neg, wp_eqS, wp_lenT, wp_lenL, wp_tupT, wp_tupL, Bool.not_true, Bool.not_false, Bool.false_eq_true, if_true, if_false, isT_wp hxt]
                cases x with
                | tup xs =>
                  simp only [List.set_cons_succ, List.set_cons_zero, wipeR, wp_mSeq, wp_mIfS, wp_mSet, wp_mRet, wp_mDrop, wp_mNx, wp_mPar, wp_parF, wp_mB, wp_mBin, wp_mUn, wp_mCall, wp_mFn, wp_mNil, wp_mCons, wp_mTup, wp_mLst, wp_mIf, wp_mAndV, wp_mOrV, wp_mNotV, wp_mIsN, wp_mNotN, wp_asB, wp_asI, wp_mTru, wp_truB, wp_mAnd, wp_mOr, wp_mNot, wp_mYes, wp_mPart, wp_mSl, wp_mVs, wp_mV0, wp_mC, wp_ret, wp_sub, wp_addI, wp_lt, wp_le, wp_gt, wp_ge, wp_neg, wp_eqS, wp_lenT, wp_lenL, wp_tupT, wp_tupL, Bool.not_true, Bool.not_false, Bool.false_eq_true, if_true, if_false, isTup, neI_wp]
                  match xs, hxt with
                  | [v, y], hxt =>
                    have hv : trB v = true := tr_tup hxt (by simp)
                    have hy : trB y = true := tr_tup hxt (by simp)
                    have x0 : ∀ (S : Sto) (Q : D → Sto → Prop), Wp (ixM (.tup [v, y]) (.int 0)) S Q ↔ Q v S := fun S Q => wp_ixT rfl
                    have x1 : ∀ (S : Sto) (Q : D → Sto → Prop), Wp (ixM (.tup [v, y]) (.int 1)) S Q ↔ Q y S := fun S Q => wp_ixT rfl
                    simp only [List.set_cons_succ, List.set_cons_zero, wipeR, wp_mSeq, wp_mIfS, wp_mSet, wp_mRet, wp_mDrop, wp_mNx, wp_mPar, wp_parF, wp_mB, wp_mBin, wp_mUn, wp_mCall, wp_mFn, wp_mNil, wp_mCons, wp_mTup, wp_mLst, wp_mIf, wp_mAndV, wp_mOrV, wp_mNotV, wp_mIsN, wp_mNotN, wp_asB, wp_asI, wp_mTru, wp_truB, wp_mAnd, wp_mOr, wp_mNot, wp_mYes, wp_mPart, wp_mSl, wp_mVs, wp_mV0, wp_mC, wp_ret, wp_sub, wp_addI, wp_lt, wp_le, wp_gt, wp_ge, wp_neg, wp_eqS, wp_lenT, wp_lenL, wp_tupT, wp_tupL, Bool.not_true, Bool.not_false, Bool.false_eq_true, if_true, if_false, show ((([v, y] : List D).length : Int) == 2) = true from rfl, x0, law_is_int_fn hv]
                    cases v with
                    | int i =>
                      simp only [List.set_cons_succ, List.set_cons_zero, wipeR, wp_mSeq, wp_mIfS, wp_mSet, wp_mRet, wp_mDrop, wp_mNx, wp_mPar, wp_parF, wp_mB, wp_mBin, wp_mUn, wp_mCall, wp_mFn, wp_mNil, wp_mCons, wp_mTup, wp_mLst, wp_mIf, wp_mAndV, wp_mOrV, wp_mNotV, wp_mIsN, wp_mNotN, wp_asB, wp_asI, wp_mTru, wp_truB, wp_mAnd, wp_mOr, wp_mNot, wp_mYes, wp_mPart, wp_mSl, wp_mVs, wp_mV0, wp_mC, wp_ret, wp_sub, wp_addI, wp_lt, wp_le, wp_gt, wp_ge, wp_neg, wp_eqS, wp_lenT, wp_lenL, wp_tupT, wp_tupL, Bool.not_true, Bool.not_false, Bool.false_eq_true, if_true, if_false, isI, x0, law_in_fn h]
                      rw [show placeD (formD q (m + 1)) q c (.tup [.int i, y]) = (inR (rgOf q.rs c) i && formD q (m + 1) (ch q (some c)) y) from rfl]
                      cases inR (rgOf q.rs c) i with
                      | false =>
                        simp only [List.set_cons_succ, List.set_cons_zero, wipeR, wp_mSeq, wp_mIfS, wp_mSet, wp_mRet, wp_mDrop, wp_mNx, wp_mPar, wp_parF, wp_mB, wp_mBin, wp_mUn, wp_mCall, wp_mFn, wp_mNil, wp_mCons, wp_mTup, wp_mLst, wp_mIf, wp_mAndV, wp_mOrV, wp_mNotV, wp_mIsN, wp_mNotN, wp_asB, wp_asI, wp_mTru, wp_truB, wp_mAnd, wp_mOr, wp_mNot, wp_mYes, wp_mPart, wp_mSl, wp_mVs, wp_mV0, wp_mC, wp_ret, wp_sub, wp_addI, wp_lt, wp_le, wp_gt, wp_ge, wp_neg, wp_eqS, wp_lenT, wp_lenL, wp_tupT, wp_tupL, Bool.not_true, Bool.not_false, Bool.false_eq_true, if_true, if_false, Bool.false_and]
                        exact ⟨trivial, g2⟩
                      | true =>
                        rw [Bool.true_and]
                        simp only [List.set_cons_succ, List.set_cons_zero, wipeR, wp_mSeq, wp_mIfS, wp_mSet, wp_mRet, wp_mDrop, wp_mNx, wp_mPar, wp_parF, wp_mB, wp_mBin, wp_mUn, wp_mCall, wp_mFn, wp_mNil, wp_mCons, wp_mTup, wp_mLst, wp_mIf, wp_mAndV, wp_mOrV, wp_mNotV, wp_mIsN, wp_mNotN, wp_asB, wp_asI, wp_mTru, wp_truB, wp_mAnd, wp_mOr, wp_mNot, wp_mYes, wp_mPart, wp_mSl, wp_mVs, wp_mV0, wp_mC, wp_ret, wp_sub, wp_addI, wp_lt, wp_le, wp_gt, wp_ge, wp_neg, wp_eqS, wp_lenT, wp_lenL, wp_tupT, wp_tupL, Bool.not_true, Bool.not_false, Bool.false_eq_true, if_true, if_false]
                        refine law_children_fn (o := some c) h hn (fun p hp => by cases hp; exact h.cs c hcc) fun S3 n3 g3 hn3 hn4 ho3 => ?_
                        simp only [List.set_cons_succ, List.set_cons_zero, wipeR, wp_mSeq, wp_mIfS, wp_mSet, wp_mRet, wp_mDrop, wp_mNx, wp_mPar, wp_parF, wp_mB, wp_mBin, wp_mUn, wp_mCall, wp_mFn, wp_mNil, wp_mCons, wp_mTup, wp_mLst, wp_mIf, wp_mAndV, wp_mOrV, wp_mNotV, wp_mIsN, wp_mNotN, wp_asB, wp_asI, wp_mTru, wp_truB, wp_mAnd, wp_mOr, wp_mNot, wp_mYes, wp_mPart, wp_mSl, wp_mVs, wp_mV0, wp_mC, wp_ret, wp_sub, wp_addI, wp_lt, wp_le, wp_gt, wp_ge, wp_neg, wp_eqS, wp_lenT, wp_lenL, wp_tupT, wp_tupL, Bool.not_true, Bool.not_false, Bool.false_eq_true, if_true, if_false, x1]
                        refine ih m (by omega) (ch_len h) hy (fun ds e => by cases e) (show srcOf (.ref n3) S3 = some ⟨(ch q (some c)).map .str, [(n3, (ch q (some c)).map .str)]⟩ by unfold srcOf; simp only [ho3]) (fun S4 g4 => srcOk_one.mpr ((g4.2 n3 hn4).trans ho3)) (fun e he => ⟨(mem_ch.mp he).1, by have := ch_kk he; omega⟩) fun S4 g4 => ?_
                        have g24 := (g2.trans g3).trans g4
                        cases formD q (m + 1) (ch q (some c)) y with
                        | false =>
                          simp only [List.set_cons_succ, List.set_cons_zero, wipeR, wp_mSeq, wp_mIfS, wp_mSet, wp_mRet, wp_mDrop, wp_mNx, wp_mPar, wp_parF, wp_mB, wp_mBin, wp_mUn, wp_mCall, wp_mFn, wp_mNil, wp_mCons, wp_mTup, wp_mLst, wp_mIf, wp_mAndV, wp_mOrV, wp_mNotV, wp_mIsN, wp_mNotN, wp_asB, wp_asI, wp_mTru, wp_truB, wp_mAnd, wp_mOr, wp_mNot, wp_mYes, wp_mPart, wp_mSl, wp_mVs, wp_mV0, wp_mC, wp_ret, wp_sub, wp_addI, wp_lt, wp_le, wp_gt, wp_ge, wp_neg, wp_eqS, wp_lenT, wp_lenL, wp_tupT, wp_tupL, Bool.not_true, Bool.not_false, Bool.false_eq_true, if_true, if_false]
                          exact ⟨trivial, g24⟩
                        | true =>
                          simp only [List.set_cons_succ, List.set_cons_zero, wipeR, wp_mSeq, wp_mIfS, wp_mSet, wp_mRet, wp_mDrop, wp_mNx, wp_mPar, wp_parF, wp_mB, wp_mBin, wp_mUn, wp_mCall, wp_mFn, wp_mNil, wp_mCons, wp_mTup, wp_mLst, wp_mIf, wp_mAndV, wp_mOrV, wp_mNotV, wp_mIsN, wp_mNotN, wp_asB, wp_asI, wp_mTru, wp_truB, wp_mAnd, wp_mOr, wp_mNot, wp_mYes, wp_mPart, wp_mSl, wp_mVs, wp_mV0, wp_mC, wp_ret, wp_sub, wp_addI, wp_lt, wp_le, wp_gt, wp_ge, wp_neg, wp_eqS, wp_lenT, wp_lenL, wp_tupT, wp_tupL, Bool.not_true, Bool.not_false, Bool.false_eq_true, if_true, if_false]
                          exact ⟨trivial, ⟨_, rfl⟩, g24⟩
                    | _ =>
                      simp only [List.set_cons_succ, List.set_cons_zero, wipeR, wp_mSeq, wp_mIfS, wp_mSet, wp_mRet, wp_mDrop, wp_mNx, wp_mPar, wp_parF, wp_mB, wp_mBin, wp_mUn, wp_mCall, wp_mFn, wp_mNil, wp_mCons, wp_mTup, wp_mLst, wp_mIf, wp_mAndV, wp_mOrV, wp_mNotV, wp_mIsN, wp_mNotN, wp_asB, wp_asI, wp_mTru, wp_truB, wp_mAnd, wp_mOr, wp_mNot, wp_mYes, wp_mPart, wp_mSl, wp_mVs, wp_mV0, wp_mC, wp_ret, wp_sub, wp_addI, wp_lt, wp_le, wp_gt, wp_ge, wp_neg, wp_eqS, wp_lenT, wp_lenL, wp_tupT, wp_tupL, Bool.not_true, Bool.not_false, Bool.false_eq_true, if_true, if_false, isI, placeD, inI, Bool.false_and]
                      exact ⟨trivial, g2⟩
                  | [], _ =>
                    simp only [List.set_cons_succ, List.set_cons_zero, wipeR, wp_mSeq, wp_mIfS, wp_mSet, wp_mRet, wp_mDrop, wp_mNx, wp_mPar, wp_parF, wp_mB, wp_mBin, wp_mUn, wp_mCall, wp_mFn, wp_mNil, wp_mCons, wp_mTup, wp_mLst, wp_mIf, wp_mAndV, wp_mOrV, wp_mNotV, wp_mIsN, wp_mNotN, wp_asB, wp_asI, wp_mTru, wp_truB, wp_mAnd, wp_mOr, wp_mNot, wp_mYes, wp_mPart, wp_mSl, wp_mVs, wp_mV0, wp_mC, wp_ret, wp_sub, wp_addI, wp_lt, wp_le, wp_gt, wp_ge, wp_neg, wp_eqS, wp_lenT, wp_lenL, wp_tupT, wp_tupL, Bool.not_true, Bool.not_false, Bool.false_eq_true, if_true, if_false, show ((([] : List D).length : Int) == 2) = false from rfl, placeD]
                    exact ⟨trivial, g2⟩
                  | [v], _ =>
                    simp only [List.set_cons_succ, List.set_cons_zero, wipeR, wp_mSeq, wp_mIfS, wp_mSet, wp_mRet, wp_mDrop, wp_mNx, wp_mPar, wp_parF, wp_mB, wp_mBin, wp_mUn, wp_mCall, wp_mFn, wp_mNil, wp_mCons, wp_mTup, wp_mLst, wp_mIf, wp_mAndV, wp_mOrV, wp_mNotV, wp_mIsN, wp_mNotN, wp_asB, wp_asI, wp_mTru, wp_truB, wp_mAnd, wp_mOr, wp_mNot, wp_mYes, wp_mPart, wp_mSl, wp_mVs, wp_mV0, wp_mC, wp_ret, wp_sub, wp_addI, wp_lt, wp_le, wp_gt, wp_ge, wp_neg, wp_eqS, wp_lenT, wp_lenL, wp_tupT, wp_tupL, Bool.not_true, Bool.not_false, Bool.false_eq_true, if_true, if_false, show ((([v] : List D).length : Int) == 2) = false from rfl, placeD]
                    exact ⟨trivial, g2⟩
                  | v :: y :: z :: zs, _ =>
                    simp only [List.set_cons_succ, List.set_cons_zero, wipeR, wp_mSeq, wp_mIfS, wp_mSet, wp_mRet, wp_mDrop, wp_mNx, wp_mPar, wp_parF, wp_mB, wp_mBin, wp_mUn, wp_mCall, wp_mFn, wp_mNil, wp_mCons, wp_mTup, wp_mLst, wp_mIf, wp_mAndV, wp_mOrV, wp_mNotV, wp_mIsN, wp_mNotN, wp_asB, wp_asI, wp_mTru, wp_truB, wp_mAnd, wp_mOr, wp_mNot, wp_mYes, wp_mPart, wp_mSl, wp_mVs, wp_mV0, wp_mC, wp_ret, wp_sub, wp_addI, wp_lt, wp_le, wp_gt, wp_ge, wp_neg, wp_eqS, wp_lenT, wp_lenL, wp_tupT, wp_tupL, Bool.not_true, Bool.not_false, Bool.false_eq_true, if_true, if_false, show (((v :: y :: z :: zs : List D).length : Int) == 2) = false by simp; omega, placeD]
                    exact ⟨trivial, g2⟩
                | _ =>
                  simp only [List.set_cons_succ, List.set_cons_zero, wipeR, wp_mSeq, wp_mIfS, wp_mSet, wp_mRet, wp_mDrop, wp_mNx, wp_mPar, wp_parF, wp_mB, wp_mBin, wp_mUn, wp_mCall, wp_mFn, wp_mNil, wp_mCons, wp_mTup, wp_mLst, wp_mIf, wp_mAndV, wp_mOrV, wp_mNotV, wp_mIsN, wp_mNotN, wp_asB, wp_asI, wp_mTru, wp_truB, wp_mAnd, wp_mOr, wp_mNot, wp_mYes, wp_mPart, wp_mSl, wp_mVs, wp_mV0, wp_mC, wp_ret, wp_sub, wp_addI, wp_lt, wp_le, wp_gt, wp_ge, wp_neg, wp_eqS, wp_lenT, wp_lenL, wp_tupT, wp_tupL, Bool.not_true, Bool.not_false, Bool.false_eq_true, if_true, if_false, isTup, placeD]
                  exact ⟨trivial, g2⟩
              · rintro ⟨fl, r⟩ S2 hm
                rw [find_bad] at hm
                cases hall : ps.all (placeD (formD q (m + 1)) q c) with
                | false =>
                  rw [hall, if_neg (by decide)] at hm
                  obtain ⟨e1, g2⟩ := hm
                  have e1 : fl = .rt _ := e1
                  subst e1
                  have eb : branchD (formD q (m + 1)) q c (.tup ps) = false := by rw [branchD, hall, Bool.and_false, Bool.false_and]
                  rw [eb]
                  simp only [List.set_cons_succ, List.set_cons_zero, wipeR, wp_mSeq, wp_mIfS, wp_mSet, wp_mRet, wp_mDrop, wp_mNx, wp_mPar, wp_parF, wp_mB, wp_mBin, wp_mUn, wp_mCall, wp_mFn, wp_mNil, wp_mCons, wp_mTup, wp_mLst, wp_mIf, wp_mAndV, wp_mOrV, wp_mNotV, wp_mIsN, wp_mNotN, wp_asB, wp_asI, wp_mTru, wp_truB, wp_mAnd, wp_mOr, wp_mNot, wp_mYes, wp_mPart, wp_mSl, wp_mVs, wp_mV0, wp_mC, wp_ret, wp_sub, wp_addI, wp_lt, wp_le, wp_gt, wp_ge, wp_neg, wp_eqS, wp_lenT, wp_lenL, wp_tupT, wp_tupL, Bool.not_true, Bool.not_false, Bool.false_eq_true, if_true, if_false]
                  exact ⟨trivial, g2⟩
                | true =>
                  rw [hall, if_pos rfl] at hm
                  obtain ⟨e1, ⟨x5, e3⟩, g2⟩ := hm
                  have e1 : fl = .nx := e1
                  have e3 : r = _ := e3
                  subst e1 e3
                  simp only [List.set_cons_succ, List.set_cons_zero, wipeR, wp_mSeq, wp_mIfS, wp_mSet, wp_mRet, wp_mDrop, wp_mNx, wp_mPar, wp_parF, wp_mB, wp_mBin, wp_mUn, wp_mCall, wp_mFn, wp_mNil, wp_mCons, wp_mTup, wp_mLst, wp_mIf, wp_mAndV, wp_mOrV, wp_mNotV, wp_mIsN, wp_mNotN, wp_asB, wp_asI, wp_mTru, wp_truB, wp_mAnd, wp_mOr, wp_mNot, wp_mYes, wp_mPart, wp_mSl, wp_mVs, wp_mV0, wp_mC, wp_ret, wp_sub, wp_addI, wp_lt, wp_le, wp_gt, wp_ge, wp_neg, wp_eqS, wp_lenT, wp_lenL, wp_tupT, wp_tupL, Bool.not_true, Bool.not_false, Bool.false_eq_true, if_true, if_false, wp_mLc, wp_bnd, wp_slT]
                  rw [show Mn.cutD ps (some 1) none = ps.drop 1 from cut_lo ps 1, zip_tt]
                  unfold pairs2
                  rw [lcA (t := fun p : D × D => decide (fstD p.2 ≤ fstD p.1)) (f := fun _ => .int 1) (c := fun p : D × D => D.tup [p.1, p.2]) (l := ps.zip (ps.drop 1)) srcOk_nil fun p hp => ⟨[some (qD q), some dc, some (.tup bs), some (.str c), some (.tup ps), x5, some p.1, some p.2], rfl, by
                    obtain ⟨hp1, hp2⟩ := List.of_mem_zip hp
                    obtain ⟨i, y, ei⟩ := placeD_pair (List.all_eq_true.mp hall p.1 hp1)
                    obtain ⟨j, z, ej⟩ := placeD_pair (List.all_eq_true.mp hall p.2 (List.mem_of_mem_drop hp2))
                    have x0 : ∀ (i : Int) (y : D) (S : Sto) (Q : D → Sto → Prop), Wp (ixM (.tup [.int i, y]) (.int 0)) S Q ↔ Q (.int i) S := fun i y S Q => wp_ixT rfl
                    simp only [List.set_cons_succ, List.set_cons_zero, wipeR, wp_mSeq, wp_mIfS, wp_mSet, wp_mRet, wp_mDrop, wp_mNx, wp_mPar, wp_parF, wp_mB, wp_mBin, wp_mUn, wp_mCall, wp_mFn, wp_mNil, wp_mCons, wp_mTup, wp_mLst, wp_mIf, wp_mAndV, wp_mOrV, wp_mNotV, wp_mIsN, wp_mNotN, wp_asB, wp_asI, wp_mTru, wp_truB, wp_mAnd, wp_mOr, wp_mNot, wp_mYes, wp_mPart, wp_mSl, wp_mVs, wp_mV0, wp_mC, wp_ret, wp_sub, wp_addI, wp_lt, wp_le, wp_gt, wp_ge, wp_neg, wp_eqS, wp_lenT, wp_lenL, wp_tupT, wp_tupL, Bool.not_true, Bool.not_false, Bool.false_eq_true, if_true, if_false, ei, ej, x0]
                    exact ⟨rfl, trivial⟩, fun _ => by simp only [List.set_cons_succ, List.set_cons_zero, wipeR, wp_mSeq, wp_mIfS, wp_mSet, wp_mRet, wp_mDrop, wp_mNx, wp_mPar, wp_parF, wp_mB, wp_mBin, wp_mUn, wp_mCall, wp_mFn, wp_mNil, wp_mCons, wp_mTup, wp_mLst, wp_mIf, wp_mAndV, wp_mOrV, wp_mNotV, wp_mIsN, wp_mNotN, wp_asB, wp_asI, wp_mTru, wp_truB, wp_mAnd, wp_mOr, wp_mNot, wp_mYes, wp_mPart, wp_mSl, wp_mVs, wp_mV0, wp_mC, wp_ret, wp_sub, wp_addI, wp_lt, wp_le, wp_gt, wp_ge, wp_neg, wp_eqS, wp_lenT, wp_lenL, wp_tupT, wp_tupL, Bool.not_true, Bool.not_false, Bool.false_eq_true, if_true, if_false]; (first | exact ⟨trivial, trivial⟩ | exact ⟨rfl, trivial⟩ | exact ⟨trivial, rfl⟩ | exact ⟨rfl, rfl⟩)⟩]
                  rw [wp_lim (by rw [List.length_map]; have := List.length_filter_le (fun p : D × D => decide (fstD p.2 ≤ fstD p.1)) (ps.zip (ps.drop 1)); rw [List.length_zip] at this; have := tr_len hbt; omega)]
                  simp only [List.set_cons_succ, List.set_cons_zero, wipeR, wp_mSeq, wp_mIfS, wp_mSet, wp_mRet, wp_mDrop, wp_mNx, wp_mPar, wp_parF, wp_mB, wp_mBin, wp_mUn, wp_mCall, wp_mFn, wp_mNil, wp_mCons, wp_mTup, wp_mLst, wp_mIf, wp_mAndV, wp_mOrV, wp_mNotV, wp_mIsN, wp_mNotN, wp_asB, wp_asI, wp_mTru, wp_truB, wp_mAnd, wp_mOr, wp_mNot, wp_mYes, wp_mPart, wp_mSl, wp_mVs, wp_mV0, wp_mC, wp_ret, wp_sub, wp_addI, wp_lt, wp_le, wp_gt, wp_ge, wp_neg, wp_eqS, wp_lenT, wp_lenL, wp_tupT, wp_tupL, Bool.not_true, Bool.not_false, Bool.false_eq_true, if_true, if_false, ml0, ones_ne]
                  have ea : ascD ps = ((ps.zip (ps.drop 1)).filter fun p : D × D => decide (fstD p.2 ≤ fstD p.1)).isEmpty := by
                    unfold ascD
                    induction ps.zip (ps.drop 1) with
                    | nil => rfl
                    | cons p l ih =>
                      rw [List.all_cons, List.filter_cons]
                      by_cases hle : fstD p.2 ≤ fstD p.1
                      · rw [if_pos (decide_eq_true hle), decide_eq_false (by omega)]; rfl
                      · rw [if_neg (by simpa using hle), decide_eq_true (by omega), ih]; rfl
                  have eb : branchD (formD q (m + 1)) q c (.tup ps) = ((ps.zip (ps.drop 1)).filter fun p : D × D => decide (fstD p.2 ≤ fstD p.1)).isEmpty := by
                    rw [branchD, hall, hp0, ea]; rfl
                  rw [eb]
                  cases ((ps.zip (ps.drop 1)).filter fun p : D × D => decide (fstD p.2 ≤ fstD p.1)).isEmpty with
                  | false =>
                    simp only [List.set_cons_succ, List.set_cons_zero, wipeR, wp_mSeq, wp_mIfS, wp_mSet, wp_mRet, wp_mDrop, wp_mNx, wp_mPar, wp_parF, wp_mB, wp_mBin, wp_mUn, wp_mCall, wp_mFn, wp_mNil, wp_mCons, wp_mTup, wp_mLst, wp_mIf, wp_mAndV, wp_mOrV, wp_mNotV, wp_mIsN, wp_mNotN, wp_asB, wp_asI, wp_mTru, wp_truB, wp_mAnd, wp_mOr, wp_mNot, wp_mYes, wp_mPart, wp_mSl, wp_mVs, wp_mV0, wp_mC, wp_ret, wp_sub, wp_addI, wp_lt, wp_le, wp_gt, wp_ge, wp_neg, wp_eqS, wp_lenT, wp_lenL, wp_tupT, wp_tupL, Bool.not_true, Bool.not_false, Bool.false_eq_true, if_true, if_false]
                    exact ⟨trivial, g2⟩
                  | true =>
                    simp only [List.set_cons_succ, List.set_cons_zero, wipeR, wp_mSeq, wp_mIfS, wp_mSet, wp_mRet, wp_mDrop, wp_mNx, wp_mPar, wp_parF, wp_mB, wp_mBin, wp_mUn, wp_mCall, wp_mFn, wp_mNil, wp_mCons, wp_mTup, wp_mLst, wp_mIf, wp_mAndV, wp_mOrV, wp_mNotV, wp_mIsN, wp_mNotN, wp_asB, wp_asI, wp_mTru, wp_truB, wp_mAnd, wp_mOr, wp_mNot, wp_mYes, wp_mPart, wp_mSl, wp_mVs, wp_mV0, wp_mC, wp_ret, wp_sub, wp_addI, wp_lt, wp_le, wp_gt, wp_ge, wp_neg, wp_eqS, wp_lenT, wp_lenL, wp_tupT, wp_tupL, Bool.not_true, Bool.not_false, Bool.false_eq_true, if_true, if_false]
                    exact ⟨trivial, ⟨_, _, _, rfl⟩, g2⟩
          | _ =>
            simp only [List.set_cons_succ, List.set_cons_zero, wipeR, wp_mSeq, wp_mIfS, wp_mSet, wp_mRet, wp_mDrop, wp_mNx, wp_mPar, wp_parF, wp_mB, wp_mBin, wp_mUn, wp_mCall, wp_mFn, wp_mNil, wp_mCons, wp_mTup, wp_mLst, wp_mIf, wp_mAndV, wp_mOrV, wp_mNotV, wp_mIsN, wp_mNotN, wp_asB, wp_asI, wp_mTru, wp_truB, wp_mAnd, wp_mOr, wp_mNot, wp_mYes, wp_mPart, wp_mSl, wp_mVs, wp_mV0, wp_mC, wp_ret, wp_sub, wp_addI, wp_lt, wp_le, wp_gt, wp_ge, wp_neg, wp_eqS, wp_lenT, wp_lenL, wp_tupT, wp_tupL, Bool.not_true, Bool.not_false, Bool.false_eq_true, if_true, if_false, isTup, branchD]
            exact ⟨trivial, g1⟩
        · rintro ⟨fl, r⟩ S1 hm
          rw [find_bad (f := fun p : Str × D => branchD (formD q n) q p.1 p.2)] at hm
          cases hall : (cs.zip bs).all (fun p => branchD (formD q n) q p.1 p.2) with
          | false =>
            rw [hall, if_neg (by decide)] at hm
            obtain ⟨e1, g⟩ := hm
            have e1 : fl = .rt _ := e1
            subst e1
            simp only [List.set_cons_succ, List.set_cons_zero, wipeR, wp_mSeq, wp_mIfS, wp_mSet, wp_mRet, wp_mDrop, wp_mNx, wp_mPar, wp_parF, wp_mB, wp_mBin, wp_mUn, wp_mCall, wp_mFn, wp_mNil, wp_mCons, wp_mTup, wp_mLst, wp_mIf, wp_mAndV, wp_mOrV, wp_mNotV, wp_mIsN, wp_mNotN, wp_asB, wp_asI, wp_mTru, wp_truB, wp_mAnd, wp_mOr, wp_mNot, wp_mYes, wp_mPart, wp_mSl, wp_mVs, wp_mV0, wp_mC, wp_ret, wp_sub, wp_addI, wp_lt, wp_le, wp_gt, wp_ge, wp_neg, wp_eqS, wp_lenT, wp_lenL, wp_tupT, wp_tupL, Bool.not_true, Bool.not_false, Bool.false_eq_true, if_true, if_false]
            rw [hall] at fin
            exact fin S1 g
          | true =>
            rw [hall, if_pos rfl] at hm
            obtain ⟨e1, ⟨x3, x4, x5, e3⟩, g⟩ := hm
            have e1 : fl = .nx := e1
            have e3 : r = _ := e3
            subst e1 e3
            simp only [List.set_cons_succ, List.set_cons_zero, wipeR, wp_mSeq, wp_mIfS, wp_mSet, wp_mRet, wp_mDrop, wp_mNx, wp_mPar, wp_parF, wp_mB, wp_mBin, wp_mUn, wp_mCall, wp_mFn, wp_mNil, wp_mCons, wp_mTup, wp_mLst, wp_mIf, wp_mAndV, wp_mOrV, wp_mNotV, wp_mIsN, wp_mNotN, wp_asB, wp_asI, wp_mTru, wp_truB, wp_mAnd, wp_mOr, wp_mNot, wp_mYes, wp_mPart, wp_mSl, wp_mVs, wp_mV0, wp_mC, wp_ret, wp_sub, wp_addI, wp_lt, wp_le, wp_gt, wp_ge, wp_neg, wp_eqS, wp_lenT, wp_lenL, wp_tupT, wp_tupL, Bool.not_true, Bool.not_false, Bool.false_eq_true, if_true, if_false]
            rw [hall] at fin
            exact fin S1 g
    | _ =>
      simp only [List.set_cons_succ, List.set_cons_zero, wipeR, wp_mSeq, wp_mIfS, wp_mSet, wp_mRet, wp_mDrop, wp_mNx, wp_mPar, wp_parF, wp_mB, wp_mBin, wp_mUn, wp_mCall, wp_mFn, wp_mNil, wp_mCons, wp_mTup, wp_mLst, wp_mIf, wp_mAndV, wp_mOrV, wp_mNotV, wp_mIsN, wp_mNotN, wp_asB, wp_asI, wp_mTru, wp_truB, wp_mAnd, wp_mOr, wp_mNot, wp_mYes, wp_mPart, wp_mSl, wp_mVs, wp_mV0, wp_mC, wp_ret, wp_sub, wp_addI, wp_lt, wp_le, wp_gt, wp_ge, wp_neg, wp_eqS, wp_lenT, wp_lenL, wp_tupT, wp_tupL, Bool.not_true, Bool.not_false, Bool.false_eq_true, if_true, if_false, isTup]
      exact fin S Gr.refl
end
end K56
set_option maxRecDepth 100000
set_option maxHeartbeats 1000000
namespace K56
open PySem PySem.Spec PyProof.Rows L2 Mn
/-! ### things that can be shown -/
structure OkX (c n : Nat) (d : D) : Prop where
  ex : ∃ p, pdR d = some p ∧ p.showable = true ∧ p.depth ≤ n ∧ p.weight ≤ c ∧ p.leavesShort 45 = true
  tr : trB d = true
structure OkXL (c n : Nat) (ds : List D) : Prop where
  ex : ∃ ps, pdRL ds = some ps ∧ PyData.showableAll ps = true ∧ PyData.depthAll ps ≤ n ∧ PyData.weightAll ps ≤ c ∧ PyData.leavesShortAll 45 ps = true
  tr : trL ds = true
theorem OkX.mono {c c' n n' : Nat} {d : D} (h : OkX c n d) (hc : c ≤ c') (hn : n ≤ n') : OkX c' n' d := by
  obtain ⟨⟨p, h1, h2, h3, h4, h5⟩, t⟩ := h
  exact ⟨⟨p, h1, h2, Nat.le_trans h3 hn, Nat.le_trans h4 hc, h5⟩, t⟩
theorem OkXL.mono {c c' n n' : Nat} {d : List D} (h : OkXL c n d) (hc : c ≤ c') (hn : n ≤ n') : OkXL c' n' d := by
  obtain ⟨⟨p, h1, h2, h3, h4, h5⟩, t⟩ := h
  exact ⟨⟨p, h1, h2, Nat.le_trans h3 hn, Nat.le_trans h4 hc, h5⟩, t⟩
theorem OkXL.nil {n : Nat} : OkXL 0 n [] := ⟨⟨[], rfl, rfl, Nat.zero_le _, Nat.le_refl _, rfl⟩, rfl⟩
theorem OkXL.cons {a c n : Nat} {d : D} {ds : List D} (h : OkX a n d) (k : OkXL c n ds) : OkXL (a + 1 + c) n (d :: ds) := by
  obtain ⟨⟨p, h1, h2, h3, h4, h5⟩, t⟩ := h
  obtain ⟨⟨ps, k1, k2, k3, k4, k5⟩, u⟩ := k
  refine ⟨⟨p :: ps, ?_, ?_, ?_, ?_, ?_⟩, by rw [trL, t, u]; rfl⟩
  · rw [pdRL, h1, k1]; rfl
  · rw [PyData.showableAll, h2, k2]; rfl
  · rw [PyData.depthAll]; exact Nat.max_le.mpr ⟨h3, k3⟩
  · rw [PyData.weightAll]; omega
  · rw [PyData.leavesShortAll, h5, k5]; rfl
theorem OkXL.uncons {c n : Nat} {d : D} {ds : List D} (h : OkXL c n (d :: ds)) : ∃ a b, a + 1 + b ≤ c ∧ OkX a n d ∧ OkXL b n ds := by
  obtain ⟨⟨ps, h1, h2, h3, h4, h5⟩, t⟩ := h
  rw [trL, Bool.and_eq_true] at t
  rw [pdRL] at h1
  cases hp : pdR d with
  | none => rw [hp] at h1; cases h1
  | some p =>
    rw [hp] at h1
    cases hq : pdRL ds with
    | none => rw [hq] at h1; cases h1
    | some qs =>
      rw [hq] at h1; cases h1
      rw [PyData.showableAll, Bool.and_eq_true] at h2
      rw [PyData.depthAll] at h3
      rw [PyData.weightAll] at h4
      rw [PyData.leavesShortAll, Bool.and_eq_true] at h5
      exact ⟨p.weight, PyData.weightAll qs, h4, ⟨⟨p, hp, h2.1, (Nat.max_le.mp h3).1, Nat.le_refl _, h5.1⟩, t.1⟩, ⟨⟨qs, hq, h2.2, (Nat.max_le.mp h3).2, Nat.le_refl _, h5.2⟩, t.2⟩⟩
theorem OkXL.app {a c n : Nat} : ∀ {xs ys : List D}, OkXL a n xs → OkXL c n ys → OkXL (a + c) n (xs ++ ys)
  | [], ys, _, k => k.mono (by omega) (Nat.le_refl _)
  | x :: xs, ys, h, k => by
    obtain ⟨a1, a2, e, h1, h2⟩ := h.uncons
    exact (OkXL.cons h1 (OkXL.app h2 k)).mono (by omega) (Nat.le_refl _)
theorem OkXL.split {c n : Nat} : ∀ {xs ys : List D}, OkXL c n (xs ++ ys) → ∃ a b, a + b ≤ c ∧ OkXL a n xs ∧ OkXL b n ys
  | [], ys, h => ⟨0, c, by omega, OkXL.nil, h⟩
  | x :: xs, ys, h => by
    obtain ⟨a1, a2, e, h1, h2⟩ := OkXL.uncons (ds := xs ++ ys) h
    obtain ⟨b1, b2, e2, k1, k2⟩ := OkXL.split h2
    exact ⟨a1 + 1 + b1, b2, by omega, OkXL.cons h1 k1, k2⟩
theorem OkXL.rev {c n : Nat} {xs : List D} (h : OkXL c n xs) : OkXL c n xs.reverse := by
  induction xs generalizing c with
  | nil => exact h
  | cons x xs ih =>
    obtain ⟨a1, a2, e, h1, h2⟩ := h.uncons
    rw [List.reverse_cons]
    exact (OkXL.app (ih h2) (OkXL.cons h1 OkXL.nil)).mono (by omega) (Nat.le_refl _)
theorem OkXL.tup {c n : Nat} {ds : List D} (h : OkXL c n ds) (hl : ds.length ≤ 1000) : OkX c (n + 1) (.tup ds) := by
  obtain ⟨⟨ps, h1, h2, h3, h4, h5⟩, t⟩ := h
  refine ⟨⟨.tuple ps, by rw [pdR, h1]; rfl, by rw [PyData.showable]; exact h2, by rw [PyData.depth]; omega, by rw [PyData.weight]; exact h4, by rw [PyData.leavesShort]; exact h5⟩, ?_⟩
  rw [trB, decide_eq_true hl, t]; rfl
theorem OkXL.lst {c n : Nat} {ds : List D} (h : OkXL c n ds) : OkX c (n + 1) (.lst ds) := by
  obtain ⟨⟨ps, h1, h2, h3, h4, h5⟩, t⟩ := h
  exact ⟨⟨.list ps, by rw [pdR, h1]; rfl, by rw [PyData.showable]; exact h2, by rw [PyData.depth]; omega, by rw [PyData.weight]; exact h4, by rw [PyData.leavesShort]; exact h5⟩, by rw [trB]; exact t⟩
theorem OkX.untup {c n : Nat} {ds : List D} (h : OkX c n (.tup ds)) : ∃ m, n = m + 1 ∧ OkXL c m ds ∧ ds.length ≤ 1000 := by
  obtain ⟨⟨p, h1, h2, h3, h4, h5⟩, t⟩ := h
  have hl := tr_len t
  rw [trB, Bool.and_eq_true] at t
  rw [pdR] at h1
  cases hp : pdRL ds with
  | none => rw [hp] at h1; cases h1
  | some ps =>
    rw [hp] at h1; cases h1
    rw [PyData.showable] at h2
    rw [PyData.depth] at h3
    rw [PyData.weight] at h4
    rw [PyData.leavesShort] at h5
    exact ⟨n - 1, by omega, ⟨⟨ps, hp, h2, by omega, h4, h5⟩, t.2⟩, hl⟩
theorem OkX.non {c n : Nat} : OkX c n .non := ⟨⟨.none, rfl, rfl, Nat.zero_le _, Nat.zero_le _, rfl⟩, rfl⟩
theorem OkX.bl {c n : Nat} {x : Bool} : OkX c n (.bl x) := ⟨⟨.bool x, rfl, rfl, Nat.zero_le _, Nat.zero_le _, rfl⟩, rfl⟩
theorem OkX.int {n : Nat} {i : Int} (h1 : -31 ≤ i) (h2 : i ≤ 31) : OkX 5 n (.int i) := by
  have key : ∀ k : Fin 63, PyData.showable (.int ((k.val : Int) - 31)) = true ∧ PyData.weight (.int ((k.val : Int) - 31)) ≤ 5 ∧ PyData.leavesShort 45 (.int ((k.val : Int) - 31)) = true := by decide +kernel
  have := key ⟨(i + 31).toNat, by omega⟩
  have e : (((i + 31).toNat : Nat) : Int) - 31 = i := by omega
  simp only [e] at this
  exact ⟨⟨.int i, rfl, this.1, Nat.zero_le _, this.2.1, this.2.2⟩, rfl⟩
theorem OkX.str {n : Nat} {x : Str} (h : PyData.strOk x = true ∧ x.cps.size ≤ 10 ∧ PyData.leavesShort 45 (.str x) = true) : OkX 10 n (.str x) := ⟨⟨.str x, rfl, rfl, Nat.zero_le _, h.2.1, h.2.2⟩, h.1⟩
theorem shown_int (i : Int) (h1 : -31 ≤ i) (h2 : i ≤ 31) : PyData.strOk ((toString i : String) : Str) = true ∧ ((toString i : String) : Str).cps.size ≤ 10 ∧ PyData.leavesShort 45 (.str ((toString i : String) : Str)) = true := by
  have key : ∀ k : Fin 63, PyData.strOk ((toString ((k.val : Int) - 31) : String) : Str) = true ∧ ((toString ((k.val : Int) - 31) : String) : Str).cps.size ≤ 10 ∧ PyData.leavesShort 45 (.str ((toString ((k.val : Int) - 31) : String) : Str)) = true := by decide +kernel
  have := key ⟨(i + 31).toNat, by omega⟩
  have e : (((i + 31).toNat : Nat) : Int) - 31 = i := by omega
  simp only [e] at this
  exact this
/-! ### shapes -/
mutual
def shB : D → Bool
  | .non => true
  | .int i => decide (-30 ≤ i) && decide (i ≤ 30)
  | .tup ds => decide (ds.length ≤ 100) && shL ds
  | _ => false
def shL : List D → Bool
  | [] => true
  | d :: ds => shB d && shL ds
end
theorem shL_mem : ∀ {ds : List D} {d : D}, shL ds = true → d ∈ ds → shB d = true
  | x :: ds, d, h, hd => by
    rw [shL, Bool.and_eq_true] at h
    rcases List.mem_cons.mp hd with e | hd
    · rw [e]; exact h.1
    · exact shL_mem h.2 hd
theorem shL_of : ∀ {ds : List D}, (∀ d ∈ ds, shB d = true) → shL ds = true
  | [], _ => rfl
  | d :: ds, h => by rw [shL, h d List.mem_cons_self, shL_of fun x hx => h x (List.mem_cons_of_mem _ hx)]; rfl
def g : Nat → Nat
  | 0 => 0
  | n + 1 => (n + 1) * (1 + 5 * (8 + g n))
theorem OkXL.all {a n : Nat} : ∀ {ds : List D}, (∀ d ∈ ds, OkX a n d) → OkXL (ds.length * (a + 1)) n ds
  | [], _ => by rw [List.length_nil, Nat.zero_mul]; exact OkXL.nil
  | d :: ds, h => (OkXL.cons (h d List.mem_cons_self) (OkXL.all fun x hx => h x (List.mem_cons_of_mem _ hx))).mono (by rw [List.length_cons, Nat.add_mul]; omega) (Nat.le_refl _)
theorem three {α : Type} {p r : α → Bool} {c : α} (hpr : ∀ x, p x = true → r x = false) (hp : p c = false) (hr : r c = false) : ∀ {l : List α}, c ∈ l → (l.filter p).length + (l.filter r).length + 1 ≤ l.length
  | y :: l, h => by
    have le : ∀ l : List α, (l.filter p).length + (l.filter r).length ≤ l.length := by
      intro l
      induction l with
      | nil => exact Nat.le_refl _
      | cons z l ih =>
        rw [List.filter_cons, List.filter_cons, List.length_cons]
        cases h1 : p z with
        | true => rw [if_pos rfl, if_neg (by rw [hpr z h1]; decide), List.length_cons]; omega
        | false =>
          rw [if_neg (by decide)]
          split
          · rw [List.length_cons]; omega
          · omega
    rw [List.filter_cons, List.filter_cons, List.length_cons]
    rcases List.mem_cons.mp h with e | h
    · subst e
      rw [if_neg (by rw [hp]; decide), if_neg (by rw [hr]; decide)]
      have := le l
      omega
    · have ih := three hpr hp hr h
      cases h1 : p y with
      | true => rw [if_pos rfl, if_neg (by rw [hpr y h1]; decide), List.length_cons]; omega
      | false =>
        rw [if_neg (by decide)]
        split
        · rw [List.length_cons]; omega
        · omega
theorem ch_count {q : Qu} {c : Str} (hc : c ∈ q.cols) : (ch q (some c)).length + kk q c + 1 ≤ q.cols.length := by
  refine three (p := fun x => decide (par q x = some c)) (r := fun x => up q x c) (c := c) (fun x hx => ?_) ?_ up_irrefl hc
  · obtain ⟨_, h2⟩ := par_up (of_decide_eq_true hx)
    exact up_asymm h2
  · refine decide_eq_false fun e => ?_
    obtain ⟨_, h2⟩ := par_up e
    rw [up_irrefl] at h2
    cases h2
end K56
set_option maxRecDepth 100000
set_option maxHeartbeats 1000000
namespace K56
open PySem PySem.Spec PyProof.Rows L2 Mn
theorem ints_of2 {B : Int → Prop} {r : List D} {l : List α} {P : α → D → Prop} (h : ∀ y ∈ r, ∃ x ∈ l, P x y) (hP : ∀ x y, P x y → ∃ v : Int, y = .int v ∧ B v) : ∃ l : List Int, r = l.map .int ∧ ∀ v ∈ l, B v :=
  ints_of fun y hy => let ⟨x, _, hx⟩ := h y hy; hP x y hx
section
variable {S : Sto} {b : Nat} {Q : D → Sto → Prop} {ts : Nat → Addr}
/-! ### odd things -/
theorem big_ok {n : Nat} : OkX 200 n (.int (10 ^ (39 : Int).toNat)) := ⟨⟨.int (10 ^ (39 : Int).toNat), rfl, by decide +kernel, Nat.zero_le _, by decide +kernel, by decide +kernel⟩, rfl⟩
theorem sm_e : PyData.strOk ("" : Str) = true ∧ ("" : Str).cps.size ≤ 10 ∧ PyData.leavesShort 45 (.str ("" : Str)) = true := by decide +kernel
theorem sm_a : PyData.strOk ("a" : Str) = true ∧ ("a" : Str).cps.size ≤ 10 ∧ PyData.leavesShort 45 (.str ("a" : Str)) = true := by decide +kernel
theorem sm_n : PyData.strOk ("none" : Str) = true ∧ ("none" : Str).cps.size ≤ 10 ∧ PyData.leavesShort 45 (.str ("none" : Str)) = true := by decide +kernel
theorem u0 {n : Nat} : OkX 0 (n + 1) (.tup []) := OkXL.nil.tup (by simp)
theorem odd_all : ∀ d ∈ ([.non, .bl true, .int 0, .int (-1), .str "", .str "a", .str "none", .tup [], .lst [], .dic [] [], .tup [.tup []], .tup [.int 0], .tup [.tup [.int 0, .tup []]], .tup [.tup [.tup [.int 0, .tup []]]], .tup [.int 1, .int 2], .tup [.str "a"], .int (10 ^ (39 : Int).toNat)] : List D), OkX 200 5 d := fun d hd => by
  have p0 : OkX 20 2 (.tup [.int 0, .tup []]) := ((OkXL.cons (OkX.int (n := 1) (i := 0) (by decide) (by decide)) (OkXL.cons u0 OkXL.nil)).tup (by simp)).mono (by decide) (by decide)
  have p1 : OkX 30 3 (.tup [.tup [.int 0, .tup []]]) := ((OkXL.cons p0 OkXL.nil).tup (by simp)).mono (by decide) (by decide)
  simp only [List.mem_cons, List.not_mem_nil, or_false] at hd
  rcases hd with rfl | rfl | rfl | rfl | rfl | rfl | rfl | rfl | rfl | rfl | rfl | rfl | rfl | rfl | rfl | rfl | rfl
  · exact OkX.non
  · exact OkX.bl
  · exact (OkX.int (by decide) (by decide)).mono (by decide) (Nat.le_refl _)
  · exact (OkX.int (by decide) (by decide)).mono (by decide) (Nat.le_refl _)
  · exact (OkX.str sm_e).mono (by decide) (Nat.le_refl _)
  · exact (OkX.str sm_a).mono (by decide) (Nat.le_refl _)
  · exact (OkX.str sm_n).mono (by decide) (Nat.le_refl _)
  · exact u0.mono (by decide) (Nat.le_refl _)
  · exact (OkXL.nil (n := 4)).lst.mono (by decide) (Nat.le_refl _)
  · exact ⟨⟨.dict [], rfl, rfl, by rw [PyData.depth, PyData.depthKv]; omega, by rw [PyData.weight, PyData.weightKv]; omega, rfl⟩, rfl⟩
  · exact ((OkXL.cons (u0 (n := 3)) OkXL.nil).tup (by simp)).mono (by decide) (Nat.le_refl _)
  · exact ((OkXL.cons (OkX.int (n := 4) (i := 0) (by decide) (by decide)) OkXL.nil).tup (by simp)).mono (by decide) (Nat.le_refl _)
  · exact p1.mono (by decide) (by decide)
  · exact ((OkXL.cons p1 OkXL.nil).tup (by simp)).mono (by decide) (by decide)
  · exact ((OkXL.cons (OkX.int (n := 4) (i := 1) (by decide) (by decide)) (OkXL.cons (OkX.int (n := 4) (i := 2) (by decide) (by decide)) OkXL.nil)).tup (by simp)).mono (by decide) (Nat.le_refl _)
  · exact ((OkXL.cons (OkX.str (n := 4) sm_a) OkXL.nil).tup (by simp)).mono (by decide) (Nat.le_refl _)
  · exact big_ok
theorem odd_fn (hb : Bag S b) (fin : ∀ d S', OkX 200 5 d → Bag S' b → Kp b S S' → Q d S') : Wp (if [D.ref b].length = P_law_odd.length then d_law_odd [.ref b] else fail) S Q := by
  rw [if_pos (show [D.ref b].length = P_law_odd.length from rfl)]
  unfold d_law_odd
  rw [wp_def, show startR N_law_odd.length [D.ref b] = [some (.ref b)] from rfl]
  unfold b_law_odd
  have pw : ∀ Q : D → Sto → Prop, Wp (powM (.int 10) (.int 39)) S Q ↔ Q (.int (10 ^ (39 : Int).toNat)) S := fun Q => wp_pow (by decide) (by decide) (by decide)
  have dz : ∀ (rho : Mn.Env) (Q : D → Sto → Prop), Wp (mDic0 rho) S Q ↔ Q (.dic [] []) S := fun rho Q => wp_some rfl
  simp only [List.set_cons_succ, List.set_cons_zero, wipeR, wp_mSeq, wp_mIfS, wp_mSet, wp_mRet, wp_mDrop, wp_mNx, wp_mPar, wp_parF, wp_mB, wp_mBin, wp_mUn, wp_mCall, wp_mFn, wp_mNil, wp_mCons, wp_mTup, wp_mLst, wp_mIf, wp_mAndV, wp_mOrV, wp_mNotV, wp_mIsN, wp_mNotN, wp_asB, wp_asI, wp_mTru, wp_truB, wp_mAnd, wp_mOr, wp_mNot, wp_mYes, wp_mPart, wp_mSl, wp_mVs, wp_mV0, wp_mC, wp_ret, wp_sub, wp_addI, wp_lt, wp_le, wp_gt, wp_ge, wp_neg, wp_eqS, wp_lenT, wp_lenL, wp_tupT, wp_tupL, Bool.not_true, Bool.not_false, Bool.false_eq_true, if_true, if_false, Mn.mt0, Mn.mt1, Mn.mt2, ml0, pw, dz]
  rw [wp_mkLst (by simp)]
  refine some_fn hb (.inl rfl) (by simp) (by simp) fun d S' hd g k => ?_
  exact fin d S' (odd_all d hd) g k
/-! ### shapes drawn -/
theorem pickB {lo hi : D} {rho : Mn.Env} (e6 : ∀ S Q, Wp (mV 6 rho) S Q ↔ Q lo S) (e7 : ∀ S Q, Wp (mV 7 rho) S Q ↔ Q hi S) (h1 : Bnd lo) (h2 : Bnd hi) (k : ∀ i : Int, -16 ≤ i → i ≤ 10 → Q (.int i) S) :
    Wp (mIf (mB (mNotN (mV 6))) (mV 6) (mIf (mB (mNotN (mV 7))) (mBin subM (mV 7) (mC (.int 6))) (mUn negM (mC (.int 2)))) rho) S Q := by
  rcases h1 with rfl | ⟨i, rfl, i1, i2⟩
  · rcases h2 with rfl | ⟨j, rfl, j1, j2⟩
    · simp only [List.set_cons_succ, List.set_cons_zero, wipeR, wp_mSeq, wp_mIfS, wp_mSet, wp_mRet, wp_mDrop, wp_mNx, wp_mPar, wp_parF, wp_mB, wp_mBin, wp_mUn, wp_mCall, wp_mFn, wp_mNil, wp_mCons, wp_mTup, wp_mLst, wp_mIf, wp_mAndV, wp_mOrV, wp_mNotV, wp_mIsN, wp_mNotN, wp_asB, wp_asI, wp_mTru, wp_truB, wp_mAnd, wp_mOr, wp_mNot, wp_mYes, wp_mPart, wp_mSl, wp_mVs, wp_mV0, wp_mC, wp_ret, wp_sub, wp_addI, wp_lt, wp_le, wp_gt, wp_ge, wp_neg, wp_eqS, wp_lenT, wp_lenL, wp_tupT, wp_tupL, Bool.not_true, Bool.not_false, Bool.false_eq_true, if_true, if_false, e6, e7, isNonD]
      exact k (-2) (by decide) (by decide)
    · simp only [List.set_cons_succ, List.set_cons_zero, wipeR, wp_mSeq, wp_mIfS, wp_mSet, wp_mRet, wp_mDrop, wp_mNx, wp_mPar, wp_parF, wp_mB, wp_mBin, wp_mUn, wp_mCall, wp_mFn, wp_mNil, wp_mCons, wp_mTup, wp_mLst, wp_mIf, wp_mAndV, wp_mOrV, wp_mNotV, wp_mIsN, wp_mNotN, wp_asB, wp_asI, wp_mTru, wp_truB, wp_mAnd, wp_mOr, wp_mNot, wp_mYes, wp_mPart, wp_mSl, wp_mVs, wp_mV0, wp_mC, wp_ret, wp_sub, wp_addI, wp_lt, wp_le, wp_gt, wp_ge, wp_neg, wp_eqS, wp_lenT, wp_lenL, wp_tupT, wp_tupL, Bool.not_true, Bool.not_false, Bool.false_eq_true, if_true, if_false, e6, e7, isNonD]
      exact k (j - 6) (by omega) (by omega)
  · simp only [List.set_cons_succ, List.set_cons_zero, wipeR, wp_mSeq, wp_mIfS, wp_mSet, wp_mRet, wp_mDrop, wp_mNx, wp_mPar, wp_parF, wp_mB, wp_mBin, wp_mUn, wp_mCall, wp_mFn, wp_mNil, wp_mCons, wp_mTup, wp_mLst, wp_mIf, wp_mAndV, wp_mOrV, wp_mNotV, wp_mIsN, wp_mNotN, wp_asB, wp_asI, wp_mTru, wp_truB, wp_mAnd, wp_mOr, wp_mNot, wp_mYes, wp_mPart, wp_mSl, wp_mVs, wp_mV0, wp_mC, wp_ret, wp_sub, wp_addI, wp_lt, wp_le, wp_gt, wp_ge, wp_neg, wp_eqS, wp_lenT, wp_lenL, wp_tupT, wp_tupL, Bool.not_true, Bool.not_false, Bool.false_eq_true, if_true, if_false, e6, isNonD]
    exact k i (by omega) (by omega)
def inHi (hi : D) (v : Int) : Bool := match hi with
  | .int j => decide (v ≤ j)
  | _ => true
theorem cut_last1 {α : Type} (l : List α) : (Mn.cutD l (some (-1)) none).length ≤ 1 := by
  unfold Mn.cutD
  have e : HT.sIx l.length 0 (some (-1)) = ((-1 : Int) + (l.length : Int)).toNat := rfl
  rw [List.length_take, List.length_drop, e]
  omega
theorem g_one (n : Nat) : g (n + 1) = (n + 1) * (1 + 5 * (8 + g n)) := rfl
theorem drawn_fn {q : Qu} (h : OkQ q) (hn : Nst q) : ∀ (f n : Nat) {cs : List Str} {dc : D} {gs : List (Nat × List D)} {w : Int} {S : Sto} {Q : D → Sto → Prop}, n + 1 ≤ f → Bag S b → b < S.nx → 0 ≤ w → w ≤ 3 → n ≤ 6 → cs.length ≤ n →
    srcOf dc S = some ⟨cs.map .str, gs⟩ → (∀ S1, Kp b S S1 → srcOk ⟨cs.map .str, gs⟩ S1) → (∀ c ∈ cs, c ∈ q.cols ∧ q.cols.length ≤ n + kk q c) →
    (∀ d S', shB d = true → OkX (g n) (3 * n + 1) d → Bag S' b → Kp b S S' → Q d S') → Wp (if [D.ref b, qD q, dc, .int w].length = P_law_drawn_shape.length then d_law_drawn_shape f [.ref b, qD q, dc, .int w] else fail) S Q
  | 0, n, cs, dc, gs, w, S, Q, hf, _, _, _, _, _, _, _, _, _, _ => by omega
  | f + 1, n, cs, dc, gs, w, S, Q, hf, hb, hlt, hw0, hw1, hn6, hcl, hs, ok, hc, fin => by
    have ih := @drawn_fn q h hn f
    rw [if_pos (show [D.ref b, qD q, dc, .int w].length = P_law_drawn_shape.length from rfl)]
    rw [d_law_drawn_shape, wp_def, show startR N_law_drawn_shape.length [D.ref b, qD q, dc, .int w] = [some (.ref b), some (qD q), some dc, some (.int w), none, none, none, none, none, none, none, none, none] from rfl]
    unfold b_law_drawn_shape
    rw [wp_mSeq, wp_mSet, wp_mNew, wp_mNil, new_nil]
    simp only [List.set_cons_succ, List.set_cons_zero]
    have o4 : (S.new (.lst [])).ob S.nx = some (.lst []) := by rw [Sto.new_ob, if_pos rfl]
    have k4 : Kp b S (S.new (.lst [])) := Kp.refl.new
    have g4 : Bag (S.new (.lst [])) b := hb.new hlt
    have hx4 : S.nx < (S.new (.lst [])).nx := Nat.lt_succ_self _
    have hs4 : srcOf dc (S.new (.lst [])) = some ⟨cs.map .str, gs⟩ := by
      have := ok _ k4
      cases dc with
      | ref m =>
        unfold srcOf at hs ⊢
        simp only at hs ⊢
        cases ho : S.ob m with
        | none => rw [ho] at hs; cases hs
        | some o =>
          cases o with
          | lst ds =>
            rw [ho] at hs
            have e := Option.some.inj hs
            have e1 : ds = cs.map .str := congrArg Src.ds e
            have e2 : [(m, ds)] = gs := congrArg Src.n e
            have := this (m, ds) (by rw [← e2]; exact List.mem_singleton.mpr rfl)
            rw [this]
            simp only
            rw [← hs]
          | dic _ _ => rw [ho] at hs; cases hs
          | tab _ _ => rw [ho] at hs; cases hs
      | _ => exact hs
    have nb : S.nx ≠ b := Nat.ne_of_gt hlt
    generalize S.new (.lst []) = S4 at *
    rw [wp_mSeq, wp_mFor, wp_mISeq]
    simp only [wp_mVs, wp_mV0]
    rw [wp_some (show (fun S => (srcOf dc S).map fun s => (s, S)) S4 = some (⟨cs.map .str, gs⟩, S4) by simp only [hs4]; rfl)]
    refine Wp.mono (loopA_done (src := ⟨cs.map D.str, gs⟩) (l := cs) (pre := []) (c := D.str) (g := gV 5) (I := fun done r S5 => (∃ x5 x6 x7 x8 x9 x10, r = [some (.ref b), some (qD q), some dc, some (.int w), some (.ref S.nx), x5, x6, x7, x8, x9, x10, none, none]) ∧ (∃ bs : List D, S5.ob S.nx = some (.lst bs) ∧ bs.length = done.length ∧ (∀ d ∈ bs, OkX (5 * (8 + g (n - 1))) (3 * n) d) ∧ ∀ d ∈ bs, shB d = true) ∧ Bag S5 b ∧ Kp b S S5 ∧ S.nx < S5.nx) (fun _ _ S5 hh => ok S5 hh.2.2.2.1) ⟨⟨_, _, _, _, _, _, rfl⟩, ⟨[], o4, rfl, (fun _ h => nomatch h), fun _ h => nomatch h⟩, g4, k4, hx4⟩ ?_) ?_
    · rintro done c rest e r S5 ⟨⟨x5, x6, x7, x8, x9, x10, rfl⟩, ⟨bs, o5, hbl, hbs, hsh⟩, g5, k5, hx5⟩
      have e : cs = done ++ c :: rest := by simpa using e
      obtain ⟨hcc, hck⟩ := hc c (by rw [e]; simp)
      have hd6 : done.length ≤ 1000 := by have := congrArg List.length e; simp at this; omega
      have hlk := kk_le hcc
      obtain ⟨m, rfl⟩ : ∃ m, n = m + 1 := ⟨n - 1, by omega⟩
      obtain ⟨b1, b2⟩ := rgOf_bnd h c
      refine ⟨_, rfl, ?_⟩
      rw [wp_mSeq, wp_mAsg, wp_mFn]
      simp only [wp_mCons, wp_mNil, List.set_cons_succ, List.set_cons_zero, wp_mVs, wp_mV0]
      rw [law_range_fn h]
      unfold prD
      rw [wp_asg2]
      simp only [List.set_cons_succ, List.set_cons_zero]
      generalize (rgOf q.rs c).1 = lo at *
      generalize (rgOf q.rs c).2 = hi at *
      rw [wp_mSeq, wp_mSet]
      refine pickB (lo := lo) (hi := hi) (fun S Q => by simp only [wp_mVs, wp_mV0]) (fun S Q => by simp only [wp_mVs, wp_mV0]) b1 b2 fun bg bg1 bg2 => ?_
      simp only [List.set_cons_succ, List.set_cons_zero]
      -- values
      have ml4 : ∀ (S : Sto) (Q : D → Sto → Prop), Wp (mkLst [D.int 0, .int 1, .int 2, .int w]) S Q ↔ Q (.lst [.int 0, .int 1, .int 2, .int w]) S := fun S Q => wp_mkLst (by simp)
      rw [wp_mSeq, wp_mSet, wp_mBin, wp_mLst]
      simp only [wp_mCons, wp_mNil, wp_mVs, wp_mV0, ml1]
      rw [wp_mLc, wp_mIR]
      simp only [wp_mCons, wp_mNil, wp_mFn, wp_mLst, wp_mC, wp_mVs, wp_mV0, ml4]
      refine some_fn g5 (.inl rfl) (by simp) (by simp) fun dk S6 hdk g6 k6 => ?_
      obtain ⟨kv, kv0, kv1, rfl⟩ : ∃ kv : Int, 0 ≤ kv ∧ kv ≤ 3 ∧ dk = .int kv := by
        simp only [List.mem_cons, List.not_mem_nil, or_false] at hdk
        rcases hdk with rfl | rfl | rfl | rfl
        · exact ⟨0, by decide, by decide, rfl⟩
        · exact ⟨1, by decide, by decide, rfl⟩
        · exact ⟨2, by decide, by decide, rfl⟩
        · exact ⟨w, hw0, hw1, rfl⟩
      rw [rng_src kv0 (by omega)]
      have rd : rngD 0 kv.toNat = (List.range kv.toNat).map fun k : Nat => D.int (k : Nat) := by unfold rngD; exact List.map_congr_left fun k _ => by simp
      simp only [rd]
      refine Wp.mono (lcA_inv (c := fun k : Nat => D.int (k : Nat)) (l := List.range kv.toNat) (I := fun S' => Bag S' b ∧ Kp b S6 S') (P := fun _ y => ∃ v : Int, y = .int v ∧ (-16 ≤ v ∧ v ≤ 16)) (fun _ _ => srcOk_nil) ⟨g6, Kp.refl⟩ fun x hx => ⟨_, rfl, fun S7 ⟨g7, k7⟩ => ?_⟩) ?_
      · simp only [List.set_cons_succ, List.set_cons_zero, wipeR, wp_mSeq, wp_mIfS, wp_mSet, wp_mRet, wp_mDrop, wp_mNx, wp_mPar, wp_parF, wp_mB, wp_mBin, wp_mUn, wp_mCall, wp_mFn, wp_mNil, wp_mCons, wp_mTup, wp_mLst, wp_mIf, wp_mAndV, wp_mOrV, wp_mNotV, wp_mIsN, wp_mNotN, wp_asB, wp_asI, wp_mTru, wp_truB, wp_mAnd, wp_mOr, wp_mNot, wp_mYes, wp_mPart, wp_mSl, wp_mVs, wp_mV0, wp_mC, wp_ret, wp_sub, wp_addI, wp_lt, wp_le, wp_gt, wp_ge, wp_neg, wp_eqS, wp_lenT, wp_lenL, wp_tupT, wp_tupL, Bool.not_true, Bool.not_false, Bool.false_eq_true, if_true, if_false]
        refine ⟨trivial, take_fn g7 (by decide) (by decide) fun u S8 u0 u1 g8 k8 => ?_⟩
        rw [wp_addI]
        exact ⟨⟨bg + u, rfl, by omega, by omega⟩, g8, k7.trans k8⟩
      rintro r7 S7 ⟨hrl, hri, g7, k7⟩
      obtain ⟨vs, rfl, hvs⟩ := ints_of2 (B := fun v => -16 ≤ v ∧ v ≤ 16) hri fun _ _ h => h
      rw [List.length_map, List.length_range] at hrl
      rw [wp_lim (by rw [List.length_map]; omega), wp_addL (by rw [List.length_map]; simp; omega)]
      have ev : ([D.int bg] ++ vs.map .int) = (bg :: vs).map .int := rfl
      rw [ev]
      have hvs1 : ∀ v ∈ bg :: vs, -16 ≤ v ∧ v ≤ 16 := fun v hv => (List.mem_cons.mp hv).elim (fun e => by rw [e]; exact ⟨bg1, by omega⟩) (hvs v)
      have hvl : (bg :: vs).length ≤ 4 := by simp; omega
      generalize bg :: vs = vs1 at *
      simp only [List.set_cons_succ, List.set_cons_zero]
      -- sorted, in range
      rw [wp_mSeq, wp_mSet, wp_mLc, wp_mISeq, wp_mUn, wp_mBin, wp_mSl]
      simp only [wp_mVs, wp_mV0, wp_mPart, wp_mFn, wp_mCons, wp_mNil, wp_mC]
      refine take_fn g7 (by decide) (by decide) fun u S8 u0 u1 g8 k8 => ?_
      rw [wp_asI, wp_ret, wp_slL, wp_mSl]
      simp only [wp_mVs, wp_mV0, wp_mPart, wp_mUn, wp_mC, wp_neg, wp_asI, wp_ret]
      rw [wp_slL, cut_map, cut_map, wp_addL (by have h1 := cut_len (l := vs1) (a := some u) (b := none); have h2 := cut_len (l := vs1) (a := some (-1)) (b := none); rw [List.length_map, List.length_map]; omega), ← List.map_append]
      have hl5 : (Mn.cutD vs1 (some u) none ++ Mn.cutD vs1 (some (-1)) none).length ≤ 5 := by
        have h1 := cut_len (l := vs1) (a := some u) (b := none)
        have h2 := cut_last1 vs1
        rw [List.length_append]
        omega
      have hvs2 : ∀ v ∈ Mn.cutD vs1 (some u) none ++ Mn.cutD vs1 (some (-1)) none, -16 ≤ v ∧ v ≤ 16 := fun v hv => (List.mem_append.mp hv).elim (fun h => hvs1 v (Mn.mem_cutD h)) fun h => hvs1 v (Mn.mem_cutD h)
      generalize Mn.cutD vs1 (some u) none ++ Mn.cutD vs1 (some (-1)) none = vs2 at *
      rw [wp_ssetI (by omega), src_lst]
      have hdl : (sortInts (dedup vs2)).length ≤ 5 := by
        have hp : (sortInts (dedup vs2)).length = (dedup vs2).length := by unfold sortInts; exact List.length_mergeSort _
        rw [hp]
        have : ∀ l : List Int, (dedup l).length ≤ l.length := by
          intro l
          induction l with
          | nil => exact Nat.le_refl _
          | cons x l ih => unfold dedup; split <;> simp <;> omega
        exact Nat.le_trans (this vs2) hl5
      have hdm : ∀ v ∈ sortInts (dedup vs2), -16 ≤ v ∧ v ≤ 16 := fun v hv => hvs2 v (mem_dedup.mp (by unfold sortInts at hv; exact (List.mergeSort_perm _ _).mem_iff.mp hv))
      generalize sortInts (dedup vs2) = vs3 at *
      rw [lcA (t := inHi hi) (f := D.int) (c := D.int) (l := vs3) srcOk_nil fun v hv => ⟨_, rfl, by
        rcases b2 with rfl | ⟨j, rfl, _, _⟩
        · simp only [List.set_cons_succ, List.set_cons_zero, wipeR, wp_mSeq, wp_mIfS, wp_mSet, wp_mRet, wp_mDrop, wp_mNx, wp_mPar, wp_parF, wp_mB, wp_mBin, wp_mUn, wp_mCall, wp_mFn, wp_mNil, wp_mCons, wp_mTup, wp_mLst, wp_mIf, wp_mAndV, wp_mOrV, wp_mNotV, wp_mIsN, wp_mNotN, wp_asB, wp_asI, wp_mTru, wp_truB, wp_mAnd, wp_mOr, wp_mNot, wp_mYes, wp_mPart, wp_mSl, wp_mVs, wp_mV0, wp_mC, wp_ret, wp_sub, wp_addI, wp_lt, wp_le, wp_gt, wp_ge, wp_neg, wp_eqS, wp_lenT, wp_lenL, wp_tupT, wp_tupL, Bool.not_true, Bool.not_false, Bool.false_eq_true, if_true, if_false, isNonD, inHi]; (first | exact ⟨trivial, trivial⟩ | exact ⟨rfl, trivial⟩ | exact ⟨trivial, rfl⟩ | exact ⟨rfl, rfl⟩)
        · simp only [List.set_cons_succ, List.set_cons_zero, wipeR, wp_mSeq, wp_mIfS, wp_mSet, wp_mRet, wp_mDrop, wp_mNx, wp_mPar, wp_parF, wp_mB, wp_mBin, wp_mUn, wp_mCall, wp_mFn, wp_mNil, wp_mCons, wp_mTup, wp_mLst, wp_mIf, wp_mAndV, wp_mOrV, wp_mNotV, wp_mIsN, wp_mNotN, wp_asB, wp_asI, wp_mTru, wp_truB, wp_mAnd, wp_mOr, wp_mNot, wp_mYes, wp_mPart, wp_mSl, wp_mVs, wp_mV0, wp_mC, wp_ret, wp_sub, wp_addI, wp_lt, wp_le, wp_gt, wp_ge, wp_neg, wp_eqS, wp_lenT, wp_lenL, wp_tupT, wp_tupL, Bool.not_true, Bool.not_false, Bool.false_eq_true, if_true, if_false, isNonD, inHi]; (first | exact ⟨trivial, trivial⟩ | exact ⟨rfl, trivial⟩ | exact ⟨trivial, rfl⟩ | exact ⟨rfl, rfl⟩), fun _ => by simp only [List.set_cons_succ, List.set_cons_zero, wipeR, wp_mSeq, wp_mIfS, wp_mSet, wp_mRet, wp_mDrop, wp_mNx, wp_mPar, wp_parF, wp_mB, wp_mBin, wp_mUn, wp_mCall, wp_mFn, wp_mNil, wp_mCons, wp_mTup, wp_mLst, wp_mIf, wp_mAndV, wp_mOrV, wp_mNotV, wp_mIsN, wp_mNotN, wp_asB, wp_asI, wp_mTru, wp_truB, wp_mAnd, wp_mOr, wp_mNot, wp_mYes, wp_mPart, wp_mSl, wp_mVs, wp_mV0, wp_mC, wp_ret, wp_sub, wp_addI, wp_lt, wp_le, wp_gt, wp_ge, wp_neg, wp_eqS, wp_lenT, wp_lenL, wp_tupT, wp_tupL, Bool.not_true, Bool.not_false, Bool.false_eq_true, if_true, if_false]; (first | exact ⟨trivial, trivial⟩ | exact ⟨rfl, trivial⟩ | exact ⟨trivial, rfl⟩ | exact ⟨rfl, rfl⟩)⟩]
      have hfl : (vs3.filter (inHi hi)).length ≤ 5 := Nat.le_trans (List.length_filter_le _ _) hdl
      have hfm : ∀ v ∈ vs3.filter (inHi hi), -16 ≤ v ∧ v ≤ 16 := fun v hv => hdm v (List.mem_filter.mp hv).1
      generalize (vs3.filter (inHi hi)) = vs4 at *
      rw [wp_lim (by rw [List.length_map]; omega)]
      simp only [List.set_cons_succ, List.set_cons_zero]
      -- not empty
      rw [wp_mSeq, wp_mSet]
      have nine : ∀ (Q : D → Sto → Prop), (∀ vs5 : List Int, vs5.length ≤ 5 → (∀ v ∈ vs5, -16 ≤ v ∧ v ≤ 16) → Q (.lst (vs5.map .int)) S8) → Wp (mIf (mB (mBin neM (mV 9) (mLst mNil))) (mV 9) (mLst (mCons (mV 8) mNil)) [some (.ref b), some (qD q), some dc, some (.int w), some (.ref S.nx), some (.str c), some lo, some hi, some (.int bg), some (.lst (vs4.map .int)), x10, none, none]) S8 Q := fun Q kq => by
        simp only [List.set_cons_succ, List.set_cons_zero, wipeR, wp_mSeq, wp_mIfS, wp_mSet, wp_mRet, wp_mDrop, wp_mNx, wp_mPar, wp_parF, wp_mB, wp_mBin, wp_mUn, wp_mCall, wp_mFn, wp_mNil, wp_mCons, wp_mTup, wp_mLst, wp_mIf, wp_mAndV, wp_mOrV, wp_mNotV, wp_mIsN, wp_mNotN, wp_asB, wp_asI, wp_mTru, wp_truB, wp_mAnd, wp_mOr, wp_mNot, wp_mYes, wp_mPart, wp_mSl, wp_mVs, wp_mV0, wp_mC, wp_ret, wp_sub, wp_addI, wp_lt, wp_le, wp_gt, wp_ge, wp_neg, wp_eqS, wp_lenT, wp_lenL, wp_tupT, wp_tupL, Bool.not_true, Bool.not_false, Bool.false_eq_true, if_true, if_false, ml0]
        rw [wp_neNilL (pdL_ints vs4) (by rw [depth_ints]; omega), wp_asB, List.isEmpty_map]
        cases vs4.isEmpty with
        | true =>
          simp only [List.set_cons_succ, List.set_cons_zero, wipeR, wp_mSeq, wp_mIfS, wp_mSet, wp_mRet, wp_mDrop, wp_mNx, wp_mPar, wp_parF, wp_mB, wp_mBin, wp_mUn, wp_mCall, wp_mFn, wp_mNil, wp_mCons, wp_mTup, wp_mLst, wp_mIf, wp_mAndV, wp_mOrV, wp_mNotV, wp_mIsN, wp_mNotN, wp_asB, wp_asI, wp_mTru, wp_truB, wp_mAnd, wp_mOr, wp_mNot, wp_mYes, wp_mPart, wp_mSl, wp_mVs, wp_mV0, wp_mC, wp_ret, wp_sub, wp_addI, wp_lt, wp_le, wp_gt, wp_ge, wp_neg, wp_eqS, wp_lenT, wp_lenL, wp_tupT, wp_tupL, Bool.not_true, Bool.not_false, Bool.false_eq_true, if_true, if_false, ml1]
          exact kq [bg] (by simp) fun v hv => by rw [List.mem_singleton.mp hv]; exact ⟨bg1, by omega⟩
        | false =>
          simp only [List.set_cons_succ, List.set_cons_zero, wipeR, wp_mSeq, wp_mIfS, wp_mSet, wp_mRet, wp_mDrop, wp_mNx, wp_mPar, wp_parF, wp_mB, wp_mBin, wp_mUn, wp_mCall, wp_mFn, wp_mNil, wp_mCons, wp_mTup, wp_mLst, wp_mIf, wp_mAndV, wp_mOrV, wp_mNotV, wp_mIsN, wp_mNotN, wp_asB, wp_asI, wp_mTru, wp_truB, wp_mAnd, wp_mOr, wp_mNot, wp_mYes, wp_mPart, wp_mSl, wp_mVs, wp_mV0, wp_mC, wp_ret, wp_sub, wp_addI, wp_lt, wp_le, wp_gt, wp_ge, wp_neg, wp_eqS, wp_lenT, wp_lenL, wp_tupT, wp_tupL, Bool.not_true, Bool.not_false, Bool.false_eq_true, if_true, if_false]
          exact kq vs4 hfl hfm
      refine nine _ fun vs5 h5l h5m => ?_
      simp only [List.set_cons_succ, List.set_cons_zero]
      rw [wp_mSeq, wp_mSet, wp_mFn]
      simp only [wp_mCons, wp_mNil, wp_mVs, wp_mV0]
      refine law_children_fn (o := some c) h hn (fun p hp => by cases hp; exact h.cs c hcc) fun S9 n9 gr9 hn9 hn9' ho9 => ?_
      simp only [List.set_cons_succ, List.set_cons_zero]
      have k58 : Kp b S5 S8 := ((k6).trans k7).trans k8
      have k09 : Kp b S S9 := (k5.trans k58).trans gr9.kp
      have lt8 : b < S8.nx := Nat.lt_of_lt_of_le hlt (k5.trans k58).1
      have g9 := g8.gr lt8 gr9
      have lt9 : b < S9.nx := Nat.lt_of_lt_of_le lt8 gr9.1
      have n9b : n9 ≠ b := by omega
      have o9 : S9.ob S.nx = some (.lst bs) := ((k58.trans gr9.kp).2 S.nx nb hx5).trans o5
      have hx9 : S.nx < S9.nx := Nat.lt_of_lt_of_le hx5 (k58.trans gr9.kp).1
      rw [wp_mSeq, wp_mDrop, wp_mMet]
      simp only [wp_mVs, wp_mV0]
      refine (wp_ref (f := appM) o9).mpr ?_
      rw [wp_mCons, wp_mCall, wp_mCons, wp_mLc, wp_mISeq]
      simp only [wp_mVs, wp_mV0, src_lst]
      refine Wp.mono (lcA_inv (c := D.int) (l := vs5) (I := fun S' => Bag S' b ∧ Kp b S9 S') (P := fun _ y => OkX (7 + g m) (3 * m + 2) y ∧ shB y = true) (fun _ _ => srcOk_nil) ⟨g9, Kp.refl⟩ fun v hv => ⟨_, rfl, fun S10 ⟨g10, k10⟩ => ?_⟩) ?_
      · simp only [List.set_cons_succ, List.set_cons_zero, wipeR, wp_mSeq, wp_mIfS, wp_mSet, wp_mRet, wp_mDrop, wp_mNx, wp_mPar, wp_parF, wp_mB, wp_mBin, wp_mUn, wp_mCall, wp_mFn, wp_mNil, wp_mCons, wp_mTup, wp_mLst, wp_mIf, wp_mAndV, wp_mOrV, wp_mNotV, wp_mIsN, wp_mNotN, wp_asB, wp_asI, wp_mTru, wp_truB, wp_mAnd, wp_mOr, wp_mNot, wp_mYes, wp_mPart, wp_mSl, wp_mVs, wp_mV0, wp_mC, wp_ret, wp_sub, wp_addI, wp_lt, wp_le, wp_gt, wp_ge, wp_neg, wp_eqS, wp_lenT, wp_lenL, wp_tupT, wp_tupL, Bool.not_true, Bool.not_false, Bool.false_eq_true, if_true, if_false]
        refine ⟨trivial, ?_⟩
        have o10 : S10.ob n9 = some (.lst ((ch q (some c)).map .str)) := (k10.2 n9 n9b hn9').trans ho9
        have hn10 : n9 < S10.nx := Nat.lt_of_lt_of_le hn9' k10.1
        refine ih m (by omega) g10 (Nat.lt_of_lt_of_le lt9 k10.1) hw0 hw1 (by omega) (by have := ch_count hcc; omega) (show srcOf (.ref n9) S10 = some ⟨(ch q (some c)).map .str, [(n9, (ch q (some c)).map .str)]⟩ by unfold srcOf; simp only [o10]) (fun S11 k11 => srcOk_one.mpr ((k11.2 n9 n9b hn10).trans o10)) (fun e he => ⟨(mem_ch.mp he).1, by have := ch_kk he; omega⟩) fun d S11 hsd hod g11 k11 => ?_
        rw [Mn.mt2]
        have hvb := h5m v hv
        refine ⟨⟨((OkXL.cons (OkX.int (n := 3 * m + 1) (i := v) (by omega) (by omega)) (OkXL.cons hod OkXL.nil)).tup (by simp)).mono (by omega) (Nat.le_refl _), ?_⟩, g11, k10.trans k11⟩
        have hv30 : (decide (-30 ≤ v) && decide (v ≤ 30)) = true := by rw [decide_eq_true (by omega : -30 ≤ v), decide_eq_true (by omega : v ≤ 30)]; rfl
        rw [shB, shL, shB, hv30, shL, hsd, shL]; rfl
      rintro r10 S10 ⟨hrl10, hri10, g10, k10⟩
      have hp10 : ∀ y ∈ r10, OkX (7 + g m) (3 * m + 2) y ∧ shB y = true := fun y hy => let ⟨_, _, hx⟩ := hri10 y hy; hx
      rw [wp_lim (by omega)]
      simp only [wp_mNil, wp_tupL]
      have o10 : S10.ob S.nx = some (.lst bs) := (k10.2 _ nb hx9).trans o9
      rw [app_wp o10 (by omega)]
      simp only [wp_mNx]
      refine ⟨trivial, ⟨_, _, _, _, _, _, rfl⟩, ⟨bs ++ [.tup r10], ob_set, by simp [hbl], fun d hd => ?_, fun d hd => ?_⟩, Bag.kp (S' := S10) g10 nb, (k09.trans k10).setN (Nat.le_refl _), Nat.lt_of_lt_of_le hx9 k10.1⟩
      · rcases List.mem_append.mp hd with hd | hd
        · exact hbs d hd
        · rw [List.mem_singleton.mp hd]
          refine ((OkXL.all fun y hy => (hp10 y hy).1).tup (by omega)).mono ?_ (by omega)
          show r10.length * (7 + g m + 1) ≤ 5 * (8 + g m)
          have := Nat.mul_le_mul (show r10.length ≤ 5 by omega) (Nat.le_refl (8 + g m))
          rw [show 7 + g m + 1 = 8 + g m by omega]
          exact this
      · rcases List.mem_append.mp hd with hd | hd
        · exact hsh d hd
        · rw [List.mem_singleton.mp hd, shB, decide_eq_true (by omega : r10.length ≤ 100), shL_of fun y hy => (hp10 y hy).2]; rfl
    · rintro ⟨fl, r⟩ S5 ⟨e1, ⟨x5, x6, x7, x8, x9, x10, rfl⟩, ⟨bs, o5, hbl, hbs, hsh⟩, g5, k5, hx5⟩
      have e1 : fl = .nx := e1
      subst e1
      rw [List.nil_append] at hbl
      simp only [List.set_cons_succ, List.set_cons_zero, wipeR, wp_mSeq, wp_mIfS, wp_mSet, wp_mRet, wp_mDrop, wp_mNx, wp_mPar, wp_parF, wp_mB, wp_mBin, wp_mUn, wp_mCall, wp_mFn, wp_mNil, wp_mCons, wp_mTup, wp_mLst, wp_mIf, wp_mAndV, wp_mOrV, wp_mNotV, wp_mIsN, wp_mNotN, wp_asB, wp_asI, wp_mTru, wp_truB, wp_mAnd, wp_mOr, wp_mNot, wp_mYes, wp_mPart, wp_mSl, wp_mVs, wp_mV0, wp_mC, wp_ret, wp_sub, wp_addI, wp_lt, wp_le, wp_gt, wp_ge, wp_neg, wp_eqS, wp_lenT, wp_lenL, wp_tupT, wp_tupL, Bool.not_true, Bool.not_false, Bool.false_eq_true, if_true, if_false, wp_tupR o5]
      refine fin _ S5 (by rw [shB, decide_eq_true (by omega : bs.length ≤ 100), shL_of hsh]; rfl) ?_ g5 k5
      refine ((OkXL.all hbs).tup (by omega)).mono ?_ (Nat.le_refl _)
      cases n with
      | zero =>
        rw [show bs.length = 0 by omega, Nat.zero_mul]
        exact Nat.zero_le _
      | succ m =>
        rw [g_one, show m + 1 - 1 = m from rfl]
        have := Nat.mul_le_mul (show bs.length ≤ m + 1 by omega) (Nat.le_refl (1 + 5 * (8 + g m)))
        rw [show 5 * (8 + g m) + 1 = 1 + 5 * (8 + g m) by omega]
        exact this
end
end K56
set_option maxRecDepth 100000
set_option maxHeartbeats 1000000
namespace K56
open PySem PySem.Spec PyProof.Rows L2 Mn
section
variable {S : Sto} {b : Nat} {Q : D → Sto → Prop} {ts : Nat → Addr}
theorem g4 : g 4 ≤ 150224 := by decide
theorem g_mono : ∀ {n m : Nat}, n ≤ m → g n ≤ g m
  | 0, m, _ => Nat.zero_le _
  | n + 1, 0, h => by omega
  | n + 1, m + 1, h => by
    rw [g, g]
    exact Nat.mul_le_mul h (by have := g_mono (n := n) (m := m) (by omega); omega)
theorem any_fn {q : Qu} (h : OkQ q) (hN : q.cols.length ≤ 4) (hn : Nst q) (hb : Bag S b) (hlt : b < S.nx) (fin : ∀ d S', shB d = true → OkX 150224 13 d → Bag S' b → Kp b S S' → Q d S') :
    Wp (if [D.ref b, qD q].length = P_law_any_shape.length then d_law_any_shape [.ref b, qD q] else fail) S Q := by
  rw [if_pos (show [D.ref b, qD q].length = P_law_any_shape.length from rfl)]
  unfold d_law_any_shape
  rw [wp_def, show startR N_law_any_shape.length [D.ref b, qD q] = [some (.ref b), some (qD q)] from rfl]
  unfold b_law_any_shape
  rw [wp_mSeq, wp_mIfS, wp_mB, wp_mBin, wp_mFn]
  simp only [wp_mCons, wp_mNil, wp_mVs, wp_mV0, wp_mC]
  refine take_fn hb (by decide) (by decide) fun v S1 _ _ g1 k1 => ?_
  rw [wp_eqI, wp_asB]
  have lt1 := Nat.lt_of_lt_of_le hlt k1.1
  cases (v == 0) with
  | true =>
    simp only [List.set_cons_succ, List.set_cons_zero, wipeR, wp_mSeq, wp_mIfS, wp_mSet, wp_mRet, wp_mDrop, wp_mNx, wp_mPar, wp_parF, wp_mB, wp_mBin, wp_mUn, wp_mCall, wp_mFn, wp_mNil, wp_mCons, wp_mTup, wp_mLst, wp_mIf, wp_mAndV, wp_mOrV, wp_mNotV, wp_mIsN, wp_mNotN, wp_asB, wp_asI, wp_mTru, wp_truB, wp_mAnd, wp_mOr, wp_mNot, wp_mYes, wp_mPart, wp_mSl, wp_mVs, wp_mV0, wp_mC, wp_ret, wp_sub, wp_addI, wp_lt, wp_le, wp_gt, wp_ge, wp_neg, wp_eqS, wp_lenT, wp_lenL, wp_tupT, wp_tupL, Bool.not_true, Bool.not_false, Bool.false_eq_true, if_true, if_false]
    exact fin _ S1 rfl OkX.non g1 k1
  | false =>
    have m3 : ∀ (S : Sto) (Q : D → Sto → Prop), Wp (mkLst [D.int 1, .int 2, .int 3]) S Q ↔ Q (.lst [.int 1, .int 2, .int 3]) S := fun S Q => wp_mkLst (by simp)
    simp only [List.set_cons_succ, List.set_cons_zero, wipeR, wp_mSeq, wp_mIfS, wp_mSet, wp_mRet, wp_mDrop, wp_mNx, wp_mPar, wp_parF, wp_mB, wp_mBin, wp_mUn, wp_mCall, wp_mFn, wp_mNil, wp_mCons, wp_mTup, wp_mLst, wp_mIf, wp_mAndV, wp_mOrV, wp_mNotV, wp_mIsN, wp_mNotN, wp_asB, wp_asI, wp_mTru, wp_truB, wp_mAnd, wp_mOr, wp_mNot, wp_mYes, wp_mPart, wp_mSl, wp_mVs, wp_mV0, wp_mC, wp_ret, wp_sub, wp_addI, wp_lt, wp_le, wp_gt, wp_ge, wp_neg, wp_eqS, wp_lenT, wp_lenL, wp_tupT, wp_tupL, Bool.not_true, Bool.not_false, Bool.false_eq_true, if_true, if_false]
    refine law_children_fn (o := none) h hn (fun p hp => by cases hp) fun S2 n2 gr2 hn2 hn2' ho2 => ?_
    simp only [List.set_cons_succ, List.set_cons_zero, wipeR, wp_mSeq, wp_mIfS, wp_mSet, wp_mRet, wp_mDrop, wp_mNx, wp_mPar, wp_parF, wp_mB, wp_mBin, wp_mUn, wp_mCall, wp_mFn, wp_mNil, wp_mCons, wp_mTup, wp_mLst, wp_mIf, wp_mAndV, wp_mOrV, wp_mNotV, wp_mIsN, wp_mNotN, wp_asB, wp_asI, wp_mTru, wp_truB, wp_mAnd, wp_mOr, wp_mNot, wp_mYes, wp_mPart, wp_mSl, wp_mVs, wp_mV0, wp_mC, wp_ret, wp_sub, wp_addI, wp_lt, wp_le, wp_gt, wp_ge, wp_neg, wp_eqS, wp_lenT, wp_lenL, wp_tupT, wp_tupL, Bool.not_true, Bool.not_false, Bool.false_eq_true, if_true, if_false, m3]
    have g2 := g1.gr lt1 gr2
    have lt2 := Nat.lt_of_lt_of_le lt1 gr2.1
    refine some_fn g2 (.inl rfl) (by simp) (by simp) fun dw S3 hdw g3 k3 => ?_
    obtain ⟨w, w0, w1, rfl⟩ : ∃ w : Int, 0 ≤ w ∧ w ≤ 3 ∧ dw = .int w := by
      simp only [List.mem_cons, List.not_mem_nil, or_false] at hdw
      rcases hdw with rfl | rfl | rfl
      · exact ⟨1, by decide, by decide, rfl⟩
      · exact ⟨2, by decide, by decide, rfl⟩
      · exact ⟨3, by decide, by decide, rfl⟩
    have n2b : n2 ≠ b := by omega
    have o3 : S3.ob n2 = some (.lst ((ch q none).map .str)) := (k3.2 n2 n2b hn2').trans ho2
    have hn3 : n2 < S3.nx := Nat.lt_of_lt_of_le hn2' k3.1
    have hcl : (ch q none).length ≤ q.cols.length := List.length_filter_le _ _
    refine drawn_fn h hn 8 4 (by decide) g3 (Nat.lt_of_lt_of_le lt2 k3.1) w0 w1 (by decide) (by omega) (show srcOf (.ref n2) S3 = some ⟨(ch q none).map .str, [(n2, (ch q none).map .str)]⟩ by unfold srcOf; simp only [o3]) (fun S4 k4 => srcOk_one.mpr ((k4.2 n2 n2b hn3).trans o3)) (fun e he => ⟨(mem_ch.mp he).1, by omega⟩) fun d S4 hs ho g4' k4 => ?_
    exact fin d S4 hs (ho.mono g4 (by decide)) g4' (((k1.trans gr2.kp).trans k3).trans k4)
/-! ### things bent -/
theorem sh_tup {ds : List D} (h : shB (.tup ds) = true) {d : D} (hd : d ∈ ds) : shB d = true := shL_mem (by rw [shB, Bool.and_eq_true] at h; exact h.2) hd
theorem wp_listT {ds : List D} : Wp (listM [.tup ds]) S Q ↔ Q (.lst ds) S := wp_some rfl
theorem rev_wp {ds : List D} : Wp (revM (.tup ds)) S Q ↔ Q (.tup ds.reverse) S := wp_some rfl
theorem strI_wp {i : Int} (h1 : -31 ≤ i) (h2 : i ≤ 31) : Wp (strIM [.int i]) S Q ↔ Q (.str ((toString i : String) : Str)) S := wp_some (by
  unfold strIM
  have : i.natAbs.log2 < 1920 := by
    have h3 : i.natAbs ≤ 31 := by omega
    have h4 : i.natAbs.log2 ≤ i.natAbs := Nat.log2_le_self _
    omega
  simp only [this, if_true])
theorem bent_fn : ∀ (f n c : Nat) {d : D} {S : Sto} {Q : D → Sto → Prop}, n < f → Bag S b → shB d = true → OkX c n d → (∀ d' S', OkX (2 * c + 200) (n + 5) d' → Bag S' b → Kp b S S' → Q d' S') →
    Wp (if [D.ref b, d].length = P_law_bent.length then d_law_bent f [.ref b, d] else fail) S Q
  | 0, n, c, d, S, Q, hf, _, _, _, _ => by omega
  | f + 1, n, c, d, S, Q, hf, hb, hs, hd, fin => by
    have ih := @bent_fn f
    rw [if_pos (show [D.ref b, d].length = P_law_bent.length from rfl)]
    rw [d_law_bent, wp_def, show startR N_law_bent.length [D.ref b, d] = [some (.ref b), some d, none] from rfl]
    unfold b_law_bent
    rw [wp_mSeq, wp_mIfS, wp_mAnd, wp_mTru, wp_mUn]
    simp only [wp_mVs, wp_mV0, isT_wp hd.tr, wp_truB]
    cases d with
    | tup ds =>
      obtain ⟨m, rfl, hl, hlen⟩ := hd.untup
      -- one of the five
      have five : ∀ (S1 : Sto), Bag S1 b → Kp b S S1 → ∀ (x2 : Option D), Wp (mSeq (mIfS (mTru (mUn (isiM "tuple") (mV 1))) (mSeq (mRet (mFn P_law_some.length d_law_some (mCons (mV 0) (mCons (mLst (mCons (mCall listM (mCons (mV 1) mNil)) (mCons (mSl (mV 1) (mPart (mC (.int 1))) (fun _ => Mn.ret none)) (mCons (mBin addM (mV 1) (mSl (mV 1) (fun _ => Mn.ret none) (mPart (mC (.int 1))))) (mCons (mUn revM (mV 1)) (mCons (mFn P_law_odd.length d_law_odd (mCons (mV 0) mNil)) mNil)))))) mNil))))
          mNx) mNx)
          (mSeq (mIfS (mTru (mFn P_law_is_int.length d_law_is_int (mCons (mV 1) mNil))) (mSeq (mRet (mFn P_law_some.length d_law_some (mCons (mV 0) (mCons (mLst (mCons (mBin addM (mV 1) (mC (.int 1))) (mCons (mBin subM (mV 1) (mC (.int 1))) (mCons (mBin eqM (mV 1) (mC (.int 1))) (mCons (mC .non) (mCons (mCall strIM (mCons (mV 1) mNil)) (mCons (mTup (mCons (mV 1) mNil)) mNil))))))) mNil))))
          mNx) mNx)
          (mSeq (mRet (mFn P_law_odd.length d_law_odd (mCons (mV 0) mNil)))
          mNx)) [some (.ref b), some (.tup ds), x2]) S1 fun p S2 => Wp (match p.1 with | .rt d => Mn.ret d | .nx => Mn.ret .non | _ => fail) S2 Q := fun S1 g1 k1 x2 => by
        simp only [List.set_cons_succ, List.set_cons_zero, wipeR, wp_mSeq, wp_mIfS, wp_mSet, wp_mRet, wp_mDrop, wp_mNx, wp_mPar, wp_parF, wp_mB, wp_mBin, wp_mUn, wp_mCall, wp_mFn, wp_mNil, wp_mCons, wp_mTup, wp_mLst, wp_mIf, wp_mAndV, wp_mOrV, wp_mNotV, wp_mIsN, wp_mNotN, wp_asB, wp_asI, wp_mTru, wp_truB, wp_mAnd, wp_mOr, wp_mNot, wp_mYes, wp_mPart, wp_mSl, wp_mVs, wp_mV0, wp_mC, wp_ret, wp_sub, wp_addI, wp_lt, wp_le, wp_gt, wp_ge, wp_neg, wp_eqS, wp_lenT, wp_lenL, wp_tupT, wp_tupL, Bool.not_true, Bool.not_false, Bool.false_eq_true, if_true, if_false, isT_wp hd.tr, isTup, wp_listT, wp_slT, rev_wp]
        rw [show Mn.cutD ds (some 1) none = ds.drop 1 from cut_lo ds 1, show Mn.cutD ds none (some 1) = ds.take 1 from cut_hi ds 1]
        rw [wp_addT (by rw [List.length_take]; omega)]
        refine odd_fn g1 fun od S2 hod g2 k2 => ?_
        rw [wp_mkLst (by simp)]
        refine some_fn g2 (.inl rfl) (by simp) (by simp) fun d' S3 hd' g3 k3 => ?_
        refine fin d' S3 ?_ g3 ((k1.trans k2).trans k3)
        simp only [List.mem_cons, List.not_mem_nil, or_false] at hd'
        obtain ⟨a1, a2, ea, t1, t2⟩ := OkXL.split (xs := ds.take 1) (ys := ds.drop 1) (by rw [List.take_append_drop]; exact hl)
        rcases hd' with rfl | rfl | rfl | rfl | rfl
        · exact hl.lst.mono (by omega) (by omega)
        · exact (t2.tup (by rw [List.length_drop]; omega)).mono (by omega) (by omega)
        · have h100 : ds.length ≤ 100 := by rw [shB, Bool.and_eq_true] at hs; exact of_decide_eq_true hs.1
          exact ((OkXL.app hl t1).tup (by rw [List.length_append, List.length_take]; omega)).mono (by omega) (by omega)
        · exact (hl.rev.tup (by rw [List.length_reverse]; exact hlen)).mono (by omega) (by omega)
        · exact hod.mono (by omega) (by omega)
      simp only [isTup, if_true]
      rw [wp_mAnd, wp_mB, wp_mBin]
      simp only [wp_mVs, wp_mV0, wp_mTup, wp_mNil, Mn.mt0, ne0_wp, wp_asB]
      cases he : ds.isEmpty with
      | true =>
        simp only [Bool.not_true, Bool.false_eq_true, if_false, wp_ret, wp_mNx]
        exact five S hb Kp.refl none
      | false =>
        simp only [Bool.not_false, if_true]
        rw [wp_mB, wp_mBin, wp_mFn]
        simp only [wp_mCons, wp_mNil, wp_mVs, wp_mV0, wp_mC]
        refine take_fn hb (by decide) (by decide) fun v S1 v0 v1 g1 k1 => ?_
        rw [wp_gt, wp_asB]
        by_cases hv : (0 : Int) < v
        · rw [decide_eq_true hv, if_pos rfl]
          simp only [List.set_cons_succ, List.set_cons_zero, wipeR, wp_mSeq, wp_mIfS, wp_mSet, wp_mRet, wp_mDrop, wp_mNx, wp_mPar, wp_parF, wp_mB, wp_mBin, wp_mUn, wp_mCall, wp_mFn, wp_mNil, wp_mCons, wp_mTup, wp_mLst, wp_mIf, wp_mAndV, wp_mOrV, wp_mNotV, wp_mIsN, wp_mNotN, wp_asB, wp_asI, wp_mTru, wp_truB, wp_mAnd, wp_mOr, wp_mNot, wp_mYes, wp_mPart, wp_mSl, wp_mVs, wp_mV0, wp_mC, wp_ret, wp_sub, wp_addI, wp_lt, wp_le, wp_gt, wp_ge, wp_neg, wp_eqS, wp_lenT, wp_lenL, wp_tupT, wp_tupL, Bool.not_true, Bool.not_false, Bool.false_eq_true, if_true, if_false]
          have hl0 : 0 < ds.length := List.length_pos_iff.mpr (fun e => by rw [e] at he; cases he)
          refine take_fn g1 (by omega) (by omega) fun at_ S2 a0 a1 g2 k2 => ?_
          obtain ⟨k, rfl⟩ := Int.eq_ofNat_of_zero_le a0
          have hk : k < ds.length := by omega
          have hsp : ds = ds.take k ++ ds[k] :: ds.drop (k + 1) := by rw [List.getElem_cons_drop, List.take_append_drop]
          have xk : ∀ (S : Sto) (Q : D → Sto → Prop), Wp (ixM (.tup ds) (.int (k : Nat))) S Q ↔ Q ds[k] S := fun S Q => wp_ixT (at_nat (List.getElem?_eq_getElem hk))
          simp only [List.set_cons_succ, List.set_cons_zero, wipeR, wp_mSeq, wp_mIfS, wp_mSet, wp_mRet, wp_mDrop, wp_mNx, wp_mPar, wp_parF, wp_mB, wp_mBin, wp_mUn, wp_mCall, wp_mFn, wp_mNil, wp_mCons, wp_mTup, wp_mLst, wp_mIf, wp_mAndV, wp_mOrV, wp_mNotV, wp_mIsN, wp_mNotN, wp_asB, wp_asI, wp_mTru, wp_truB, wp_mAnd, wp_mOr, wp_mNot, wp_mYes, wp_mPart, wp_mSl, wp_mVs, wp_mV0, wp_mC, wp_ret, wp_sub, wp_addI, wp_lt, wp_le, wp_gt, wp_ge, wp_neg, wp_eqS, wp_lenT, wp_lenL, wp_tupT, wp_tupL, Bool.not_true, Bool.not_false, Bool.false_eq_true, if_true, if_false, wp_slT]
          rw [show Mn.cutD ds none (some ((k : Nat) : Int)) = ds.take k from cut_hi ds k]
          rw [xk]
          obtain ⟨w1, w2, ew, t1, t2⟩ := OkXL.split (xs := ds.take k) (ys := ds[k] :: ds.drop (k + 1)) (by rw [← hsp]; exact hl)
          obtain ⟨w3, w4, ew2, t3, t4⟩ := t2.uncons
          refine ih m w3 (by omega) g2 (sh_tup hs (List.getElem_mem hk)) t3 fun d' S3 hd' g3 k3 => ?_
          rw [Mn.mt1]
          rw [wp_addT (by rw [List.length_take]; simp; omega), show Mn.cutD ds (some (((k : Nat) : Int) + 1)) none = ds.drop (k + 1) from cut_lo ds (k + 1)]
          rw [wp_addT (by rw [List.length_append, List.length_take, List.length_drop]; simp; omega)]
          refine fin _ S3 ?_ g3 ((k1.trans k2).trans k3)
          have t5 := OkXL.app (OkXL.app (t1.mono (Nat.le_refl _) (show m ≤ m + 5 by omega)) (OkXL.cons hd' OkXL.nil)) (t4.mono (Nat.le_refl _) (show m ≤ m + 5 by omega))
          exact (t5.tup (by rw [List.length_append, List.length_append, List.length_take, List.length_drop]; simp; omega)).mono (by omega) (by omega)
        · rw [decide_eq_false hv, if_neg (by decide), wp_mNx]
          exact five S1 g1 k1 none
    | int i =>
      rw [shB, Bool.and_eq_true] at hs
      have i1 := of_decide_eq_true hs.1
      have i2 := of_decide_eq_true hs.2
      have m6 : ∀ (a c e g : D) (x : Bool) (y : Str) (S : Sto) (Q : D → Sto → Prop), Wp (mkLst [a, c, .bl x, e, .str y, g]) S Q ↔ Q (.lst [a, c, .bl x, e, .str y, g]) S := fun a c e g x y S Q => wp_mkLst (by simp)
      simp only [isTup, Bool.false_eq_true, if_false, wp_ret, wp_mNx]
      simp only [List.set_cons_succ, List.set_cons_zero, wipeR, wp_mSeq, wp_mIfS, wp_mSet, wp_mRet, wp_mDrop, wp_mNx, wp_mPar, wp_parF, wp_mB, wp_mBin, wp_mUn, wp_mCall, wp_mFn, wp_mNil, wp_mCons, wp_mTup, wp_mLst, wp_mIf, wp_mAndV, wp_mOrV, wp_mNotV, wp_mIsN, wp_mNotN, wp_asB, wp_asI, wp_mTru, wp_truB, wp_mAnd, wp_mOr, wp_mNot, wp_mYes, wp_mPart, wp_mSl, wp_mVs, wp_mV0, wp_mC, wp_ret, wp_sub, wp_addI, wp_lt, wp_le, wp_gt, wp_ge, wp_neg, wp_eqS, wp_lenT, wp_lenL, wp_tupT, wp_tupL, Bool.not_true, Bool.not_false, Bool.false_eq_true, if_true, if_false, isTup, isT_wp hd.tr, law_is_int_fn hd.tr, isI, wp_eqI, strI_wp (i := i) (by omega) (by omega), Mn.mt1, m6]
      refine some_fn hb (.inl rfl) (by simp) (by simp) fun d' S1 hd' g1 k1 => ?_
      refine fin d' S1 ?_ g1 k1
      simp only [List.mem_cons, List.not_mem_nil, or_false] at hd'
      rcases hd' with rfl | rfl | rfl | rfl | rfl | rfl
      · exact (OkX.int (by omega) (by omega)).mono (by omega) (Nat.le_refl _)
      · exact (OkX.int (by omega) (by omega)).mono (by omega) (Nat.le_refl _)
      · exact OkX.bl
      · exact OkX.non
      · exact (OkX.str (shown_int i (by omega) (by omega))).mono (by omega) (Nat.le_refl _)
      · exact ((OkXL.cons (OkX.int (n := 0) (i := i) (by omega) (by omega)) OkXL.nil).tup (by simp)).mono (by omega) (by omega)
    | non =>
      simp only [isTup, Bool.false_eq_true, if_false, wp_ret, wp_mNx]
      simp only [List.set_cons_succ, List.set_cons_zero, wipeR, wp_mSeq, wp_mIfS, wp_mSet, wp_mRet, wp_mDrop, wp_mNx, wp_mPar, wp_parF, wp_mB, wp_mBin, wp_mUn, wp_mCall, wp_mFn, wp_mNil, wp_mCons, wp_mTup, wp_mLst, wp_mIf, wp_mAndV, wp_mOrV, wp_mNotV, wp_mIsN, wp_mNotN, wp_asB, wp_asI, wp_mTru, wp_truB, wp_mAnd, wp_mOr, wp_mNot, wp_mYes, wp_mPart, wp_mSl, wp_mVs, wp_mV0, wp_mC, wp_ret, wp_sub, wp_addI, wp_lt, wp_le, wp_gt, wp_ge, wp_neg, wp_eqS, wp_lenT, wp_lenL, wp_tupT, wp_tupL, Bool.not_true, Bool.not_false, Bool.false_eq_true, if_true, if_false, isTup, isT_wp hd.tr, law_is_int_fn hd.tr, isI]
      refine odd_fn hb fun d' S1 hd' g1 k1 => ?_
      exact fin d' S1 (hd'.mono (by omega) (by omega)) g1 k1
    | _ => simp [shB] at hs
end
end K56
set_option maxRecDepth 100000
set_option maxHeartbeats 1000000
namespace K56
open PySem PySem.Spec PyProof.Rows L2 Mn
theorem reprX_ok {c n : Nat} {d : D} (h : OkX c n d) (hc : c ≤ 300648) (hn : n ≤ 100) : ∃ x : Str, ∀ (S : Sto) (Q : D → Sto → Prop), Wp (reprXM [d]) S Q ↔ Q (.str x) S := by
  obtain ⟨⟨p, h1, h2, h3, h4, h5⟩, t⟩ := h
  have hlen : p.shown.length ≤ lim := by
    have := PyData.shown_le 45 (by decide) p h5
    have h6 := Nat.mul_le_mul_left 47 (Nat.le_trans h4 hc)
    have h7 : 47 * 300648 + 45 ≤ lim := by decide
    have e : (45 + 2) * p.weight = 47 * p.weight := rfl
    omega
  have hR : ∀ S, refD d = true → reprRM [d] S = some (.str p.shown, S) := fun S hr => by
    unfold reprRM
    simp only [hr, if_true, h1]
    rw [if_pos ⟨h2, Nat.le_trans h3 hn, hlen⟩]
  have hM : ∀ S p', pds S d = some p' → p' = p → dic0 [d] = false → reprXM [d] S = some (.str p.shown, S) := fun S p' e1 e2 e3 => by
    subst e2
    unfold reprXM reprM
    rw [e3]
    simp only [Bool.false_eq_true, if_false]
    unfold reprM0
    simp only [e1]
    rw [if_pos ⟨h2, Nat.le_trans h3 hn, hlen⟩]
  refine ⟨p.shown, fun S Q => wp_some ?_⟩
  have tree : pds S d = pdT d → (pdT d = none → refD d = true) → dic0 [d] = false → reprXM [d] S = some (.str p.shown, S) := fun e1 e2 e3 => by
    cases hp : pdT d with
    | some p' =>
      refine hM S p' (by rw [e1, hp]) ?_ e3
      have := pdR_of d p' hp
      rw [h1] at this
      exact (Option.some.inj this).symm
    | none =>
      have hr := e2 hp
      unfold reprXM
      have : reprM [d] S = none := by
        unfold reprM
        rw [e3]
        simp only [Bool.false_eq_true, if_false]
        unfold reprM0
        simp only [e1, hp]
      rw [this]
      exact hR S hr
  cases d with
  | non => exact tree rfl (fun e => by rw [pdT.eq_def] at e; cases e) rfl
  | bl _ => exact tree rfl (fun e => by rw [pdT.eq_def] at e; cases e) rfl
  | int _ => exact tree rfl (fun e => by rw [pdT.eq_def] at e; cases e) rfl
  | str x => exact tree rfl (fun e => by rw [trB] at t; rw [pdT.eq_def] at e; simp only at e; rw [if_pos t] at e; cases e) rfl
  | tup _ => exact tree rfl (fun _ => rfl) rfl
  | lst _ => exact tree rfl (fun _ => rfl) rfl
  | rol _ => rw [trB] at t; cases t
  | ref _ => rw [trB] at t; cases t
  | dic ks ds =>
    cases ks with
    | nil =>
      cases ds with
      | nil =>
        have : p = .dict [] := by rw [pdR, pdRL] at h1; exact (Option.some.inj h1).symm
        subst this
        rfl
      | cons _ _ => exact tree rfl (fun _ => rfl) rfl
    | cons _ _ => exact tree rfl (fun _ => rfl) rfl
section
variable {S : Sto} {b : Nat} {Q : D → Sto → Prop} {ts : Nat → Addr}
theorem shape_fn {q : Qu} {d : D} (h : OkQ q) (hN : q.cols.length ≤ 4) (ht : Tb ts S) (hd : trB d = true) : Wp (if [qD q, d].length = P_is_shape.length then d_is_shape ts [qD q, d] else fail) S Q ↔ Q (.bl (isNonD d || formD q 5 (ch q none) d)) S := by
  rw [if_pos (show [qD q, d].length = P_is_shape.length from rfl)]
  refine wp_some (eqOf ?_)
  unfold d_is_shape
  rw [wp_def, show startR N_is_shape.length [qD q, d] = [some (qD q), some d] from rfl]
  unfold b_is_shape
  have br : ∀ Q : D → Sto → Prop, Wp (if [qD q, .tup ((ch q none).map .str), d].length = P_are_branches.length then d_are_branches ts 12 [qD q, .tup ((ch q none).map .str), d] else fail) S Q ↔ Q (.bl (formD q 5 (ch q none) d)) S := fun Q => (branches_fn h ht 12).1 4 (ch q none) d Q (by decide) (ch_len h) hd fun c hc => ⟨(mem_ch.mp hc).1, by omega⟩
  simp only [List.set_cons_succ, List.set_cons_zero, wipeR, wp_mSeq, wp_mIfS, wp_mSet, wp_mRet, wp_mDrop, wp_mNx, wp_mPar, wp_parF, wp_mB, wp_mBin, wp_mUn, wp_mCall, wp_mFn, wp_mNil, wp_mCons, wp_mTup, wp_mLst, wp_mIf, wp_mAndV, wp_mOrV, wp_mNotV, wp_mIsN, wp_mNotN, wp_asB, wp_asI, wp_mTru, wp_truB, wp_mAnd, wp_mOr, wp_mNot, wp_mYes, wp_mPart, wp_mSl, wp_mVs, wp_mV0, wp_mC, wp_ret, wp_sub, wp_addI, wp_lt, wp_le, wp_gt, wp_ge, wp_neg, wp_eqS, wp_lenT, wp_lenL, wp_tupT, wp_tupL, Bool.not_true, Bool.not_false, Bool.false_eq_true, if_true, if_false]
  cases isNonD d with
  | true =>
    simp only [List.set_cons_succ, List.set_cons_zero, wipeR, wp_mSeq, wp_mIfS, wp_mSet, wp_mRet, wp_mDrop, wp_mNx, wp_mPar, wp_parF, wp_mB, wp_mBin, wp_mUn, wp_mCall, wp_mFn, wp_mNil, wp_mCons, wp_mTup, wp_mLst, wp_mIf, wp_mAndV, wp_mOrV, wp_mNotV, wp_mIsN, wp_mNotN, wp_asB, wp_asI, wp_mTru, wp_truB, wp_mAnd, wp_mOr, wp_mNot, wp_mYes, wp_mPart, wp_mSl, wp_mVs, wp_mV0, wp_mC, wp_ret, wp_sub, wp_addI, wp_lt, wp_le, wp_gt, wp_ge, wp_neg, wp_eqS, wp_lenT, wp_lenL, wp_tupT, wp_tupL, Bool.not_true, Bool.not_false, Bool.false_eq_true, if_true, if_false, Bool.true_or]
    (first | exact ⟨trivial, trivial⟩ | exact ⟨rfl, trivial⟩ | exact ⟨trivial, rfl⟩ | exact ⟨rfl, rfl⟩)
  | false =>
    simp only [List.set_cons_succ, List.set_cons_zero, wipeR, wp_mSeq, wp_mIfS, wp_mSet, wp_mRet, wp_mDrop, wp_mNx, wp_mPar, wp_parF, wp_mB, wp_mBin, wp_mUn, wp_mCall, wp_mFn, wp_mNil, wp_mCons, wp_mTup, wp_mLst, wp_mIf, wp_mAndV, wp_mOrV, wp_mNotV, wp_mIsN, wp_mNotN, wp_asB, wp_asI, wp_mTru, wp_truB, wp_mAnd, wp_mOr, wp_mNot, wp_mYes, wp_mPart, wp_mSl, wp_mVs, wp_mV0, wp_mC, wp_ret, wp_sub, wp_addI, wp_lt, wp_le, wp_gt, wp_ge, wp_neg, wp_eqS, wp_lenT, wp_lenL, wp_tupT, wp_tupL, Bool.not_true, Bool.not_false, Bool.false_eq_true, if_true, if_false, roots_fn h ht, br, Bool.false_or]
    (first | exact ⟨trivial, trivial⟩ | exact ⟨rfl, trivial⟩ | exact ⟨trivial, rfl⟩ | exact ⟨rfl, rfl⟩)
theorem law_true : ∀ (ts : Nat → Addr) (ns : List Int), ns.length ≤ 63 → ∃ S', d_law ts [scr ns] (S0T (((List.range 1).map ts).zip ["path_of.<locals>.<lambda>"])) = some (.bl true, S') := fun ts ns hns => by
  suffices hs : Wp (d_law ts [scr ns]) (S0T (((List.range 1).map ts).zip ["path_of.<locals>.<lambda>"])) fun d _ => d = .bl true by
    obtain ⟨d, S', e, rfl⟩ := hs
    exact ⟨S', e⟩
  have ht0 : Tb ts (S0T (((List.range 1).map ts).zip ["path_of.<locals>.<lambda>"])) := ⟨rfl, Nat.le_refl _⟩
  have hx0 : (S0T (((List.range 1).map ts).zip ["path_of.<locals>.<lambda>"])).nx = 1 := rfl
  generalize S0T (((List.range 1).map ts).zip ["path_of.<locals>.<lambda>"]) = S0 at *
  unfold d_law
  rw [wp_def, show startR N_law.length [scr ns] = [some (scr ns), none, none, none, none, none, none, none, none, none, none, none] from rfl]
  unfold b_law
  rw [wp_mSeq, wp_mSet, wp_mFn]
  simp only [wp_mCons, wp_mNil, wp_mV0]
  rw [if_pos (show [scr ns].length = P_law_bag.length from rfl)]
  refine bag_spec.mono fun d S1 ⟨b, e, hb, hlt, hbe, g1, g2⟩ => ?_
  subst e
  have hg : Gr S0 S1 := ⟨g1, g2⟩
  have ht1 := ht0.gr hg
  have hb1 : 1 ≤ b := by omega
  simp only [List.set_cons_succ, List.set_cons_zero]
  rw [wp_mSeq, wp_mFor, wp_mIR]
  simp only [wp_mCons, wp_mNil, wp_mC]
  rw [rng_src (by decide) (by decide)]
  refine Wp.mono (loop_done (src := ⟨rngD 0 (4 : Int).toNat, []⟩) (ds := rngD 0 (4 : Int).toNat) (pre := []) (g := gV 2) (I := fun _ r S => (∃ x2 x3 x4 x5 x6 x7 x8 x9 x10, r = [some (scr ns), some (.ref b), x2, x3, x4, x5, x6, x7, x8, x9, x10, none]) ∧ Bag S b ∧ b < S.nx ∧ Tb ts S) (fun _ _ _ _ => srcOk_nil) ⟨⟨_, _, _, _, _, _, _, _, _, rfl⟩, hb, hlt, ht1⟩ ?_) ?_
  · rintro done d rest e r S ⟨⟨x2, x3, x4, x5, x6, x7, x8, x9, x10, rfl⟩, hbS, hltS, htS⟩
    refine ⟨_, rfl, ?_⟩
    simp only [List.set_cons_succ, List.set_cons_zero]
    have m432 : ∀ (S : Sto) (Q : D → Sto → Prop), Wp (mkLst [D.int 4, .int 3, .int 2]) S Q ↔ Q (.lst [.int 4, .int 3, .int 2]) S := fun S Q => wp_mkLst (by simp)
    rw [wp_mSeq, wp_mPar, wp_mCons, wp_mFn]
    simp only [wp_mCons, wp_mNil, wp_mFn, wp_mLst, wp_mVs, wp_mV0, wp_mC, m432]
    refine some_fn hbS (.inl rfl) (by simp) (by simp) fun dm Sa hdm ga ka => ?_
    obtain ⟨m, m0, m1, rfl⟩ : ∃ m : Nat, 0 < m ∧ m ≤ 4 ∧ dm = .int (m : Nat) := by
      simp only [List.mem_cons, List.not_mem_nil, or_false] at hdm
      rcases hdm with rfl | rfl | rfl
      · exact ⟨4, by decide, by decide, rfl⟩
      · exact ⟨3, by decide, by decide, rfl⟩
      · exact ⟨2, by decide, by decide, rfl⟩
    have lta := Nat.lt_of_lt_of_le hltS ka.1
    refine nested_spec m0 (by omega) ga lta fun q Sb hq hqm hn gb kb => ?_
    have ltb := Nat.lt_of_lt_of_le lta kb.1
    refine nested_spec (m := 3) (by decide) (by decide) gb ltb fun q2 Sc hq2 hqm2 hn2 gc kc => ?_
    have ltc := Nat.lt_of_lt_of_le ltb kc.1
    rw [wp_parF]
    simp only [List.set_cons_succ, List.set_cons_zero]
    rw [wp_mSeq, wp_mAsg, wp_mTup, wp_mCons, wp_mFn]
    simp only [wp_mCons, wp_mNil, wp_mFn, wp_mVs, wp_mV0, wp_mC]
    refine any_fn hq (by omega) hn gc ltc fun sh Sd hsh hokS gd kd => ?_
    have ltd := Nat.lt_of_lt_of_le ltc kd.1
    refine law_children_fn (o := none) hq hn (fun p hp => by cases hp) fun Se n6 gre hn6 hn6' ho6 => ?_
    have ge := gd.gr ltd gre
    have lte := Nat.lt_of_lt_of_le ltd gre.1
    have n6b : n6 ≠ b := by omega
    rw [Mn.mt2, wp_asg2]
    simp only [List.set_cons_succ, List.set_cons_zero]
    -- the things
    rw [wp_mSeq, wp_mSet, wp_mBin, wp_mLst, wp_mCons]
    simp only [wp_mCons, wp_mNil, wp_mFn, wp_mVs, wp_mV0, wp_mC]
    refine any_fn hq2 (by omega) hn2 ge lte fun sh2 Sf hsh2 hok2 gf kf => ?_
    have ltf := Nat.lt_of_lt_of_le lte kf.1
    refine odd_fn gf fun od Sg hod gg kg => ?_
    have ltg := Nat.lt_of_lt_of_le ltf kg.1
    rw [ml3, wp_mLc, wp_mIR]
    simp only [wp_mCons, wp_mNil, wp_mC]
    rw [rng_src (by decide) (by decide)]
    have rd : rngD 0 (5 : Int).toNat = (List.range 5).map fun k : Nat => D.int (k : Nat) := by unfold rngD; exact List.map_congr_left fun k _ => by simp
    simp only [rd]
    refine Wp.mono (lcA_inv (c := fun k : Nat => D.int (k : Nat)) (l := List.range 5) (I := fun S' => Bag S' b ∧ Kp b Sg S') (P := fun _ y => OkX 300648 18 y) (fun _ _ => srcOk_nil) ⟨gg, Kp.refl⟩ fun x hx => ⟨_, rfl, fun S' ⟨g', k'⟩ => ?_⟩) ?_
    · simp only [List.set_cons_succ, List.set_cons_zero, wipeR, wp_mSeq, wp_mIfS, wp_mSet, wp_mRet, wp_mDrop, wp_mNx, wp_mPar, wp_parF, wp_mB, wp_mBin, wp_mUn, wp_mCall, wp_mFn, wp_mNil, wp_mCons, wp_mTup, wp_mLst, wp_mIf, wp_mAndV, wp_mOrV, wp_mNotV, wp_mIsN, wp_mNotN, wp_asB, wp_asI, wp_mTru, wp_truB, wp_mAnd, wp_mOr, wp_mNot, wp_mYes, wp_mPart, wp_mSl, wp_mVs, wp_mV0, wp_mC, wp_ret, wp_sub, wp_addI, wp_lt, wp_le, wp_gt, wp_ge, wp_neg, wp_eqS, wp_lenT, wp_lenL, wp_tupT, wp_tupL, Bool.not_true, Bool.not_false, Bool.false_eq_true, if_true, if_false]
      refine ⟨trivial, bent_fn 18 13 150224 (by decide) g' hsh hokS fun d' S2 hd' g2 k2 => ⟨hd'.mono (by decide) (by decide), g2, k'.trans k2⟩⟩
    rintro bents Sh ⟨hbl, hbp, gh, kh⟩
    rw [List.length_range] at hbl
    rw [wp_lim (by omega), wp_addL (by simp; omega)]
    have hall : ∀ d ∈ [sh, sh2, od] ++ bents, OkX 300648 18 d := fun d hd => by
      rcases List.mem_append.mp hd with hd | hd
      · simp only [List.mem_cons, List.not_mem_nil, or_false] at hd
        rcases hd with rfl | rfl | rfl
        · exact hokS.mono (by decide) (by decide)
        · exact hok2.mono (by decide) (by decide)
        · exact hod.mono (by decide) (by decide)
      · obtain ⟨_, _, hx⟩ := hbp d hd
        exact hx
    generalize [sh, sh2, od] ++ bents = things at *
    have keh : Kp b Se Sh := (kf.trans kg).trans kh
    have hoh : Sh.ob n6 = some (.lst ((ch q none).map .str)) := (keh.2 n6 n6b hn6').trans ho6
    have hnh : n6 < Sh.nx := Nat.lt_of_lt_of_le hn6' keh.1
    have kSh : Kp b S Sh := ((((ka.trans kb).trans kc).trans kd).trans gre.kp).trans keh
    have hth := htS.kp hb1 kSh
    have lth := Nat.lt_of_lt_of_le hltS kSh.1
    simp only [List.set_cons_succ, List.set_cons_zero]
    rw [wp_mSeq, wp_mFor, wp_mISeq]
    simp only [wp_mVs, wp_mV0, src_lst]
    refine Wp.mono (loop_done (src := ⟨things, []⟩) (ds := things) (pre := []) (g := gV 8) (I := fun _ r S' => (∃ x8 x9 x10, r = [some (scr ns), some (.ref b), some d, some (qD q), some (qD q2), some sh, some (.ref n6), some (.lst things), x8, x9, x10, none]) ∧ Gr Sh S') (fun _ _ _ _ => srcOk_nil) ⟨⟨_, _, _, rfl⟩, Gr.refl⟩ ?_) ?_
    · rintro done2 th rest2 e2 r S' ⟨⟨x8, x9, x10, rfl⟩, gr'⟩
      have hth2 : th ∈ things := by rw [show things = done2 ++ th :: rest2 by simpa using e2]; simp
      have hok := hall th hth2
      obtain ⟨xs, hxs⟩ := reprX_ok hok (Nat.le_refl _) (by decide)
      have ho' : S'.ob n6 = some (.lst ((ch q none).map .str)) := (gr'.2 n6 hnh).trans hoh
      have hn' : n6 < S'.nx := Nat.lt_of_lt_of_le hnh gr'.1
      refine ⟨[some (scr ns), some (.ref b), some d, some (qD q), some (qD q2), some sh, some (.ref n6), some (.lst things), some th, x9, x10, none], rfl, ?_⟩
      -- what is due
      have due : ∀ (Q : D → Sto → Prop), (∀ S2, Gr S' S2 → Q (.bl (isNonD th || formD q 5 (ch q none) th)) S2) → Wp (mOrV (mIsN (mV 8)) (mFn P_law_is_form.length (d_law_is_form 8) (mCons (mV 3) (mCons (mV 6) (mCons (mV 8) mNil)))) [some (scr ns), some (.ref b), some d, some (qD q), some (qD q2), some sh, some (.ref n6), some (.lst things), some th, x9, x10, none]) S' Q := fun Q k => by
        simp only [List.set_cons_succ, List.set_cons_zero, wipeR, wp_mSeq, wp_mIfS, wp_mSet, wp_mRet, wp_mDrop, wp_mNx, wp_mPar, wp_parF, wp_mB, wp_mBin, wp_mUn, wp_mCall, wp_mFn, wp_mNil, wp_mCons, wp_mTup, wp_mLst, wp_mIf, wp_mAndV, wp_mOrV, wp_mNotV, wp_mIsN, wp_mNotN, wp_asB, wp_asI, wp_mTru, wp_truB, wp_mAnd, wp_mOr, wp_mNot, wp_mYes, wp_mPart, wp_mSl, wp_mVs, wp_mV0, wp_mC, wp_ret, wp_sub, wp_addI, wp_lt, wp_le, wp_gt, wp_ge, wp_neg, wp_eqS, wp_lenT, wp_lenL, wp_tupT, wp_tupL, Bool.not_true, Bool.not_false, Bool.false_eq_true, if_true, if_false]
        cases hnd : isNonD th with
        | true =>
          simp only [List.set_cons_succ, List.set_cons_zero, wipeR, wp_mSeq, wp_mIfS, wp_mSet, wp_mRet, wp_mDrop, wp_mNx, wp_mPar, wp_parF, wp_mB, wp_mBin, wp_mUn, wp_mCall, wp_mFn, wp_mNil, wp_mCons, wp_mTup, wp_mLst, wp_mIf, wp_mAndV, wp_mOrV, wp_mNotV, wp_mIsN, wp_mNotN, wp_asB, wp_asI, wp_mTru, wp_truB, wp_mAnd, wp_mOr, wp_mNot, wp_mYes, wp_mPart, wp_mSl, wp_mVs, wp_mV0, wp_mC, wp_ret, wp_sub, wp_addI, wp_lt, wp_le, wp_gt, wp_ge, wp_neg, wp_eqS, wp_lenT, wp_lenL, wp_tupT, wp_tupL, Bool.not_true, Bool.not_false, Bool.false_eq_true, if_true, if_false]
          have := k S' Gr.refl
          rw [hnd] at this
          exact this
        | false =>
          simp only [List.set_cons_succ, List.set_cons_zero, wipeR, wp_mSeq, wp_mIfS, wp_mSet, wp_mRet, wp_mDrop, wp_mNx, wp_mPar, wp_parF, wp_mB, wp_mBin, wp_mUn, wp_mCall, wp_mFn, wp_mNil, wp_mCons, wp_mTup, wp_mLst, wp_mIf, wp_mAndV, wp_mOrV, wp_mNotV, wp_mIsN, wp_mNotN, wp_asB, wp_asI, wp_mTru, wp_truB, wp_mAnd, wp_mOr, wp_mNot, wp_mYes, wp_mPart, wp_mSl, wp_mVs, wp_mV0, wp_mC, wp_ret, wp_sub, wp_addI, wp_lt, wp_le, wp_gt, wp_ge, wp_neg, wp_eqS, wp_lenT, wp_lenL, wp_tupT, wp_tupL, Bool.not_true, Bool.not_false, Bool.false_eq_true, if_true, if_false]
          refine form_fn hq hn 8 4 (by decide) (ch_len hq) hok.tr (fun ds e => by cases e) (show srcOf (.ref n6) S' = some ⟨(ch q none).map .str, [(n6, (ch q none).map .str)]⟩ by unfold srcOf; simp only [ho']) (fun S3 g3 => srcOk_one.mpr ((g3.2 n6 hn').trans ho')) (fun e he => ⟨(mem_ch.mp he).1, by omega⟩) fun S3 g3 => ?_
          have := k S3 g3
          rw [hnd, Bool.false_or] at this
          exact this
      rw [wp_mSeq, wp_mPar, wp_mCons, wp_mCall]
      simp only [wp_mCons, wp_mNil, wp_mVs, wp_mV0]
      rw [hxs]
      refine due _ fun S2 g2 => ?_
      rw [wp_parF]
      simp only [List.set_cons_succ, List.set_cons_zero]
      have ht2 := (hth.gr gr').gr g2
      have shp : ∀ Q : D → Sto → Prop, Wp (if [qD q, th].length = P_is_shape.length then d_is_shape ts [qD q, th] else fail) S2 Q ↔ Q (.bl (isNonD th || formD q 5 (ch q none) th)) S2 := fun Q => shape_fn hq (by omega) ht2 hok.tr
      generalize (isNonD th || formD q 5 (ch q none) th) = bb at *
      simp only [List.set_cons_succ, List.set_cons_zero, wipeR, wp_mSeq, wp_mIfS, wp_mSet, wp_mRet, wp_mDrop, wp_mNx, wp_mPar, wp_parF, wp_mB, wp_mBin, wp_mUn, wp_mCall, wp_mFn, wp_mNil, wp_mCons, wp_mTup, wp_mLst, wp_mIf, wp_mAndV, wp_mOrV, wp_mNotV, wp_mIsN, wp_mNotN, wp_asB, wp_asI, wp_mTru, wp_truB, wp_mAnd, wp_mOr, wp_mNot, wp_mYes, wp_mPart, wp_mSl, wp_mVs, wp_mV0, wp_mC, wp_ret, wp_sub, wp_addI, wp_lt, wp_le, wp_gt, wp_ge, wp_neg, wp_eqS, wp_lenT, wp_lenL, wp_tupT, wp_tupL, Bool.not_true, Bool.not_false, Bool.false_eq_true, if_true, if_false, shp, alike_fn (OkD.bl (c := 0) (n := 0) (b := bb)) (Nat.zero_le _) (Nat.zero_le _), hxs, wp_neS, beq_self_eq_true]
      exact ⟨trivial, ⟨_, _, _, rfl⟩, gr'.trans g2⟩
    · rintro ⟨fl, r⟩ S' ⟨e1, ⟨x8, x9, x10, rfl⟩, gr'⟩
      have e1 : fl = .nx := e1
      subst e1
      simp only [List.set_cons_succ, List.set_cons_zero, wipeR, wp_mSeq, wp_mIfS, wp_mSet, wp_mRet, wp_mDrop, wp_mNx, wp_mPar, wp_parF, wp_mB, wp_mBin, wp_mUn, wp_mCall, wp_mFn, wp_mNil, wp_mCons, wp_mTup, wp_mLst, wp_mIf, wp_mAndV, wp_mOrV, wp_mNotV, wp_mIsN, wp_mNotN, wp_asB, wp_asI, wp_mTru, wp_truB, wp_mAnd, wp_mOr, wp_mNot, wp_mYes, wp_mPart, wp_mSl, wp_mVs, wp_mV0, wp_mC, wp_ret, wp_sub, wp_addI, wp_lt, wp_le, wp_gt, wp_ge, wp_neg, wp_eqS, wp_lenT, wp_lenL, wp_tupT, wp_tupL, Bool.not_true, Bool.not_false, Bool.false_eq_true, if_true, if_false]
      exact ⟨trivial, ⟨_, _, _, _, _, _, _, _, _, rfl⟩, gh.gr lth gr', Nat.lt_of_lt_of_le lth gr'.1, hth.gr gr'⟩
  · rintro ⟨fl, r⟩ S ⟨e1, _⟩
    have e1 : fl = .nx := e1
    subst e1
    simp only [List.set_cons_succ, List.set_cons_zero, wipeR, wp_mSeq, wp_mIfS, wp_mSet, wp_mRet, wp_mDrop, wp_mNx, wp_mPar, wp_parF, wp_mB, wp_mBin, wp_mUn, wp_mCall, wp_mFn, wp_mNil, wp_mCons, wp_mTup, wp_mLst, wp_mIf, wp_mAndV, wp_mOrV, wp_mNotV, wp_mIsN, wp_mNotN, wp_asB, wp_asI, wp_mTru, wp_truB, wp_mAnd, wp_mOr, wp_mNot, wp_mYes, wp_mPart, wp_mSl, wp_mVs, wp_mV0, wp_mC, wp_ret, wp_sub, wp_addI, wp_lt, wp_le, wp_gt, wp_ge, wp_neg, wp_eqS, wp_lenT, wp_lenL, wp_tupT, wp_tupL, Bool.not_true, Bool.not_false, Bool.false_eq_true, if_true, if_false]
end
end K56

open PySem PySem.W PyProof.Rows
set_option maxHeartbeats 0 in
theorem PySem.Challenge.cw_enoughlooks_k56_shapes_of_any_value_holds : PySem.Challenge.rw_enoughlooks_k56_shapes_of_any_value.Holds := by
  w_on; o_law; k_head; (case hw => w_witness2)
  k_fill
  refine Mn.walkGT (l := PySem.Challenge.rw_enoughlooks_k56_shapes_of_any_value) (n := 63) (k := 24) (x := "_law_script") (m := K56.d_law) (nm := ["path_of"]) (qs := ["path_of.<locals>.<lambda>"]) rfl (by decide) rfl ⟨rfl, by decide, by decide⟩ (fun w h Y => PySem.W.km_in_of Y) (by decide +kernel) rfl (by decide +kernel) (K56.law_true) ?F
  case F =>
    intro w mg fa h KX G hmg
    refine' K56.all_mk KX G hmg ?a1 ?l1 ?c1 ?k1 ?a2 ?l2 ?c2 ?k2 ?a3 ?l3 ?c3 ?k3 ?a4 ?l4 ?c4 ?k4 ?a5 ?l5 ?c5 ?k5 ?a6 ?l6 ?c6 ?k6 ?a7 ?l7 ?c7 ?k7 ?a8 ?l8 ?c8 ?k8 ?a9 ?l9 ?c9 ?k9 ?a10 ?l10 ?c10 ?k10 ?a11 ?l11 ?c11 ?k11 ?a12 ?l12 ?c12 ?k12 ?a13 ?l13 ?c13 ?k13 ?a14 ?l14 ?c14 ?k14 ?a15 ?l15 ?c15 ?k15 ?a16 ?l16 ?c16 ?k16 ?a17 ?l17 ?c17 ?k17 ?a18 ?l18 ?c18 ?k18 ?a19 ?l19 ?c19 ?k19 ?a20 ?l20 ?c20 ?k20 ?a21 ?l21 ?c21 ?k21 ?a22 ?l22 ?c22 ?k22 ?a23 ?l23 ?c23 ?k23 ?a24 ?l24 ?c24 ?k24 ?a25 ?l25 ?c25 ?k25 ?a26 ?l26 ?c26 ?k26 ?a27 ?l27 ?c27 ?k27 ?a28 ?l28 ?c28 ?k28 ?a29 ?l29 ?c29 ?k29 ?a30 ?l30 ?c30 ?k30 ?a31 ?l31 ?c31 ?k31 ?a32 ?l32 ?c32 ?k32 ?a33 ?l33 ?c33 ?k33 ?a34 ?l34 ?c34 ?k34 ?a35 ?l35 ?c35 ?k35 ?a36 ?l36 ?c36 ?k36 ?q0 ?t0 ?v0 ?n0 ?nd ?z_enumerate ?z_tuple ?z_all ?z_len ?z_sorted ?z_isinstance ?z_int ?z_bool ?z_zip ?z_repr ?z_set ?z_range ?z_str ?z_list ?z_abs
    (case a1 => k_is); (case l1 => k_is); (case c1 => k_is); (case k1 => k_is); (case a2 => k_is); (case l2 => k_is); (case c2 => k_is); (case k2 => k_is); (case a3 => k_is); (case l3 => k_is); (case c3 => k_is); (case k3 => k_is); (case a4 => k_is); (case l4 => k_is); (case c4 => k_is); (case k4 => k_is); (case a5 => k_is); (case l5 => k_is); (case c5 => k_is); (case k5 => k_is); (case a6 => k_is); (case l6 => k_is); (case c6 => k_is); (case k6 => k_is); (case a7 => k_is); (case l7 => k_is); (case c7 => k_is); (case k7 => k_is); (case a8 => k_is); (case l8 => k_is); (case c8 => k_is); (case k8 => k_is); (case a9 => k_is); (case l9 => k_is); (case c9 => k_is); (case k9 => k_is); (case a10 => k_is); (case l10 => k_is); (case c10 => k_is); (case k10 => k_is); (case a11 => k_is); (case l11 => k_is); (case c11 => k_is); (case k11 => k_is); (case a12 => k_is); (case l12 => k_is); (case c12 => k_is); (case k12 => k_is); (case a13 => k_is); (case l13 => k_is); (case c13 => k_is); (case k13 => k_is); (case a14 => k_is); (case l14 => k_is); (case c14 => k_is); (case k14 => k_is); (case a15 => k_is); (case l15 => k_is); (case c15 => k_is); (case k15 => k_is); (case a16 => k_is); (case l16 => k_is); (case c16 => k_is); (case k16 => k_is); (case a17 => k_is); (case l17 => k_is); (case c17 => k_is); (case k17 => k_is); (case a18 => k_is); (case l18 => k_is); (case c18 => k_is); (case k18 => k_is); (case a19 => k_is); (case l19 => k_is); (case c19 => k_is); (case k19 => k_is); (case a20 => k_is); (case l20 => k_is); (case c20 => k_is); (case k20 => k_is); (case a21 => k_is); (case l21 => k_is); (case c21 => k_is); (case k21 => k_is); (case a22 => k_is); (case l22 => k_is); (case c22 => k_is); (case k22 => k_is); (case a23 => k_is); (case l23 => k_is); (case c23 => k_is); (case k23 => k_is); (case a24 => k_is); (case l24 => k_is); (case c24 => k_is); (case k24 => k_is); (case a25 => k_is); (case l25 => k_is); (case c25 => k_is); (case k25 => k_is); (case a26 => k_is); (case l26 => k_is); (case c26 => k_is); (case k26 => k_is); (case a27 => k_is); (case l27 => k_is); (case c27 => k_is); (case k27 => k_is); (case a28 => k_is); (case l28 => k_is); (case c28 => k_is); (case k28 => k_is); (case a29 => k_is); (case l29 => k_is); (case c29 => k_is); (case k29 => k_is); (case a30 => k_is); (case l30 => k_is); (case c30 => k_is); (case k30 => k_is); (case a31 => k_is); (case l31 => k_is); (case c31 => k_is); (case k31 => k_is); (case a32 => k_is); (case l32 => k_is); (case c32 => k_is); (case k32 => k_is); (case a33 => k_is); (case l33 => k_is); (case c33 => k_is); (case k33 => k_is); (case a34 => k_is); (case l34 => k_is); (case c34 => k_is); (case k34 => k_is); (case a35 => k_is); (case l35 => k_is); (case c35 => k_is); (case k35 => k_is); (case a36 => k_is); (case l36 => k_is); (case c36 => k_is); (case k36 => k_is); (case q0 => rfl); (case t0 => k_is); (case v0 => rfl); (case n0 => kernel_rfl); (case nd => decide); (case z_enumerate => k_is); (case z_tuple => k_is); (case z_all => k_is); (case z_len => k_is); (case z_sorted => k_is); (case z_isinstance => k_is); (case z_int => k_is); (case z_bool => k_is); (case z_zip => k_is); (case z_repr => k_is); (case z_set => k_is); (case z_range => k_is); (case z_str => k_is); (case z_list => k_is); (case z_abs => k_is)

