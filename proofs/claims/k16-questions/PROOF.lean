import PyProof.Rows.All
import Wide.All
import OpenK.AllK
import HandS.ForMost
import HandS.Strs
import HandS.Zip
import HandS.Star
import HandS.TupAny
import HandS.Iter
import KE.GoesEnum
import KE.GoesZip
import KE.GoesMore
import Wide.FinOn
import HandS.Flow
import HandS.More
import HandS.Conv
import HandS.Wide
import HandS.RaiseMore
import KE.SortData
import HandS.TupSets
import HandS.Dict
import HandS.WordsDict
import HandS.SetFor
import HandS.IsInst
import PySem.Challenge.RW_enoughlooks_k16_questions_looked_into
set_option Elab.async false
set_option linter.all false
set_option maxRecDepth 100000
set_option maxHeartbeats 1000000
/-! Mn: tuples whose very object is known (so that their methods may be called). To take the place of the hand layer's rules that make tuples. -/
namespace Mn
open PySem PySem.Spec PyProof.Rows L2 PySem.W
section
variable {X : Cx} {es : List Expr} {t : TA} {pos : Pos}
/-- a new tuple, its object known -/
def newT (H : Hp) (xs : List V) (Q : VK) : Prop := ∀ (p : Addr) (o : Obj), H p = none → o.cls = .type "tuple" → o.dict = none → Q (.ref p) (upd H p (.frz o (.tup xs)))
theorem newT_ok {pins : List (Addr × Obj)} {sg : L2.St} {H : Hp} {s : Shared} {xs : List V} {its : List Value} {Q : VK} (I : Inv X pins sg H s) (hz : xs.length ≤ sizeLine) (r : Vals xs its) (q : newT H xs Q) :
    EP X pins sg Q (.ref s.heap.objs.size) { s with heap := s.heap.push { cls := .type "tuple", data := .seq its.toArray } } := by
  have hf : H s.heap.objs.size = none := I.hok.fresh (Nat.le_refl _)
  refine ⟨.ref s.heap.objs.size, upd H s.heap.objs.size (.frz { cls := .type "tuple", data := .seq its.toArray } (.tup xs)), I.laid (t' := s.toks) (fun b u e => Heap.get?_push_of_some _ e) (Nat.le_refl _) ?_, rfl, q _ _ hf rfl rfl⟩
  exact ⟨Heap.get?_push_size _ rfl, hz, its, r, ⟨_, Heap.get?_push_size _ rfl, rfl, _, rfl⟩⟩
def tTupF (t : TA) : TE := fun sg H Q => t sg H fun xs H1 => xs.length ≤ sizeLine ∧ newT H1 xs Q
theorem pe_tupF {x1} (h : PA X es t) : PE X (.Tuple es x1 pos) (tTupF t) := by
  refine ⟨fun pins s sg H Q I hq => ?_⟩
  refine wpAny_Tuple_spliced (thn (h.run pos pins s sg H _ I hq) fun us s1 ⟨xs, H1, I1, r, z, q⟩ => ⟨by rw [← r.length]; exact z, ?_⟩)
  exact newT_ok I1 z r q
theorem call_tupF : CallR X (.type "tuple") (fun xs H Q => ∃ p ys, xs = [.ref p] ∧ ((SqL X.K H p ys ∧ newT H ys Q) ∨ (SqT X.K H p ys ∧ Q (.ref p) H))) := by
  intro pins s sg H xs us Q I r h
  obtain ⟨p, ys, rfl, h⟩ := h
  obtain ⟨u, rfl, rx⟩ := vals1 r
  cases rx
  rcases h with ⟨hq, q⟩ | ⟨hq, q⟩
  · obtain ⟨its, r', pl, hz⟩ := I.list hq
    have hlen := r'.length
    refine call_tuple_list pl.isList (fun h' kp => ?_) (by simp only [List.size_toArray] <;> omega)
    exact newT_ok (I.kept (t' := s.toks) kp) hz r' q
  · obtain ⟨its, r', pl, hz⟩ := I.tuple hq
    exact call_tuple_same pl ⟨.ref p, H, I, rfl, q⟩
/-- a tuple with no dict: tracked with its object, or of the written part -/
def TupF (K : PySem.W.Frag) (H : Hp) (a : Addr) (xs : List V) : Prop := (∃ o, H a = some (.frz o (.tup xs)) ∧ o.cls = .type "tuple" ∧ o.dict = none) ∨ ((∃ o, K.lookup a = some o ∧ o.cls = .type "tuple" ∧ o.dict = none) ∧ SqT K (fun _ => none) a xs)
theorem TupF.obj {pins : List (Addr × Obj)} {sg : L2.St} {H : Hp} {s : Shared} {a : Addr} {xs : List V} (I : Inv X pins sg H s) (h : TupF X.K H a xs) : ∃ ob, s.heap.get? a = some ob ∧ ob.cls = .type "tuple" ∧ ob.dict = none := by
  rcases h with ⟨o, h1, h2, h3⟩ | ⟨⟨o, h1, h2, h3⟩, _⟩
  · exact ⟨o, (I.hok a _ h1).1, h2, h3⟩
  · exact ⟨o, I.kIn a o h1, h2, h3⟩
variable {o e : Expr} {to : TE} {name : Str} {apos cpos : Pos} {id : String} {r : V → List V → Hp → VK → Prop}
def tBMT (K : PySem.W.Frag) (r : V → List V → Hp → VK → Prop) (to : TE) (t : TA) : TE := fun sg H Q => to sg H fun x H1 => (∃ a xs, x = .ref a ∧ TupF K H1 a xs) ∧ t sg H1 fun ys H2 => r x ys H2 Q
/-- t.m(e, ..) of a tuple -/
theorem pe_bmT (pa : PlainAttrs "tuple") (slot : Slot "tuple" name id) (hty : typeOf (.builtin id) = pure (.type "method_descriptor")) (hm : MtR X id r) (ho : PE X o to) (ha : PA X (e :: es) t)
    (hbase : attributeBase o name X.env (eval o X.env) = eval o X.env := by rfl)
    (hfew : ((backTo cpos (starEach (e :: es) X.env)).all (fun x => !x.1) && (backToKw cpos (keywordEach [] X.env)).all (fun x => x.1.isSome)
      && decide ((e :: es).length + ([] : List Keyword).length + (if ([] : List Keyword).isEmpty then 0 else 1) < 30)) = true := by rfl)
    (hline : (apos.endLine == cpos.line) = true := by rfl) (hs : starEach (e :: es) X.env = (false, eval e X.env) :: starEach es X.env := by rfl) (hplain : (backTo cpos (starEach es X.env)).any (·.1) = false := by rfl) :
    PE X (.Call (.Attribute o name apos) (e :: es) [] cpos) (tBMT X.K r to t) := by
  refine ⟨fun pins s sg H Q I h => ?_⟩
  refine wpAny_Call_method_late hbase hfew hline rfl (thn (ho.run pins s sg H _ I h) fun v s1 ⟨x, H1, I1, r1, ⟨a, xs, ex, tf⟩, q1⟩ => ?_)
  subst ex
  obtain rfl : v = Value.ref a := r1
  obtain ⟨ob, h1, h2, h3⟩ := tf.obj I1
  refine ⟨"tuple", id, pa, slot, hty, ⟨ob, h1, h2⟩, fun b (hb : Value.ref a = Value.ref b) => ?_, ?_⟩
  · cases hb; exact ⟨ob, h1, h3⟩
  · have hA := ha.run cpos pins s1 sg H1 _ I1 q1
    rw [hs] at hA ⊢
    refine Calls.callWith_builtin (by show (false || (backTo cpos (starEach es X.env)).any (·.1)) = false; rw [hplain] <;> rfl) (Calls.evalArgs_plain ?_)
    exact thn hA fun us s2 ⟨vs, H2, I2, r2, q2⟩ => hm pins s2 sg H2 (.ref a) vs (.ref a) us Q I2 rfl r2 q2
/-- t + u -/
def rCatF (K : PySem.W.Frag) : R2 := fun x y H Q => ∃ a b xs ys, x = .ref a ∧ y = .ref b ∧ SqT K H a xs ∧ SqT K H b ys ∧ xs.length + ys.length ≤ sizeLine ∧
  (xs = [] → Q (.ref b) H) ∧ (xs ≠ [] → ys = [] → Q (.ref a) H) ∧ (xs ≠ [] → ys ≠ [] → newT H (xs ++ ys) Q)
theorem op_catF : OpR X (binaryOp .Add) (rCatF X.K) := by
  intro pins s sg H x y v u Q I rx ry h
  obtain ⟨a, b, xs, ys, rfl, rfl, ha, hb, hz, q0, q1, q2⟩ := h
  by_cases hx : xs = []
  · exact op_catA pins s sg H _ _ v u Q I rx ry ⟨a, b, xs, ys, rfl, rfl, ha, hb, hz, q0, fun h => absurd hx h, fun h => absurd hx h⟩
  · cases rx
    cases ry
    obtain ⟨its, r1, p1, _⟩ := I.tuple ha
    obtain ⟨its2, r2, p2, _⟩ := I.tuple hb
    refine HT.cat_tup p1 p2 (fun z => hx (r1.nil_iff.mp z)) (fun z => ⟨.ref a, H, I, rfl, q1 hx (r2.nil_iff.mp z)⟩) (fun z => ?_) (by rw [← r1.length, ← r2.length]; exact hz)
    exact newT_ok I (by rw [List.length_append]; exact hz) (r1.append r2) (q2 hx fun w => z (r2.nil_iff.mpr w))
/-- t[lo:hi] -/
def rSlF (K : PySem.W.Frag) : V → Option Int → Option Int → Hp → VK → Prop := fun x lo hi H Q => ∃ a xs, x = .ref a ∧ SqT K H a xs ∧
  (HT.sIx xs.length 0 lo = 0 ∧ HT.sIx xs.length xs.length hi = xs.length → Q (.ref a) H) ∧ (¬ (HT.sIx xs.length 0 lo = 0 ∧ HT.sIx xs.length xs.length hi = xs.length) → newT H (cutV xs lo hi) Q)
theorem sl_tupF : SlR X (rSlF X.K) := by
  intro pins s sg H x v vl vu lo hi sl Q I rx hs pl pu h
  obtain ⟨a, xs, rfl, hx, q1, q2⟩ := h
  by_cases hw : HT.sIx xs.length 0 lo = 0 ∧ HT.sIx xs.length xs.length hi = xs.length
  · exact sl_tupA pins s sg H _ v vl vu lo hi sl Q I rx hs pl pu ⟨a, xs, rfl, hx, q1, fun h => absurd hw h⟩
  · cases rx
    obtain ⟨its, r, ht, hz⟩ := I.tuple hx
    have hlen : its.toArray.size = xs.length := by rw [List.size_toArray]; exact r.length.symm
    refine ⟨"tuple", _, PyProof.Rows.slot_tuple_getitem.lookup, ht.typeIs, ?_⟩
    refine HT.getItem_tuple_cut ht hs pl pu (by rw [hlen]; exact hw) ?_ (by rw [hlen]; exact hz)
    rw [hlen]
    exact newT_ok I (Nat.le_trans (cutV_length xs lo hi) hz) ((r.drop (HT.sIx xs.length 0 lo)).take (HT.sIx xs.length xs.length hi - HT.sIx xs.length 0 lo)) (q2 hw)
end
theorem enum_new1 {v : Value} {o : Obj} {Hh : Heap → Prop} (B : Begins v o Hh) :
    Meets (Builtin.«enumerate.__new__» ⟨[.type "enumerate", v], []⟩) (fun _ R s => Hh s.heap ∧
      R (.ok (.ret (.ref (s.heap.push o).objs.size))) { s with heap := (s.heap.push o).push { cls := .type "enumerate", data := .fields #[.none, .bool false, .ref s.heap.objs.size, rawInt 0, .none, .none] } }) :=
  .of_wp fun prog w A R s h => by
    obtain ⟨hp, g, d, tk, os⟩ := s
    obtain ⟨h1, h⟩ := h
    have hsub := sub_enumerate
    have q1 : ∀ {A' : Around} {E : Value → Shared → Prop} {Q : Value → Shared → Prop}, Q (.ref hp.objs.size) ⟨hp.push o, g, d, tk, os⟩ → wpAny (model prog w) A' (pyIter v) Q E ⟨hp, g, d, tk, os⟩ :=
      fun q => B.iter prog w _ _ ⟨hp, g, d, tk, os⟩ _ h1 q
    wp_walk using q1
    refine wpAny_stack_any fun st => wpAny_pure ?_
    split
    · rename_i c _ _ _ _ _
      cases (c == Value.type "enumerate")
      · wp_walk using q1
        exact ⟨_, rfl, h⟩
      · wp_walk using q1
        exact ⟨_, rfl, h⟩
    · wp_walk using q1
      exact ⟨_, rfl, h⟩
section
variable {prog : Program} {w : World} {A : Around} {E : Value → Shared → Prop} {s : Shared}
theorem enum_start {v : Value} {o : Obj} {Hh : Heap → Prop} {Q : Value → Shared → Prop} (B : Begins v o Hh) (h1 : Hh s.heap)
    (h : ∀ h', IsEnum h' (s.heap.objs.size + 1) s.heap.objs.size 0 .none → h'.get? s.heap.objs.size = some o → h'.objs.size = s.heap.objs.size + 2 →
      (∀ b o, s.heap.get? b = some o → h'.get? b = some o) → Q (.ref (s.heap.objs.size + 1)) { s with heap := h' }) :
    wpAny (model prog w) A (call (.type "enumerate") [v]) Q E s := by
  refine callType_new F.called_enumerate (by decide) (F.typeCall_enumerate_1 _) (F.newCall_enumerate_1 _) (fun obj => F.args_object_init_2 obj _) F.entry_enumerate_new (enum_new1 B) ⟨h1, ?_⟩
  have hz : (s.heap.push o).objs.size = s.heap.objs.size + 1 := Heap.size_push ..
  show _ ∧ _
  rw [hz]
  have he : IsEnum ((s.heap.push o).push { cls := .type "enumerate", data := .fields #[.none, .bool false, .ref s.heap.objs.size, rawInt 0, .none, .none] }) (s.heap.objs.size + 1) s.heap.objs.size 0 .none := by
    have := Heap.get?_push_size (s.heap.push o) (o := { cls := .type "enumerate", data := .fields #[.none, .bool false, .ref s.heap.objs.size, rawInt 0, .none, .none] }) rfl
    rw [hz] at this; exact this
  exact ⟨⟨_, he, rfl⟩, h _ he (Heap.get?_push_of_some _ (Heap.get?_push_size _ B.free)) (by rw [Heap.size_push, hz]) fun b o x => Heap.get?_push_of_some _ (Heap.get?_push_of_some _ x)⟩
end
/-- the tuple at a, each item in a new pair -/
def IteTF (K : PySem.W.Frag) (a : Addr) : It :=
  ⟨fun i H => ∃ (xs : List V) (x : V), SqT K H a xs ∧ xs[i]? = some x, fun i H v H' => ∃ T o x, v = .ref T ∧ H T = none ∧ (o.cls = .type "tuple" ∧ o.dict = none) ∧ H' = upd H T (.frz o (.tup [.int (i : Nat), x])) ∧ ∀ xs, SqT K H a xs → xs[i]? = some x, fun i H => ∃ xs : List V, SqT K H a xs ∧ xs.length ≤ i⟩
theorem turn_enumTF {P : Program} {w : World} {K : PySem.W.Frag} {elts : List Expr} {kk : Nat} {tpos : Pos} (a e it : Addr) (hae : a ≠ e) (hai : a ≠ it) :
    Turn P w K (.Tuple elts kk tpos) (IteTF K a) [e, it] e (fun i h => (∃ old, IsEnum h e it ((i : Nat) : Int) old) ∧ h.IsTupleIter it a i ∧ e ≠ it) where
  mem := by simp
  obj := fun i h st b hb => by
    obtain ⟨⟨old, he⟩, ⟨o, ho, hc, hd⟩, _⟩ := st
    have e' : b = e ∨ b = it := by simpa using hb
    rcases e' with z | z
    · rw [z]; exact ⟨_, he, fun v q => nomatch q⟩
    · rw [z]; exact ⟨o, ho, fun v q => by rw [hd] at q; cases q⟩
  keep := fun i h h' st k => let ⟨⟨old, he⟩, hi, hne⟩ := st; ⟨⟨old, k e (by simp) _ he⟩, hi.at fun o q => k it (by simp) o q, hne⟩
  item := by
    intro X hP hw hK hc i pins s sg H E I hf st hg
    subst hP hw hK
    obtain ⟨⟨old, he⟩, hit, hne⟩ := st
    obtain ⟨xs, x, hq, hx⟩ := hg
    obtain ⟨its, rv, p, hz⟩ := I.tuple hq
    obtain ⟨u, hu, ru⟩ := rv.get hx
    have hlen : i < its.toArray.size := by
      rw [List.size_toArray]
      exact (List.getElem?_eq_some_iff.mp hu).1
    have hel : e < s.heap.objs.size := Heap.lt_size he
    have hil : it < s.heap.objs.size := by obtain ⟨_, q, _⟩ := hit; exact Heap.lt_size q
    have D := Draws.tuple (prog := X.prog) (w := X.w) (A := X.A.in1) (I.ok.hd hc) it a hai its.toArray
    refine wpAny_pyNext_enum_itemD D he ⟨hit, p⟩ hlen hne (by simp [hne, Ne.symm hae]) fun v h' tk hv ho hst' hT hsz hk => ?_
    have hv : v = u := by
      have h1 : its[i]? = some v := by simpa using hv
      rw [hu] at h1
      exact (Option.some.inj h1).symm
    subst hv
    refine ⟨_, rfl, wpAny_letOwnedTupleGo_enum (s := { s with heap := h', toks := tk + 1 }) ho fun h'' he' sb => ?_⟩
    have hT2 : h''.get? s.heap.objs.size = some { cls := .type "tuple", data := .seq #[.int i tk, v] } := (sb.2 _ (Nat.ne_of_gt hel)).trans hT
    have new : ObjOk X.prog X.w (upd H s.heap.objs.size (.frz { cls := .type "tuple", data := .seq #[.int i tk, v] } (.tup [.int (i : Nat), x]))) h'' s.heap.objs.size (.frz { cls := .type "tuple", data := .seq #[.int i tk, v] } (.tup [.int (i : Nat), x])) :=
      ⟨hT2, by show 2 ≤ sizeLine; decide, [.int i tk, v], .cons ⟨_, rfl⟩ (.cons ru .nil), ⟨_, hT2, rfl, _, rfl⟩⟩
    have I1 : Inv X pins sg (upd H s.heap.objs.size (.frz { cls := .type "tuple", data := .seq #[.int i tk, v] } (.tup [.int (i : Nat), x]))) { s with heap := h'', toks := tk + 1 } :=
      I.turnedNew (ch := [e, it]) (fun b ob hb q => (sb.2 b (fun z => hb (by simp [z]))).trans (hk b ob (fun z => hb (by simp [z])) (fun z => hb (by simp [z])) q)) hf (Nat.le_refl _) new
    refine ⟨.ref s.heap.objs.size, _, I1, rfl, ⟨_, _, x, rfl, I.hok.fresh (Nat.le_refl _), ⟨rfl, rfl⟩, rfl, fun ys hy => by rw [I.tuple_inj hy hq]; exact hx⟩, ⟨⟨v, ?_⟩, hst'.1.at fun o q => (sb.2 it (Ne.symm hne)).trans q, hne⟩, fun b hb => ?_⟩
    · have e1 : ((i + 1 : Nat) : Int) = (i : Int) + 1 := by omega
      rw [e1]; exact he'
    · have hb' : b < s.heap.objs.size := by
        have e' : b = e ∨ b = it := by simpa using hb
        rcases e' with z | z
        · rw [z]; exact hel
        · rw [z]; exact hil
      rw [upd_ne (Nat.ne_of_lt hb')]
      exact (hf b hb).1
  done := by
    intro X hP hw hK hc i pins s sg H E I hf st hg
    subst hP hw hK
    obtain ⟨⟨old, he⟩, hit, hne⟩ := st
    obtain ⟨xs, hq, hx⟩ := hg
    obtain ⟨its, rv, p, hz⟩ := I.tuple hq
    obtain ⟨f0, f1, f2, f3, f4, f5⟩ := hf it (by simp)
    have hl := rv.length
    have hT : s.TypeIs (.ref e) "enumerate" := ⟨_, he, rfl⟩
    unfold pyNext
    refine wpAny_bind (wpAny_attempt (wpAny_callSpecial?_slot (name := Str.ofString "__next__") hT F.slot_enumerate_next (wpAny_call_entry F.slot_enumerate_next hT F.entry_enumerate_next ?_ (F.args_enumerate_next_1 _))))
    show wpAny _ _ (field (.ref e) 2 >>= _) _ _ _
    refine wpAny_bind (wpAny_field he rfl (x := .ref it) rfl ?_)
    refine wpAny_bind (wpAny_nextOf_tuple_end (I.ok.hd hc) hit (show s.heap.IsTuple a its.toArray from p) (by simp; omega) fun h' x he' hx' => ?_)
    obtain ⟨o, ho, hc'⟩ := hx'
    refine wpAny_bind (wpAny_isInstance (T := "StopIteration") (b := true) ⟨o, ho, hc'⟩ isSubtype_stop ?_)
    exact wpAny_pure ⟨rfl, I.turned (t' := s.toks) (fun b o hb q => he' b o hb q) f0 f1 f3 f4 f5⟩
  self := fun A i s Q E st h => let ⟨⟨_, he⟩, _⟩ := st; wpAny_pyIter_enum he h
/-- the list at a, each item in a new pair -/
def IteLF (K : PySem.W.Frag) (a : Addr) : It :=
  ⟨fun i H => ∃ (xs : List V) (x : V), SqL K H a xs ∧ xs[i]? = some x, fun i H v H' => ∃ T o x, v = .ref T ∧ H T = none ∧ (o.cls = .type "tuple" ∧ o.dict = none) ∧ H' = upd H T (.frz o (.tup [.int (i : Nat), x])) ∧ ∀ xs, SqL K H a xs → xs[i]? = some x, fun i H => ∃ xs : List V, SqL K H a xs ∧ xs.length ≤ i⟩
theorem turn_enumLF {P : Program} {w : World} {K : PySem.W.Frag} {elts : List Expr} {kk : Nat} {tpos : Pos} (a e it : Addr) (hae : a ≠ e) (hai : a ≠ it) :
    Turn P w K (.Tuple elts kk tpos) (IteLF K a) [e, it] e (fun i h => (∃ old, IsEnum h e it ((i : Nat) : Int) old) ∧ h.IsListIter it a i ∧ e ≠ it) where
  mem := by simp
  obj := fun i h st b hb => by
    obtain ⟨⟨old, he⟩, ⟨o, ho, hc, hd⟩, _⟩ := st
    have e' : b = e ∨ b = it := by simpa using hb
    rcases e' with z | z
    · rw [z]; exact ⟨_, he, fun v q => nomatch q⟩
    · rw [z]; exact ⟨o, ho, fun v q => by rw [hd] at q; cases q⟩
  keep := fun i h h' st k => let ⟨⟨old, he⟩, hi, hne⟩ := st; ⟨⟨old, k e (by simp) _ he⟩, hi.at fun o q => k it (by simp) o q, hne⟩
  item := by
    intro X hP hw hK hc i pins s sg H E I hf st hg
    subst hP hw hK
    obtain ⟨⟨old, he⟩, hit, hne⟩ := st
    obtain ⟨xs, x, hq, hx⟩ := hg
    obtain ⟨its, rv, p, hz⟩ := I.list hq
    obtain ⟨u, hu, ru⟩ := rv.get hx
    have hlen : i < its.toArray.size := by
      rw [List.size_toArray]
      exact (List.getElem?_eq_some_iff.mp hu).1
    have hel : e < s.heap.objs.size := Heap.lt_size he
    have hil : it < s.heap.objs.size := by obtain ⟨_, q, _⟩ := hit; exact Heap.lt_size q
    have D := Draws.list (prog := X.prog) (w := X.w) (A := X.A.in1) (I.ok.hd hc) it a hai its.toArray
    refine wpAny_pyNext_enum_itemD D he ⟨hit, p.isList⟩ hlen hne (by simp [hne, Ne.symm hae]) fun v h' tk hv ho hst' hT hsz hk => ?_
    have hv : v = u := by
      have h1 : its[i]? = some v := by simpa using hv
      rw [hu] at h1
      exact (Option.some.inj h1).symm
    subst hv
    refine ⟨_, rfl, wpAny_letOwnedTupleGo_enum (s := { s with heap := h', toks := tk + 1 }) ho fun h'' he' sb => ?_⟩
    have hT2 : h''.get? s.heap.objs.size = some { cls := .type "tuple", data := .seq #[.int i tk, v] } := (sb.2 _ (Nat.ne_of_gt hel)).trans hT
    have new : ObjOk X.prog X.w (upd H s.heap.objs.size (.frz { cls := .type "tuple", data := .seq #[.int i tk, v] } (.tup [.int (i : Nat), x]))) h'' s.heap.objs.size (.frz { cls := .type "tuple", data := .seq #[.int i tk, v] } (.tup [.int (i : Nat), x])) :=
      ⟨hT2, by show 2 ≤ sizeLine; decide, [.int i tk, v], .cons ⟨_, rfl⟩ (.cons ru .nil), ⟨_, hT2, rfl, _, rfl⟩⟩
    have I1 : Inv X pins sg (upd H s.heap.objs.size (.frz { cls := .type "tuple", data := .seq #[.int i tk, v] } (.tup [.int (i : Nat), x]))) { s with heap := h'', toks := tk + 1 } :=
      I.turnedNew (ch := [e, it]) (fun b ob hb q => (sb.2 b (fun z => hb (by simp [z]))).trans (hk b ob (fun z => hb (by simp [z])) (fun z => hb (by simp [z])) q)) hf (Nat.le_refl _) new
    refine ⟨.ref s.heap.objs.size, _, I1, rfl, ⟨_, _, x, rfl, I.hok.fresh (Nat.le_refl _), ⟨rfl, rfl⟩, rfl, fun ys hy => by rw [I.list_inj hy hq]; exact hx⟩, ⟨⟨v, ?_⟩, hst'.1.at fun o q => (sb.2 it (Ne.symm hne)).trans q, hne⟩, fun b hb => ?_⟩
    · have e1 : ((i + 1 : Nat) : Int) = (i : Int) + 1 := by omega
      rw [e1]; exact he'
    · have hb' : b < s.heap.objs.size := by
        have e' : b = e ∨ b = it := by simpa using hb
        rcases e' with z | z
        · rw [z]; exact hel
        · rw [z]; exact hil
      rw [upd_ne (Nat.ne_of_lt hb')]
      exact (hf b hb).1
  done := by
    intro X hP hw hK hc i pins s sg H E I hf st hg
    subst hP hw hK
    obtain ⟨⟨old, he⟩, hit, hne⟩ := st
    obtain ⟨xs, hq, hx⟩ := hg
    obtain ⟨its, rv, p, hz⟩ := I.list hq
    obtain ⟨f0, f1, f2, f3, f4, f5⟩ := hf it (by simp)
    have hl := rv.length
    have hT : s.TypeIs (.ref e) "enumerate" := ⟨_, he, rfl⟩
    unfold pyNext
    refine wpAny_bind (wpAny_attempt (wpAny_callSpecial?_slot (name := Str.ofString "__next__") hT F.slot_enumerate_next (wpAny_call_entry F.slot_enumerate_next hT F.entry_enumerate_next ?_ (F.args_enumerate_next_1 _))))
    show wpAny _ _ (field (.ref e) 2 >>= _) _ _ _
    refine wpAny_bind (wpAny_field he rfl (x := .ref it) rfl ?_)
    refine wpAny_bind (wpAny_nextOf_list_end (I.ok.hd hc) hit p.isList (by simp; omega) fun h' x he' hx' => ?_)
    obtain ⟨o, ho, hc'⟩ := hx'
    refine wpAny_bind (wpAny_isInstance (T := "StopIteration") (b := true) ⟨o, ho, hc'⟩ isSubtype_stop ?_)
    exact wpAny_pure ⟨rfl, I.turned (t' := s.toks) (fun b o hb q => he' b o hb q) f0 f1 f3 f4 f5⟩
  self := fun A i s Q E st h => let ⟨⟨_, he⟩, _⟩ := st; wpAny_pyIter_enum he h
def iEnumF (K : PySem.W.Frag) (ta : TA) : TI := fun sg H R => ta sg H fun vs H1 => ∃ a xs, vs = [.ref a] ∧ ((SqL K H1 a xs ∧ R (IteLF K a) H1) ∨ (SqT K H1 a xs ∧ R (IteTF K a) H1))
theorem pi_enumF {X : Cx} {e : Expr} {ta : TA} {p pos tpos : Pos} {elts : List Expr} {kk : Nat} (hg : Gl X "enumerate") (hm : X.mg "enumerate" = none) (ha : PA X [e] ta) (hs : starEach [e] X.env = [(false, eval e X.env)] := by rfl) :
    PI X (.Tuple elts kk tpos) (.Call (.Name "enumerate" p) [e] [] pos) (iEnumF X.K ta) := by
  refine ⟨fun pins s sg H R I h => ?_⟩
  refine Call_ (ld_blt I hg hm boot_enumerate (PyProof.Rows.callWith_type1 (thn (ha.run pos pins s sg H _ I h) fun us s1 ⟨vs, H1, I1, r1, q1⟩ => ?_) hs rfl))
  obtain ⟨a, xs, ex, q⟩ := q1
  subst ex
  cases r1 with
  | cons r rr =>
    cases rr
    cases r
    have fp : ∀ b ∈ [s1.heap.objs.size + 1, s1.heap.objs.size], FpOk X pins H1 b := fun b hb => by
      have e' : b = s1.heap.objs.size + 1 ∨ b = s1.heap.objs.size := by simpa using hb
      have hle : s1.heap.objs.size ≤ b := by rcases e' with z | z <;> omega
      exact I1.fpOk hle (I1.hok.fresh hle)
    rcases q with ⟨hq, q⟩ | ⟨hq, q⟩
    · obtain ⟨its, rv, p', hz⟩ := I1.list hq
      have hlt : a < s1.heap.objs.size := by obtain ⟨o, e1, _⟩ := p'.isList; exact Heap.lt_size e1
      refine call_enumerate_list p'.isList fun h' he hit hsz hk => wpAny_pyIter_enum he ?_
      exact ⟨s1.heap.objs.size + 1, [s1.heap.objs.size + 1, s1.heap.objs.size], _, _, H1, rfl, I1.kept (t' := s1.toks) hk, turn_enumLF a (s1.heap.objs.size + 1) s1.heap.objs.size (Nat.ne_of_lt (Nat.lt_succ_of_lt hlt)) (Nat.ne_of_lt hlt), ⟨⟨.none, he⟩, hit, Nat.succ_ne_self _⟩, fp, q⟩
    · obtain ⟨its, rv, p', hz⟩ := I1.tuple hq
      have hlt : a < s1.heap.objs.size := by obtain ⟨o, e1, _⟩ := p'; exact Heap.lt_size e1
      refine enum_start (begins_tuple a its.toArray) p' fun h' he hit hsz hk => wpAny_pyIter_enum he ?_
      exact ⟨s1.heap.objs.size + 1, [s1.heap.objs.size + 1, s1.heap.objs.size], _, _, H1, rfl, I1.kept (t' := s1.toks) hk, turn_enumTF a (s1.heap.objs.size + 1) s1.heap.objs.size (Nat.ne_of_lt (Nat.lt_succ_of_lt hlt)) (Nat.ne_of_lt hlt), ⟨⟨.none, he⟩, ⟨_, hit, rfl, rfl⟩, Nat.succ_ne_self _⟩, fp, q⟩
/-- the lists at a and b, the items in new pairs -/
def ItzLF (K : PySem.W.Frag) (a b : Addr) : It :=
  ⟨fun i H => ∃ (xs ys : List V) (x y : V), SqL K H a xs ∧ SqL K H b ys ∧ xs[i]? = some x ∧ ys[i]? = some y,
    fun i H v H' => ∃ T o x y, v = .ref T ∧ H T = none ∧ (o.cls = .type "tuple" ∧ o.dict = none) ∧ H' = upd H T (.frz o (.tup [x, y])) ∧ (∀ xs, SqL K H a xs → xs[i]? = some x) ∧ ∀ ys, SqL K H b ys → ys[i]? = some y,
    fun i H => ∃ xs ys : List V, SqL K H a xs ∧ SqL K H b ys ∧ (xs.length ≤ i ∨ ys.length ≤ i)⟩
theorem turn_zipLF {P : Program} {w : World} {K : PySem.W.Frag} {elts : List Expr} {kk : Nat} {tpos : Pos} {a b z TI TO i1 i2 : Addr} (D : ZipApart z TI TO i1 i2 a b) :
    Turn P w K (.Tuple elts kk tpos) (ItzLF K a b) [z, TI, TO, i1, i2] z (fun i h => IsZip h z TI TO .none ∧ IsPair h TI (.ref i1) (.ref i2) ∧ (∃ x y, IsPair h TO x y) ∧ h.IsListIter i1 a i ∧ h.IsListIter i2 b i) where
  mem := by simp
  obj := fun i h st c hc => by
    obtain ⟨hz, hTI, ⟨x, y, hTO⟩, ⟨o1, e1, _, d1⟩, ⟨o2, e2, _, d2⟩⟩ := st
    have e' : c = z ∨ c = TI ∨ c = TO ∨ c = i1 ∨ c = i2 := by simpa using hc
    rcases e' with q | q | q | q | q
    · rw [q]; exact ⟨_, hz, fun v q => nomatch q⟩
    · rw [q]; exact ⟨_, hTI, fun v q => nomatch q⟩
    · rw [q]; exact ⟨_, hTO, fun v q => nomatch q⟩
    · rw [q]; exact ⟨o1, e1, fun v q => by rw [d1] at q; cases q⟩
    · rw [q]; exact ⟨o2, e2, fun v q => by rw [d2] at q; cases q⟩
  keep := fun i h h' st k => by
    obtain ⟨hz, hTI, ⟨x, y, hTO⟩, h1, h2⟩ := st
    exact ⟨k z (by simp) _ hz, k TI (by simp) _ hTI, ⟨x, y, k TO (by simp) _ hTO⟩, h1.at fun o q => k i1 (by simp) o q, h2.at fun o q => k i2 (by simp) o q⟩
  item := by
    intro X hP hw hK hc i pins s sg H E I hf st hg
    subst hP hw hK
    obtain ⟨hz, hTI, ⟨x0, y0, hTO⟩, h1, h2⟩ := st
    obtain ⟨xs, ys, x, y, hqx, hqy, hx, hy⟩ := hg
    obtain ⟨its, rv, p, _⟩ := I.list hqx
    obtain ⟨its2, rv2, p2, _⟩ := I.list hqy
    obtain ⟨u, hu, ru⟩ := rv.get hx
    obtain ⟨u2, hu2, ru2⟩ := rv2.get hy
    have hzl : z < s.heap.objs.size := Heap.lt_size hz
    refine wpAny_pyNext_zip_item D hz hTI hTO h1 h2 p.isList p2.isList (x := u) (y := u2) (by simpa using hu) (by simpa using hu2) fun h' z' TO' h1' h2' hT hsz hk => ?_
    refine ⟨_, rfl, wpAny_letOwnedTupleGo_zip (s := { s with heap := h' }) z' fun h'' z'' sb => ?_⟩
    have hT2 : h''.get? s.heap.objs.size = some { cls := .type "tuple", data := .seq #[u, u2] } := (sb.2 _ (Nat.ne_of_gt hzl)).trans hT
    have new : ObjOk X.prog X.w (upd H s.heap.objs.size (.frz { cls := .type "tuple", data := .seq #[u, u2] } (.tup [x, y]))) h'' s.heap.objs.size (.frz { cls := .type "tuple", data := .seq #[u, u2] } (.tup [x, y])) :=
      ⟨hT2, by show 2 ≤ sizeLine; decide, [u, u2], .cons ru (.cons ru2 .nil), ⟨_, hT2, rfl, _, rfl⟩⟩
    have I1 : Inv X pins sg (upd H s.heap.objs.size (.frz { cls := .type "tuple", data := .seq #[u, u2] } (.tup [x, y]))) { s with heap := h'' } :=
      I.turnedNew (t' := s.toks) (ch := [z, TI, TO, i1, i2]) (fun c o hb q => (sb.2 c (fun q' => hb (by simp [q']))).trans (hk c o (fun q' => hb (by simp [q'])) (fun q' => hb (by simp [q'])) (fun q' => hb (by simp [q'])) (fun q' => hb (by simp [q'])) q)) hf (Nat.le_refl _) new
    refine ⟨.ref s.heap.objs.size, _, I1, rfl, ⟨_, _, x, y, rfl, I.hok.fresh (Nat.le_refl _), ⟨rfl, rfl⟩, rfl, fun l hl => by rw [I.list_inj hl hqx]; exact hx, fun l hl => by rw [I.list_inj hl hqy]; exact hy⟩, ⟨z'', ?_, ⟨u, u2, ?_⟩, ?_, ?_⟩, fun c hcm => ?_⟩
    · exact (sb.2 _ D.TIz).trans (hk _ _ D.TIz D.TITO D.TIi1 D.TIi2 hTI)
    · exact (sb.2 _ D.TOz).trans TO'
    · exact h1'.at fun o q => (sb.2 _ D.i1z).trans q
    · exact h2'.at fun o q => (sb.2 _ D.i2z).trans q
    · have hlt : c < s.heap.objs.size := by
        have e' : c = z ∨ c = TI ∨ c = TO ∨ c = i1 ∨ c = i2 := by simpa using hcm
        rcases e' with q | q | q | q | q
        · rw [q]; exact hzl
        · rw [q]; exact Heap.lt_size hTI
        · rw [q]; exact Heap.lt_size hTO
        · rw [q]; obtain ⟨_, e1, _⟩ := h1; exact Heap.lt_size e1
        · rw [q]; obtain ⟨_, e2, _⟩ := h2; exact Heap.lt_size e2
      rw [upd_ne (Nat.ne_of_lt hlt)]
      exact (hf c hcm).1
  done := by
    intro X hP hw hK hc i pins s sg H E I hf st hg
    subst hP hw hK
    obtain ⟨hz, hTI, ⟨x0, y0, hTO⟩, h1, h2⟩ := st
    obtain ⟨xs, ys, hqx, hqy, hend⟩ := hg
    obtain ⟨its, rv, p, _⟩ := I.list hqx
    obtain ⟨its2, rv2, p2, _⟩ := I.list hqy
    have l1 := rv.length
    have l2 := rv2.length
    have he : its.toArray[i]? = none ∨ its2.toArray[i]? = none := by
      rcases hend with q | q
      · exact .inl (by simp; omega)
      · exact .inr (by simp; omega)
    exact wpAny_pyNext_zip_end (I.ok.hd hc) D hz hTI hTO h1 h2 p.isList p2.isList he fun h' hk => ⟨rfl, I.turnedL (t' := s.toks) (ch := [z, TI, TO, i1, i2]) (fun c o hb q =>
      hk c o (fun q' => hb (by simp [q'])) (fun q' => hb (by simp [q'])) (fun q' => hb (by simp [q'])) (fun q' => hb (by simp [q'])) q) hf⟩
  self := fun A i s Q E st h => wpAny_pyIter_zip st.1 h
def iZipLF (K : PySem.W.Frag) (ta : TA) : TI := fun sg H R => ta sg H fun vs H1 => ∃ a b xs ys, vs = [.ref a, .ref b] ∧ SqL K H1 a xs ∧ SqL K H1 b ys ∧ R (ItzLF K a b) H1
theorem pi_zipLF {X : Cx} {e e2 : Expr} {ta : TA} {p pos tpos : Pos} {elts : List Expr} {kk : Nat} (hg : Gl X "zip") (hm : X.mg "zip" = none) (ha : PA X [e, e2] ta)
    (hs : starEach [e, e2] X.env = (false, eval e X.env) :: starEach [e2] X.env := by rfl) (hpl : (backTo pos (starEach [e2] X.env)).any (·.1) = false := by rfl) :
    PI X (.Tuple elts kk tpos) (.Call (.Name "zip" p) [e, e2] [] pos) (iZipLF X.K ta) := by
  refine ⟨fun pins s sg H R I h => ?_⟩
  refine Call_ (ld_blt I hg hm PyProof.Rows.boot_zip (PyProof.Rows.callWith_type1 (thn (ha.run pos pins s sg H _ I h) fun us s1 ⟨vs, H1, I1, r1, q1⟩ => ?_) hs hpl))
  obtain ⟨a, b, xs, ys, ex, hqx, hqy, q⟩ := q1
  subst ex
  cases r1 with
  | cons r rr =>
    cases rr with
    | cons r' rr =>
      cases rr
      cases r
      cases r'
      obtain ⟨its, rv, p1, _⟩ := I1.list hqx
      obtain ⟨its2, rv2, p2, _⟩ := I1.list hqy
      have la : a < s1.heap.objs.size := p1.lt
      have lb : b < s1.heap.objs.size := p2.lt
      refine call_zip_2 p1.isList p2.isList fun h' hz hTI hTO h1 h2 hsz hk => wpAny_pyIter_zip hz ?_
      have I2 : Inv X pins sg H1 { s1 with heap := h' } := I1.kept (t' := s1.toks) hk
      refine ⟨s1.heap.objs.size + 4, [s1.heap.objs.size + 4, s1.heap.objs.size + 2, s1.heap.objs.size + 3, s1.heap.objs.size, s1.heap.objs.size + 1], _, _, H1, rfl, I2, turn_zipLF (PySem.W.ktu_apart s1.heap.objs.size a b la lb), ⟨hz, hTI, ⟨_, _, hTO⟩, h1, h2⟩, fun c hcm => ?_, q⟩
      have e' : c = s1.heap.objs.size + 4 ∨ c = s1.heap.objs.size + 2 ∨ c = s1.heap.objs.size + 3 ∨ c = s1.heap.objs.size ∨ c = s1.heap.objs.size + 1 := by simpa using hcm
      have hle : s1.heap.objs.size ≤ c := by
        rcases e' with z | z | z | z | z
        · rw [z]; exact Nat.le_add_right _ _
        · rw [z]; exact Nat.le_add_right _ _
        · rw [z]; exact Nat.le_add_right _ _
        · rw [z]; exact Nat.le_refl _
        · rw [z]; exact Nat.le_add_right _ _
      exact I1.fpOk hle (I1.hok.fresh hle)
end Mn

set_option maxRecDepth 100000
set_option maxHeartbeats 1000000
/-! Mn: zip of lists and tuples in any mix. -/
namespace Mn
open PySem PySem.Spec PyProof.Rows L2 PySem.W
/-- b: a list, else a tuple -/
def SqB (b : Bool) (K : PySem.W.Frag) (H : Hp) (a : Addr) (xs : List V) : Prop := if b then SqL K H a xs else SqT K H a xs
def ItB (b : Bool) (h : Heap) (it a : Addr) (i : Nat) : Prop := if b then h.IsListIter it a i else h.IsTupleIter it a i
theorem drawB {X : Cx} {pins : List (Addr × Obj)} {sg : L2.St} {H : Hp} {s : Shared} {b : Bool} {a it : Addr} {xs : List V} {A : Around} (I : Inv X pins sg H s) (hh : A.handled = none) (hne : a ≠ it) (h : SqB b X.K H a xs) :
    ∃ (its : List Value) (St : Nat → Heap → Prop), Vals xs its ∧ Draws X.prog X.w A it [it, a] its.toArray.size (fun i v => its.toArray[i]? = some v) St ∧ (∀ i h', St i h' → ItB b h' it a i) ∧ ∀ i, ItB b s.heap it a i → St i s.heap := by
  cases b with
  | true =>
    obtain ⟨its, rv, p, _⟩ := I.list h
    exact ⟨its, _, rv, Draws.list hh it a hne its.toArray, fun i h' q => q.1, fun i q => ⟨q, p.isList⟩⟩
  | false =>
    obtain ⟨its, rv, p, _⟩ := I.tuple h
    exact ⟨its, _, rv, Draws.tuple hh it a hne its.toArray, fun i h' q => q.1, fun i q => ⟨q, p⟩⟩
theorem ItB.live {b : Bool} {h : Heap} {it a : Addr} {i : Nat} (q : ItB b h it a i) : ∃ o, h.get? it = some o ∧ ∀ v, o.data ≠ .cell v := by
  cases b with
  | true => obtain ⟨o, h1, _, h3⟩ := q; exact ⟨o, h1, fun v e => by rw [h3] at e; cases e⟩
  | false => obtain ⟨o, h1, _, h3⟩ := q; exact ⟨o, h1, fun v e => by rw [h3] at e; cases e⟩
theorem ItB.at {b : Bool} {h h' : Heap} {it a : Addr} {i : Nat} (q : ItB b h it a i) (k : ∀ o, h.get? it = some o → h'.get? it = some o) : ItB b h' it a i := by
  cases b with
  | true => exact Heap.IsListIter.at (show h.IsListIter it a i from q) k
  | false => exact Heap.IsTupleIter.at (show h.IsTupleIter it a i from q) k
def ItzB (b1 b2 : Bool) (K : PySem.W.Frag) (a b : Addr) : It :=
  ⟨fun i H => ∃ (xs ys : List V) (x y : V), SqB b1 K H a xs ∧ SqB b2 K H b ys ∧ xs[i]? = some x ∧ ys[i]? = some y,
    fun i H v H' => ∃ T o x y, v = .ref T ∧ H T = none ∧ (o.cls = .type "tuple" ∧ o.dict = none) ∧ H' = upd H T (.frz o (.tup [x, y])) ∧ (∀ xs, SqB b1 K H a xs → xs[i]? = some x) ∧ ∀ ys, SqB b2 K H b ys → ys[i]? = some y,
    fun i H => ∃ xs ys : List V, SqB b1 K H a xs ∧ SqB b2 K H b ys ∧ (xs.length ≤ i ∨ ys.length ≤ i)⟩
theorem SqB.inj {X : Cx} {pins : List (Addr × Obj)} {sg : L2.St} {H : Hp} {s : Shared} {b : Bool} {a : Addr} {xs ys : List V} (I : Inv X pins sg H s) (h : SqB b X.K H a xs) (h2 : SqB b X.K H a ys) : xs = ys := by
  cases b with
  | true => exact I.list_inj h h2
  | false => exact I.tuple_inj h h2
/-- the end of a source: it has been told all -/
theorem endB {X : Cx} {pins : List (Addr × Obj)} {sg : L2.St} {H : Hp} {s : Shared} {b : Bool} {a it : Addr} {xs : List V} {A : Around} {i : Nat} (I : Inv X pins sg H s) (hh : A.handled = none) (hne : a ≠ it) (h : SqB b X.K H a xs) (hi : xs.length ≤ i) (q : ItB b s.heap it a i) :
    ∃ (St : Nat → Heap → Prop), Draws X.prog X.w A it [it, a] i (fun _ _ => True) St ∧ St i s.heap := by
  cases b with
  | true =>
    obtain ⟨its, rv, p, _⟩ := I.list h
    have hl := rv.length
    have D := Draws.list (prog := X.prog) (w := X.w) hh it a hne its.toArray
    refine ⟨fun j h' => j = i ∧ (h'.IsListIter it a i ∧ h'.IsList a its.toArray), ⟨fun j h' st => D.live i h' st.2, fun j h' h'' st k => ⟨st.1, D.frame i h' h'' st.2 k⟩, fun j s' Q E hj st => absurd st.1 (Nat.ne_of_lt hj), fun s' Q E st hE => wpAny_nextOf_list_end hh st.2.1 st.2.2 (by simp; omega) hE⟩, rfl, q, p.isList⟩
  | false =>
    obtain ⟨its, rv, p, _⟩ := I.tuple h
    have hl := rv.length
    have D := Draws.tuple (prog := X.prog) (w := X.w) hh it a hne its.toArray
    refine ⟨fun j h' => j = i ∧ (h'.IsTupleIter it a i ∧ h'.IsTuple a its.toArray), ⟨fun j h' st => D.live i h' st.2, fun j h' h'' st k => ⟨st.1, D.frame i h' h'' st.2 k⟩, fun j s' Q E hj st => absurd st.1 (Nat.ne_of_lt hj), fun s' Q E st hE => wpAny_nextOf_tuple_end hh st.2.1 st.2.2 (by simp; omega) hE⟩, rfl, q, p⟩
theorem edgeB {X : Cx} {pins : List (Addr × Obj)} {sg : L2.St} {H : Hp} {s : Shared} {b : Bool} {a it : Addr} {xs : List V} {A : Around} {i : Nat} (I : Inv X pins sg H s) (hh : A.handled = none) (hne : a ≠ it) (h : SqB b X.K H a xs) (q : ItB b s.heap it a i) :
    ∃ (n : Nat) (P : Nat → Value → Prop) (St : Nat → Heap → Prop), Draws X.prog X.w A it [it, a] n P St ∧ St i s.heap ∧ i ≤ n ∧ (xs.length ≤ i → i = n) := by
  by_cases hi : xs.length ≤ i
  · obtain ⟨St, D, st⟩ := endB I hh hne h hi q
    exact ⟨i, _, St, D, st, Nat.le_refl _, fun _ => rfl⟩
  · obtain ⟨its, St, rv, D, _, c⟩ := drawB I hh hne h
    have hl := rv.length
    exact ⟨_, _, St, D, c i q, by rw [List.size_toArray]; omega, fun h => absurd h hi⟩
theorem turn_zipB {P : Program} {w : World} {K : PySem.W.Frag} {b1 b2 : Bool} {elts : List Expr} {kk : Nat} {tpos : Pos} {a b z TI TO i1 i2 : Addr} (D : ZipSep2 z TI TO i1 i2 [i1, a] [i2, b]) (n1 : a ≠ i1) (n2 : b ≠ i2) :
    Turn P w K (.Tuple elts kk tpos) (ItzB b1 b2 K a b) [z, TI, TO, i1, i2] z (fun i h => IsZip h z TI TO .none ∧ IsTupOf2 h TI (.ref i1) (.ref i2) ∧ (∃ x y, IsTupOf2 h TO x y) ∧ ItB b1 h i1 a i ∧ ItB b2 h i2 b i) where
  mem := by simp
  obj := fun i h st c hc => by
    obtain ⟨hz, hTI, ⟨x, y, hTO⟩, q1, q2⟩ := st
    have e' : c = z ∨ c = TI ∨ c = TO ∨ c = i1 ∨ c = i2 := by simpa using hc
    rcases e' with q | q | q | q | q
    · rw [q]; exact ⟨_, hz, fun v q => nomatch q⟩
    · rw [q]; exact ⟨_, hTI, fun v q => nomatch q⟩
    · rw [q]; exact ⟨_, hTO, fun v q => nomatch q⟩
    · rw [q]; exact q1.live
    · rw [q]; exact q2.live
  keep := fun i h h' st k => by
    obtain ⟨hz, hTI, ⟨x, y, hTO⟩, h1, h2⟩ := st
    exact ⟨k z (by simp) _ hz, k TI (by simp) _ hTI, ⟨x, y, k TO (by simp) _ hTO⟩, h1.at fun o q => k i1 (by simp) o q, h2.at fun o q => k i2 (by simp) o q⟩
  item := by
    intro X hP hw hK hc i pins s sg H E I hf st hg
    subst hP hw hK
    obtain ⟨hz, hTI, ⟨x0, y0, hTO⟩, h1, h2⟩ := st
    obtain ⟨xs, ys, x, y, hqx, hqy, hx, hy⟩ := hg
    obtain ⟨its, St1, rv, D1, o1, c1⟩ := drawB (A := X.A.in1) (it := i1) I (I.ok.hd hc) n1 hqx
    obtain ⟨its2, St2, rv2, D2, o2, c2⟩ := drawB (A := X.A.in1) (it := i2) I (I.ok.hd hc) n2 hqy
    obtain ⟨u, hu, ru⟩ := rv.get hx
    obtain ⟨u2, hu2, ru2⟩ := rv2.get hy
    have hzl : z < s.heap.objs.size := Heap.lt_size hz
    refine wpAny_pyNext_zipD2_item D D1 D2 hz hTI hTO (c1 i h1) (c2 i h2) (by rw [List.size_toArray]; exact (List.getElem?_eq_some_iff.mp hu).1) (by rw [List.size_toArray]; exact (List.getElem?_eq_some_iff.mp hu2).1) fun v v2 h' tk p1 p2 z' TO' s1' s2' hT hsz hk => ?_
    have e1 : v = u := by
      have q : its[i]? = some v := by simpa using p1
      rw [hu] at q; exact (Option.some.inj q).symm
    have e2 : v2 = u2 := by
      have q : its2[i]? = some v2 := by simpa using p2
      rw [hu2] at q; exact (Option.some.inj q).symm
    subst e1 e2
    have h1' := o1 _ _ s1'
    have h2' := o2 _ _ s2'
    refine ⟨_, rfl, wpAny_letOwnedTupleGo_zip (s := { s with heap := h', toks := tk }) z' fun h'' z'' sb => ?_⟩
    have hT2 : h''.get? s.heap.objs.size = some { cls := .type "tuple", data := .seq #[v, v2] } := (sb.2 _ (Nat.ne_of_gt hzl)).trans hT
    have new : ObjOk X.prog X.w (upd H s.heap.objs.size (.frz { cls := .type "tuple", data := .seq #[v, v2] } (.tup [x, y]))) h'' s.heap.objs.size (.frz { cls := .type "tuple", data := .seq #[v, v2] } (.tup [x, y])) :=
      ⟨hT2, by show 2 ≤ sizeLine; decide, [v, v2], .cons ru (.cons ru2 .nil), ⟨_, hT2, rfl, _, rfl⟩⟩
    have I1 : Inv X pins sg (upd H s.heap.objs.size (.frz { cls := .type "tuple", data := .seq #[v, v2] } (.tup [x, y]))) { s with heap := h'', toks := tk } :=
      I.turnedNew (t' := tk) (ch := [z, TI, TO, i1, i2]) (fun c o hb q => (sb.2 c (fun q' => hb (by simp [q']))).trans (hk c o (fun q' => hb (by simp [q'])) (fun q' => hb (by simp [q'])) (fun q' => hb (by simp [q'])) (fun q' => hb (by simp [q'])) q)) hf (Nat.le_refl _) new
    refine ⟨.ref s.heap.objs.size, _, I1, rfl, ⟨_, _, x, y, rfl, I.hok.fresh (Nat.le_refl _), ⟨rfl, rfl⟩, rfl, fun l hl => by rw [SqB.inj I hl hqx]; exact hx, fun l hl => by rw [SqB.inj I hl hqy]; exact hy⟩, ⟨z'', ?_, ⟨v, v2, ?_⟩, ?_, ?_⟩, fun c hcm => ?_⟩
    · exact (sb.2 _ D.TIz).trans (hk _ _ D.TIz D.TITO D.TIi1 D.TIi2 hTI)
    · exact (sb.2 _ D.TOz).trans TO'
    · exact h1'.at fun o q => (sb.2 _ (Ne.symm D.zi1)).trans q
    · exact h2'.at fun o q => (sb.2 _ (Ne.symm D.zi2)).trans q
    · have hlt : c < s.heap.objs.size := by
        have e' : c = z ∨ c = TI ∨ c = TO ∨ c = i1 ∨ c = i2 := by simpa using hcm
        rcases e' with q | q | q | q | q
        · rw [q]; exact hzl
        · rw [q]; exact Heap.lt_size hTI
        · rw [q]; exact Heap.lt_size hTO
        · rw [q]; obtain ⟨_, e1, _⟩ := h1.live; exact Heap.lt_size e1
        · rw [q]; obtain ⟨_, e2, _⟩ := h2.live; exact Heap.lt_size e2
      rw [upd_ne (Nat.ne_of_lt hlt)]
      exact (hf c hcm).1
  done := by
    intro X hP hw hK hc i pins s sg H E I hf st hg
    subst hP hw hK
    obtain ⟨hz, hTI, ⟨x0, y0, hTO⟩, h1, h2⟩ := st
    obtain ⟨xs, ys, hqx, hqy, hend⟩ := hg
    obtain ⟨m1, P1, St1, D1, s1, l1, g1⟩ := edgeB (A := X.A.in1) I (I.ok.hd hc) n1 hqx h1
    obtain ⟨m2, P2, St2, D2, s2, l2, g2⟩ := edgeB (A := X.A.in1) I (I.ok.hd hc) n2 hqy h2
    exact wpAny_pyNext_zipD2_end D D1 D2 hz hTI hTO s1 s2 l1 l2 (hend.imp g1 g2) fun h' tk hk => ⟨rfl, I.turnedL (t' := tk) (ch := [z, TI, TO, i1, i2]) (fun c o hb q =>
      hk c o (fun q' => hb (by simp [q'])) (fun q' => hb (by simp [q'])) (fun q' => hb (by simp [q'])) (fun q' => hb (by simp [q'])) q) hf⟩
  self := fun A i s Q E st h => wpAny_pyIter_zip st.1 h
def iZipB (K : PySem.W.Frag) (ta : TA) : TI := fun sg H R => ta sg H fun vs H1 => ∃ a b b1 b2 xs ys, vs = [.ref a, .ref b] ∧ SqB b1 K H1 a xs ∧ SqB b2 K H1 b ys ∧ R (ItzB b1 b2 K a b) H1
theorem beginB {X : Cx} {pins : List (Addr × Obj)} {sg : L2.St} {H : Hp} {s : Shared} {b : Bool} {a : Addr} {xs : List V} (I : Inv X pins sg H s) (h : SqB b X.K H a xs) :
    a < s.heap.objs.size ∧ ∃ (o : Obj) (Hh : Heap → Prop), Begins (.ref a) o Hh ∧ Hh s.heap ∧ ∀ h' it, h'.get? it = some o → ItB b h' it a 0 := by
  cases b with
  | true =>
    obtain ⟨its, rv, p, _⟩ := I.list h
    exact ⟨p.lt, _, _, begins_list a its.toArray, p.isList, fun h' it q => ⟨_, q, rfl, rfl⟩⟩
  | false =>
    obtain ⟨its, rv, p, _⟩ := I.tuple h
    exact ⟨by obtain ⟨o, e1, _⟩ := p; exact Heap.lt_size e1, _, _, begins_tuple a its.toArray, p, fun h' it q => ⟨_, q, rfl, rfl⟩⟩
theorem sepN (n a b : Nat) (la : a < n) (lb : b < n) : ZipSep2 (n + 4) (n + 2) (n + 3) n (n + 1) [n, a] [n + 1, b] := by
  constructor <;> (try unfold Addr at *) <;> simp <;> omega
theorem pi_zipB {X : Cx} {e e2 : Expr} {ta : TA} {p pos tpos : Pos} {elts : List Expr} {kk : Nat} (hg : Gl X "zip") (hm : X.mg "zip" = none) (ha : PA X [e, e2] ta)
    (hs : starEach [e, e2] X.env = (false, eval e X.env) :: starEach [e2] X.env := by rfl) (hpl : (backTo pos (starEach [e2] X.env)).any (·.1) = false := by rfl) :
    PI X (.Tuple elts kk tpos) (.Call (.Name "zip" p) [e, e2] [] pos) (iZipB X.K ta) := by
  refine ⟨fun pins s sg H R I h => ?_⟩
  refine Call_ (ld_blt I hg hm PyProof.Rows.boot_zip (PyProof.Rows.callWith_type1 (thn (ha.run pos pins s sg H _ I h) fun us s1 ⟨vs, H1, I1, r1, q1⟩ => ?_) hs hpl))
  obtain ⟨a, b, b1, b2, xs, ys, ex, hqx, hqy, q⟩ := q1
  subst ex
  cases r1 with
  | cons r rr =>
    cases rr with
    | cons r' rr =>
      cases rr
      cases r
      cases r'
      obtain ⟨la, o1, G1, B1, g1, m1⟩ := beginB I1 hqx
      obtain ⟨lb, o2, G2, B2, g2, m2⟩ := beginB I1 hqy
      refine zip_begins2 B1 B2 g1 g2 fun h' hz hTI hTO h1 h2 hsz hk => wpAny_pyIter_zip hz ?_
      have I2 : Inv X pins sg H1 { s1 with heap := h' } := I1.kept (t' := s1.toks) hk
      refine ⟨s1.heap.objs.size + 4, [s1.heap.objs.size + 4, s1.heap.objs.size + 2, s1.heap.objs.size + 3, s1.heap.objs.size, s1.heap.objs.size + 1], _, _, H1, rfl, I2, turn_zipB (b1 := b1) (b2 := b2) ?_ (Nat.ne_of_lt la) (Nat.ne_of_lt (Nat.lt_succ_of_lt lb)), ⟨hz, hTI, ⟨_, _, hTO⟩, m1 _ _ h1, m2 _ _ h2⟩, fun c hcm => ?_, q⟩
      · exact sepN _ _ _ la lb
      · have e' : c = s1.heap.objs.size + 4 ∨ c = s1.heap.objs.size + 2 ∨ c = s1.heap.objs.size + 3 ∨ c = s1.heap.objs.size ∨ c = s1.heap.objs.size + 1 := by simpa using hcm
        have hle : s1.heap.objs.size ≤ c := by rcases e' with z | z | z | z | z <;> rw [z] <;> first | exact Nat.le_refl _ | exact Nat.le_add_right _ _
        exact I1.fpOk hle (I1.hok.fresh hle)
end Mn

set_option maxRecDepth 100000
set_option maxHeartbeats 1000000
/-! Mn: tree data, a store of mutable objects, and readings of the hand layer told by plain functions over them. -/
namespace Mn
open PySem PySem.Spec PyProof.Rows L2

/-- data: trees; ref n is the mutable object n of the store; rol is a list that nobody writes (the script) -/
inductive D where
  | non | bl (b : Bool) | int (i : Int) | str (x : Str) | tup (ds : List D) | lst (ds : List D) | rol (ds : List D)
  | dic (ks : List Key) (ds : List D) | ref (n : Nat)
  deriving Inhabited

/-- what may be changed -/
inductive Ob where
  | lst (ds : List D) | dic (ks : List Key) (ds : List D)
  deriving Inhabited

structure Sto where
  nx : Nat
  ob : Nat → Option Ob

def Sto.new (S : Sto) (o : Ob) : Sto := ⟨S.nx + 1, fun n => if n = S.nx then some o else S.ob n⟩
def Sto.set (S : Sto) (n : Nat) (o : Ob) : Sto := ⟨S.nx, fun m => if m = n then some o else S.ob m⟩
def Sto.del (S : Sto) (n : Nat) : Sto := ⟨S.nx, fun m => if m = n then none else S.ob m⟩

/-- where the mutable objects stand; rs are addresses of objects that the plain functions do not see -/
structure Ph where
  f : Nat → Addr
  rs : List Addr

/-- a is the address of an object that may be changed -/
def Own (ph : Ph) (S : Sto) (a : Addr) : Prop := a ∈ ph.rs ∨ ∃ n, (S.ob n).isSome = true ∧ ph.f n = a

def noH : Hp := fun _ => none
theorem sqT_of {K : PySem.W.Frag} {H : Hp} {a : Addr} {xs : List V} (h : SqT K noH a xs) : SqT K H a xs := by
  rcases h with (h | ⟨o, h⟩) | h
  · cases h
  · cases h
  · exact .inr h
theorem sqL_of {K : PySem.W.Frag} {H : Hp} {a : Addr} {xs : List V} (h : SqL K noH a xs) : SqL K H a xs := by
  rcases h with (h | ⟨o, h⟩) | h
  · cases h
  · cases h
  · exact .inr h

def TAt (K : PySem.W.Frag) (ph : Ph) (S : Sto) (H : Hp) (a : Addr) (xs : List V) : Prop :=
  ((∃ o, H a = some (.frz o (.tup xs)) ∧ o.cls = .type "tuple" ∧ o.dict = none) ∧ ¬ Own ph S a) ∨ ((∃ o, K.lookup a = some o ∧ o.cls = .type "tuple" ∧ o.dict = none) ∧ SqT K noH a xs)
theorem TAt.tf {K : PySem.W.Frag} {ph : Ph} {S : Sto} {H : Hp} {a : Addr} {xs : List V} (h : TAt K ph S H a xs) : TupF K H a xs := by
  rcases h with h | h
  · exact .inl h.1
  · exact .inr h
theorem TAt.new {K : PySem.W.Frag} {ph : Ph} {S : Sto} {H : Hp} {p : Addr} {o : Obj} {xs : List V} (h1 : o.cls = .type "tuple") (h2 : o.dict = none) (n : ¬ Own ph S p) : TAt K ph S (upd H p (.frz o (.tup xs))) p xs := .inl ⟨⟨o, upd_same, h1, h2⟩, n⟩
def LAt (K : PySem.W.Frag) (ph : Ph) (S : Sto) (H : Hp) (a : Addr) (xs : List V) : Prop := (Rd H a (.lst xs) ∧ ¬ Own ph S a) ∨ SqL K noH a xs
theorem TAt.sq {K : PySem.W.Frag} {ph : Ph} {S : Sto} {H : Hp} {a : Addr} {xs : List V} (h : TAt K ph S H a xs) : SqT K H a xs := by
  rcases h with h | h
  · obtain ⟨⟨o, h1, _⟩, _⟩ := h
    exact .inl (.inr ⟨o, h1⟩)
  · exact sqT_of h.2
theorem LAt.sq {K : PySem.W.Frag} {ph : Ph} {S : Sto} {H : Hp} {a : Addr} {xs : List V} (h : LAt K ph S H a xs) : SqL K H a xs := by
  rcases h with h | h
  · exact .inl h.1
  · exact sqL_of h

mutual
/-- the value v stands for the data d -/
def Rep (K : PySem.W.Frag) (ph : Ph) (S : Sto) (H : Hp) : D → V → Prop
  | .non, v => v = .non
  | .bl b, v => v = .bl b
  | .int i, v => v = .int i
  | .str x, v => v = .str x
  | .tup ds, v => ∃ a xs, v = .ref a ∧ TAt K ph S H a xs ∧ RepL K ph S H ds xs
  | .lst ds, v => ∃ a xs, v = .ref a ∧ (H a = some (.lst xs) ∧ ¬ Own ph S a) ∧ RepL K ph S H ds xs
  | .rol ds, v => ∃ a xs, v = .ref a ∧ LAt K ph S H a xs ∧ RepL K ph S H ds xs
  | .dic ks ds, v => ∃ a kvs, v = .ref a ∧ (H a = some (.dK kvs) ∧ ¬ Own ph S a) ∧ kvs.map (·.1) = ks ∧ RepL K ph S H ds (kvs.map (·.2))
  | .ref n, v => n < S.nx ∧ v = .ref (ph.f n)
def RepL (K : PySem.W.Frag) (ph : Ph) (S : Sto) (H : Hp) : List D → List V → Prop
  | [], xs => xs = []
  | d :: ds, xs => ∃ x r, xs = x :: r ∧ Rep K ph S H d x ∧ RepL K ph S H ds r
end

def RepO (K : PySem.W.Frag) (ph : Ph) (S : Sto) (H : Hp) : Ob → Addr → Prop
  | .lst ds, a => ∃ xs, H a = some (.lst xs) ∧ RepL K ph S H ds xs
  | .dic ks ds, a => ∃ kvs, H a = some (.dK kvs) ∧ kvs.map (·.1) = ks ∧ RepL K ph S H ds (kvs.map (·.2))

structure Sim (K : PySem.W.Frag) (ph : Ph) (S : Sto) (H : Hp) : Prop where
  lt : ∀ n o, S.ob n = some o → n < S.nx
  inj : ∀ m n, (S.ob m).isSome = true → (S.ob n).isSome = true → ph.f m = ph.f n → m = n
  ok : ∀ n o, S.ob n = some o → RepO K ph S H o (ph.f n)
  rsv : ∀ r ∈ ph.rs, (∃ o, H r = some o) ∧ ∀ n, (S.ob n).isSome = true → ph.f n ≠ r

structure Ext0 (ph : Ph) (S : Sto) (H : Hp) (ph' : Ph) (S' : Sto) (H' : Hp) : Prop where
  nx : S.nx ≤ S'.nx
  pe : ∀ n, n < S.nx → ph'.f n = ph.f n
  kp : ∀ a o, H a = some o → ¬ Own ph S a → H' a = some o ∧ ¬ Own ph' S' a

structure Ext (ph : Ph) (S : Sto) (H : Hp) (ph' : Ph) (S' : Sto) (H' : Hp) : Prop extends Ext0 ph S H ph' S' H' where
  rs : ph'.rs = ph.rs ∧ ∀ r ∈ ph.rs, H' r = H r

section
variable {K : PySem.W.Frag} {ph ph1 ph2 : Ph} {S S1 S2 : Sto} {H H1 H2 : Hp}
theorem Ext.refl : Ext ph S H ph S H := ⟨⟨Nat.le_refl _, fun _ _ => rfl, fun _ _ h n => ⟨h, n⟩⟩, rfl, fun _ _ => rfl⟩
theorem Ext0.trans (a : Ext0 ph S H ph1 S1 H1) (b : Ext0 ph1 S1 H1 ph2 S2 H2) : Ext0 ph S H ph2 S2 H2 :=
  ⟨Nat.le_trans a.nx b.nx, fun n h => (b.pe n (Nat.lt_of_lt_of_le h a.nx)).trans (a.pe n h), fun x o h n => let ⟨h1, n1⟩ := a.kp x o h n; b.kp x o h1 n1⟩
theorem Ext.trans (a : Ext ph S H ph1 S1 H1) (b : Ext ph1 S1 H1 ph2 S2 H2) : Ext ph S H ph2 S2 H2 :=
  ⟨a.toExt0.trans b.toExt0, b.rs.1.trans a.rs.1, fun r hr => (b.rs.2 r (by rw [a.rs.1]; exact hr)).trans (a.rs.2 r hr)⟩
theorem TAt.ext0 {a : Addr} {xs : List V} (e : Ext0 ph S H ph1 S1 H1) (h : TAt K ph S H a xs) : TAt K ph1 S1 H1 a xs := by
  rcases h with ⟨⟨o, h, h2⟩, n⟩ | h
  · obtain ⟨h1, n1⟩ := e.kp a _ h n
    exact .inl ⟨⟨o, h1, h2⟩, n1⟩
  · exact .inr h
theorem LAt.ext0 {a : Addr} {xs : List V} (e : Ext0 ph S H ph1 S1 H1) (h : LAt K ph S H a xs) : LAt K ph1 S1 H1 a xs := by
  rcases h with ⟨h | ⟨o, h⟩, n⟩ | h
  · obtain ⟨h1, n1⟩ := e.kp a _ h n
    exact .inl ⟨.inl h1, n1⟩
  · obtain ⟨h1, n1⟩ := e.kp a _ h n
    exact .inl ⟨.inr ⟨o, h1⟩, n1⟩
  · exact .inr h
mutual
theorem Rep.ext0 (e : Ext0 ph S H ph1 S1 H1) : ∀ (d : D) (v : V), Rep K ph S H d v → Rep K ph1 S1 H1 d v
  | .non, v, h => by rw [Rep] at h ⊢; exact h
  | .bl b, v, h => by rw [Rep] at h ⊢; exact h
  | .int i, v, h => by rw [Rep] at h ⊢; exact h
  | .str x, v, h => by rw [Rep] at h ⊢; exact h
  | .tup ds, v, h => by
    rw [Rep] at h ⊢
    obtain ⟨a, xs, h1, h2, h3⟩ := h
    exact ⟨a, xs, h1, h2.ext0 e, RepL.ext0 e ds xs h3⟩
  | .lst ds, v, h => by
    rw [Rep] at h ⊢
    obtain ⟨a, xs, h1, h2, h3⟩ := h
    exact ⟨a, xs, h1, e.kp _ _ h2.1 h2.2, RepL.ext0 e ds xs h3⟩
  | .rol ds, v, h => by
    rw [Rep] at h ⊢
    obtain ⟨a, xs, h1, h2, h3⟩ := h
    exact ⟨a, xs, h1, h2.ext0 e, RepL.ext0 e ds xs h3⟩
  | .dic ks ds, v, h => by
    rw [Rep] at h ⊢
    obtain ⟨a, kvs, h1, h2, h3, h4⟩ := h
    exact ⟨a, kvs, h1, e.kp _ _ h2.1 h2.2, h3, RepL.ext0 e ds _ h4⟩
  | .ref n, v, h => by
    rw [Rep] at h ⊢
    exact ⟨Nat.lt_of_lt_of_le h.1 e.nx, by rw [e.pe n h.1]; exact h.2⟩
theorem RepL.ext0 (e : Ext0 ph S H ph1 S1 H1) : ∀ (ds : List D) (xs : List V), RepL K ph S H ds xs → RepL K ph1 S1 H1 ds xs
  | [], xs, h => by rw [RepL] at h ⊢; exact h
  | d :: ds, xs, h => by
    rw [RepL] at h ⊢
    obtain ⟨x, r, h1, h2, h3⟩ := h
    exact ⟨x, r, h1, Rep.ext0 e d x h2, RepL.ext0 e ds r h3⟩
end
theorem RepO.ext0 {o : Ob} {a : Addr} (e : Ext0 ph S H ph1 S1 H1) (ha : H1 a = H a) (h : RepO K ph S H o a) : RepO K ph1 S1 H1 o a := by
  cases o with
  | lst ds =>
    obtain ⟨xs, h1, h2⟩ := h
    exact ⟨xs, ha.trans h1, h2.ext0 e⟩
  | dic ks ds =>
    obtain ⟨kvs, h1, h2, h3⟩ := h
    exact ⟨kvs, ha.trans h1, h2, h3.ext0 e⟩
theorem TAt.ext {a : Addr} {xs : List V} (e : Ext ph S H ph1 S1 H1) (h : TAt K ph S H a xs) : TAt K ph1 S1 H1 a xs := h.ext0 e.toExt0
theorem LAt.ext {a : Addr} {xs : List V} (e : Ext ph S H ph1 S1 H1) (h : LAt K ph S H a xs) : LAt K ph1 S1 H1 a xs := h.ext0 e.toExt0
theorem Rep.ext (e : Ext ph S H ph1 S1 H1) {d : D} {v : V} (h : Rep K ph S H d v) : Rep K ph1 S1 H1 d v := Rep.ext0 e.toExt0 d v h
theorem RepL.ext (e : Ext ph S H ph1 S1 H1) {ds : List D} {xs : List V} (h : RepL K ph S H ds xs) : RepL K ph1 S1 H1 ds xs := RepL.ext0 e.toExt0 ds xs h
theorem RepO.ext {o : Ob} {a : Addr} (e : Ext ph S H ph1 S1 H1) (ha : H1 a = H a) (h : RepO K ph S H o a) : RepO K ph1 S1 H1 o a := h.ext0 e.toExt0 ha
theorem RepO.there {o : Ob} {a : Addr} (h : RepO K ph S H o a) : ∃ u, H a = some u := by
  cases o with
  | lst ds => obtain ⟨xs, h1, _⟩ := h; exact ⟨_, h1⟩
  | dic ks ds => obtain ⟨xs, h1, _⟩ := h; exact ⟨_, h1⟩
theorem Sim.there {n : Nat} (s : Sim K ph S H) (h : (S.ob n).isSome = true) : ∃ u, H (ph.f n) = some u := by
  obtain ⟨o, e⟩ := Option.isSome_iff_exists.mp h
  exact (s.ok n o e).there
theorem Sim.fresh {p : Addr} (s : Sim K ph S H) (h : H p = none) : ¬ Own ph S p := by
  rintro (q | ⟨n, h1, h2⟩)
  · obtain ⟨⟨o, e⟩, _⟩ := s.rsv p q
    rw [h] at e; cases e
  · obtain ⟨u, e⟩ := s.there h1
    rw [h2, h] at e
    cases e

/-! ### what a value that stands for data is -/
theorem Rep.tupE {ds : List D} {v : V} (h : Rep K ph S H (.tup ds) v) : ∃ a xs, v = .ref a ∧ TAt K ph S H a xs ∧ RepL K ph S H ds xs := by rw [Rep] at h; exact h
theorem Rep.lstE {ds : List D} {v : V} (h : Rep K ph S H (.lst ds) v) : ∃ a xs, v = .ref a ∧ (H a = some (.lst xs) ∧ ¬ Own ph S a) ∧ RepL K ph S H ds xs := by rw [Rep] at h; exact h
theorem Rep.rolE {ds : List D} {v : V} (h : Rep K ph S H (.rol ds) v) : ∃ a xs, v = .ref a ∧ LAt K ph S H a xs ∧ RepL K ph S H ds xs := by rw [Rep] at h; exact h
theorem Rep.dicE {ks : List Key} {ds : List D} {v : V} (h : Rep K ph S H (.dic ks ds) v) : ∃ a kvs, v = .ref a ∧ (H a = some (.dK kvs) ∧ ¬ Own ph S a) ∧ kvs.map (·.1) = ks ∧ RepL K ph S H ds (kvs.map (·.2)) := by rw [Rep] at h; exact h
theorem Rep.refE {n : Nat} {v : V} (h : Rep K ph S H (.ref n) v) : n < S.nx ∧ v = .ref (ph.f n) := by rw [Rep] at h; exact h
theorem Rep.intE {n : Int} {v : V} (h : Rep K ph S H (.int n) v) : v = .int n := by rw [Rep] at h; exact h
theorem Rep.strE {n : Str} {v : V} (h : Rep K ph S H (.str n) v) : v = .str n := by rw [Rep] at h; exact h
theorem Rep.blE {n : Bool} {v : V} (h : Rep K ph S H (.bl n) v) : v = .bl n := by rw [Rep] at h; exact h
theorem Rep.nonE {v : V} (h : Rep K ph S H .non v) : v = .non := by rw [Rep] at h; exact h

/-! ### RepL -/
theorem RepL.nil : RepL K ph S H [] [] := by rw [RepL]
theorem RepL.cons {d : D} {ds : List D} {x : V} {xs : List V} (h : Rep K ph S H d x) (r : RepL K ph S H ds xs) : RepL K ph S H (d :: ds) (x :: xs) := by
  rw [RepL]; exact ⟨x, xs, rfl, h, r⟩
theorem RepL.nil_inv {xs : List V} (h : RepL K ph S H [] xs) : xs = [] := by rw [RepL] at h; exact h
theorem RepL.cons_inv {d : D} {ds : List D} {xs : List V} (h : RepL K ph S H (d :: ds) xs) : ∃ x r, xs = x :: r ∧ Rep K ph S H d x ∧ RepL K ph S H ds r := by rw [RepL] at h; exact h
theorem RepL.len : ∀ {ds : List D} {xs : List V}, RepL K ph S H ds xs → xs.length = ds.length
  | [], xs, h => by rw [h.nil_inv]; rfl
  | d :: ds, xs, h => by
    obtain ⟨x, r, rfl, _, h3⟩ := h.cons_inv
    rw [List.length_cons, List.length_cons, h3.len]
theorem RepL.app : ∀ {ds es : List D} {xs ys : List V}, RepL K ph S H ds xs → RepL K ph S H es ys → RepL K ph S H (ds ++ es) (xs ++ ys)
  | [], es, xs, ys, h, k => by rw [h.nil_inv]; exact k
  | d :: ds, es, xs, ys, h, k => by
    obtain ⟨x, r, rfl, h2, h3⟩ := h.cons_inv
    exact .cons h2 (h3.app k)
theorem RepL.get : ∀ {ds : List D} {xs : List V} {i : Nat} {d : D}, RepL K ph S H ds xs → ds[i]? = some d → ∃ x, xs[i]? = some x ∧ Rep K ph S H d x
  | [], xs, i, d, h, e => by simp at e
  | c :: ds, xs, 0, d, h, e => by
    obtain ⟨x, r, rfl, h2, h3⟩ := h.cons_inv
    simp at e; subst e
    exact ⟨x, rfl, h2⟩
  | c :: ds, xs, i + 1, d, h, e => by
    obtain ⟨x, r, rfl, h2, h3⟩ := h.cons_inv
    obtain ⟨y, e1, e2⟩ := h3.get (i := i) (d := d) (by simpa using e)
    exact ⟨y, by simpa using e1, e2⟩
theorem RepL.take : ∀ {ds : List D} {xs : List V} (n : Nat), RepL K ph S H ds xs → RepL K ph S H (ds.take n) (xs.take n)
  | ds, xs, 0, h => by rw [List.take_zero, List.take_zero]; exact .nil
  | [], xs, n + 1, h => by rw [h.nil_inv]; exact .nil
  | c :: ds, xs, n + 1, h => by
    obtain ⟨x, r, rfl, h2, h3⟩ := h.cons_inv
    exact .cons h2 (h3.take n)
theorem RepL.drop : ∀ {ds : List D} {xs : List V} (n : Nat), RepL K ph S H ds xs → RepL K ph S H (ds.drop n) (xs.drop n)
  | ds, xs, 0, h => h
  | [], xs, n + 1, h => by rw [h.nil_inv]; exact .nil
  | c :: ds, xs, n + 1, h => by
    obtain ⟨x, r, rfl, h2, h3⟩ := h.cons_inv
    exact h3.drop n
theorem RepL.set : ∀ {ds : List D} {xs : List V} (n : Nat) {d : D} {x : V}, RepL K ph S H ds xs → Rep K ph S H d x → RepL K ph S H (ds.set n d) (xs.set n x)
  | [], xs, n, d, x, h, k => by rw [h.nil_inv]; exact .nil
  | c :: ds, xs, 0, d, x, h, k => by
    obtain ⟨y, r, rfl, h2, h3⟩ := h.cons_inv
    exact .cons k h3
  | c :: ds, xs, n + 1, d, x, h, k => by
    obtain ⟨y, r, rfl, h2, h3⟩ := h.cons_inv
    exact .cons h2 (h3.set n k)
theorem RepL.of_get : ∀ {ds : List D} {xs : List V}, xs.length = ds.length → (∀ (i : Nat) (d : D) (x : V), ds[i]? = some d → xs[i]? = some x → Rep K ph S H d x) → RepL K ph S H ds xs
  | [], xs, h, _ => by
    have : xs = [] := by simpa using h
    rw [this]; exact .nil
  | d :: ds, [], h, _ => by simp at h
  | d :: ds, x :: xs, h, k => .cons (k 0 d x rfl rfl) (RepL.of_get (by simpa using h) fun i d' x' e1 e2 => k (i + 1) d' x' (by simpa using e1) (by simpa using e2))

/-! ### new objects -/
theorem Sim.rs_ne {p : Addr} (s : Sim K ph S H) (h : H p = none) {r : Addr} (hr : r ∈ ph.rs) : r ≠ p := by
  rintro rfl
  obtain ⟨⟨o, e⟩, _⟩ := s.rsv r hr
  rw [h] at e; cases e
/-- a new tree object -/
theorem Ext.tree {p : Addr} {o : HO} (s : Sim K ph S H) (h : H p = none) : Ext ph S H ph S (upd H p o) :=
  ⟨⟨Nat.le_refl _, fun _ _ => rfl, fun a u e n => ⟨by rw [upd_ne (ne_of_none e h)]; exact e, n⟩⟩, rfl, fun r hr => upd_ne (s.rs_ne h hr)⟩
theorem Sim.tree {p : Addr} {o : HO} (s : Sim K ph S H) (h : H p = none) : Sim K ph S (upd H p o) :=
  ⟨s.lt, s.inj, fun n u e => (s.ok n u e).ext (Ext.tree s h) (by
    obtain ⟨v, q⟩ := (s.ok n u e).there
    rw [upd_ne (ne_of_none q h)]), fun r hr => ⟨by rw [upd_ne (s.rs_ne h hr)]; exact (s.rsv r hr).1, (s.rsv r hr).2⟩⟩
def phN (ph : Ph) (S : Sto) (p : Addr) : Ph := ⟨fun n => if n = S.nx then p else ph.f n, ph.rs⟩
theorem Sto.new_ob {S : Sto} {o : Ob} {n : Nat} : (S.new o).ob n = if n = S.nx then some o else S.ob n := rfl
theorem phN_old {p : Addr} {m : Nat} (hm : m ≠ S.nx) : (phN ph S p).f m = ph.f m := if_neg hm
theorem phN_new {p : Addr} : (phN ph S p).f S.nx = p := if_pos rfl
theorem Ext.newO {p : Addr} {o : HO} {u : Ob} (s : Sim K ph S H) (h : H p = none) : Ext ph S H (phN ph S p) (S.new u) (upd H p o) := by
  refine ⟨⟨Nat.le_succ _, fun n hn => phN_old (Nat.ne_of_lt hn), fun a v e n => ⟨by rw [upd_ne (ne_of_none e h)]; exact e, ?_⟩⟩, rfl, fun r hr => upd_ne (s.rs_ne h hr)⟩
  rintro (q | ⟨m, h1, h2⟩)
  · exact n (.inl q)
  · rw [Sto.new_ob] at h1
    by_cases hm : m = S.nx
    · subst hm
      rw [phN_new] at h2
      rw [h2] at h; rw [h] at e; cases e
    · rw [if_neg hm] at h1
      rw [phN_old hm] at h2
      exact n (.inr ⟨m, h1, h2⟩)
theorem Sim.newO {p : Addr} {o : HO} {u : Ob} (s : Sim K ph S H) (h : H p = none) (ho : RepO K (phN ph S p) (S.new u) (upd H p o) u p) : Sim K (phN ph S p) (S.new u) (upd H p o) := by
  have E : Ext ph S H (phN ph S p) (S.new u) (upd H p o) := Ext.newO s h
  refine ⟨fun n v e => ?_, fun m n h1 h2 e => ?_, fun n v e => ?_, fun r hr => ⟨by rw [upd_ne (s.rs_ne h hr)]; exact (s.rsv r hr).1, fun n hn => ?_⟩⟩
  · rw [Sto.new_ob] at e
    by_cases hn : n = S.nx
    · rw [hn]; exact Nat.lt_succ_self _
    · rw [if_neg hn] at e; exact Nat.lt_succ_of_lt (s.lt n v e)
  · rw [Sto.new_ob] at h1 h2
    by_cases hm : m = S.nx <;> by_cases hn : n = S.nx
    · rw [hm, hn]
    · exfalso
      rw [hm, phN_new, phN_old hn] at e
      rw [if_neg hn] at h2
      obtain ⟨q, hq⟩ := s.there h2
      rw [← e, h] at hq; cases hq
    · exfalso
      rw [hn, phN_new, phN_old hm] at e
      rw [if_neg hm] at h1
      obtain ⟨q, hq⟩ := s.there h1
      rw [e, h] at hq; cases hq
    · rw [phN_old hm, phN_old hn] at e
      rw [if_neg hm] at h1
      rw [if_neg hn] at h2
      exact s.inj m n h1 h2 e
  · rw [Sto.new_ob] at e
    by_cases hn : n = S.nx
    · rw [if_pos hn] at e; cases e
      rw [hn, phN_new]; exact ho
    · rw [if_neg hn] at e
      rw [phN_old hn]
      obtain ⟨q, hq⟩ := (s.ok n v e).there
      exact (s.ok n v e).ext E (upd_ne (ne_of_none hq h))
  · rw [Sto.new_ob] at hn
    by_cases hm : n = S.nx
    · rw [hm, phN_new]; exact (s.rs_ne h hr).symm
    · rw [if_neg hm] at hn
      rw [phN_old hm]; exact (s.rsv r hr).2 n hn
/-- an object is changed -/
theorem Sto.set_ob {S : Sto} {o : Ob} {n m : Nat} : (S.set n o).ob m = if m = n then some o else S.ob m := rfl
theorem Sto.set_some {n m : Nat} {u : Ob} (h : (S.ob n).isSome = true) : ((S.set n u).ob m).isSome = true ↔ (S.ob m).isSome = true := by
  rw [Sto.set_ob]
  by_cases hm : m = n
  · rw [if_pos hm, hm]; exact ⟨fun _ => h, fun _ => rfl⟩
  · rw [if_neg hm]
theorem own_set {n : Nat} {u : Ob} {a : Addr} (h : (S.ob n).isSome = true) : Own ph (S.set n u) a ↔ Own ph S a := by
  constructor
  · rintro (q | ⟨m, h1, h2⟩)
    · exact .inl q
    · exact .inr ⟨m, (Sto.set_some h).mp h1, h2⟩
  · rintro (q | ⟨m, h1, h2⟩)
    · exact .inl q
    · exact .inr ⟨m, (Sto.set_some h).mpr h1, h2⟩
theorem Ext.setO {n : Nat} {o : HO} {u : Ob} (s : Sim K ph S H) (h : (S.ob n).isSome = true) : Ext ph S H ph (S.set n u) (upd H (ph.f n) o) :=
  ⟨⟨Nat.le_refl _, fun _ _ => rfl, fun a v e k => ⟨by
    rw [upd_ne]
    · exact e
    · rintro rfl; exact k (.inr ⟨n, h, rfl⟩), fun q => k ((own_set h).mp q)⟩⟩, rfl, fun r hr => upd_ne ((s.rsv r hr).2 n h).symm⟩
theorem Sim.setO {n : Nat} {o : HO} {u : Ob} (s : Sim K ph S H) (h : (S.ob n).isSome = true) (ho : RepO K ph (S.set n u) (upd H (ph.f n) o) u (ph.f n)) : Sim K ph (S.set n u) (upd H (ph.f n) o) := by
  refine ⟨fun m v e => ?_, fun i j h1 h2 e => s.inj i j ((Sto.set_some h).mp h1) ((Sto.set_some h).mp h2) e, fun m v e => ?_, fun r hr => ⟨by rw [upd_ne ((s.rsv r hr).2 n h).symm]; exact (s.rsv r hr).1, fun m hm => (s.rsv r hr).2 m ((Sto.set_some h).mp hm)⟩⟩
  · obtain ⟨w, hw⟩ := Option.isSome_iff_exists.mp ((Sto.set_some h).mp (by rw [e]; rfl))
    exact s.lt m w hw
  · rw [Sto.set_ob] at e
    by_cases hm : m = n
    · rw [if_pos hm] at e; cases e
      rw [hm]; exact ho
    · rw [if_neg hm] at e
      refine (s.ok m v e).ext (Ext.setO s h) (upd_ne fun q => hm (s.inj m n (by rw [e]; rfl) h q))
/-- an object is changed no more: it is a tree from now on -/
theorem Sto.del_ob {S : Sto} {n m : Nat} : (S.del n).ob m = if m = n then none else S.ob m := rfl
theorem own_del {n : Nat} {a : Addr} (h : Own ph (S.del n) a) : Own ph S a := by
  rcases h with q | ⟨m, h1, h2⟩
  · exact .inl q
  · rw [Sto.del_ob] at h1
    by_cases hm : m = n
    · rw [if_pos hm] at h1; cases h1
    · rw [if_neg hm] at h1; exact .inr ⟨m, h1, h2⟩
theorem Ext.delO {n : Nat} : Ext ph S H ph (S.del n) H := ⟨⟨Nat.le_refl _, fun _ _ => rfl, fun a v e k => ⟨e, fun q => k (own_del q)⟩⟩, rfl, fun _ _ => rfl⟩
theorem Sim.delO {n : Nat} (s : Sim K ph S H) : Sim K ph (S.del n) H := by
  have some_of : ∀ m v, (S.del n).ob m = some v → S.ob m = some v := fun m v q => by
    rw [Sto.del_ob] at q
    by_cases hm : m = n
    · rw [if_pos hm] at q; cases q
    · rw [if_neg hm] at q; exact q
  refine ⟨fun m v e => s.lt m v (some_of m v e), fun i j h1 h2 e => ?_, fun m v e => (s.ok m v (some_of m v e)).ext Ext.delO rfl, fun r hr => ⟨(s.rsv r hr).1, fun m hm => ?_⟩⟩
  · obtain ⟨a, ha⟩ := Option.isSome_iff_exists.mp h1
    obtain ⟨b, hb⟩ := Option.isSome_iff_exists.mp h2
    exact s.inj i j (by rw [some_of i a ha]; rfl) (by rw [some_of j b hb]; rfl) e
  · obtain ⟨a, ha⟩ := Option.isSome_iff_exists.mp hm
    exact (s.rsv r hr).2 m (by rw [some_of m a ha]; rfl)
theorem not_own_del {n : Nat} (s : Sim K ph S H) (h : (S.ob n).isSome = true) : ¬ Own ph (S.del n) (ph.f n) := by
  rintro (q | ⟨m, h1, h2⟩)
  · exact (s.rsv _ q).2 n h rfl
  · rw [Sto.del_ob] at h1
    by_cases hm : m = n
    · rw [if_pos hm] at h1; cases h1
    · rw [if_neg hm] at h1
      exact hm (s.inj m n h1 h h2)
/-! ### an object that the plain functions do not see -/
def Ph.res (ph : Ph) (p : Addr) : Ph := ⟨ph.f, p :: ph.rs⟩
theorem Ext0.res {p : Addr} {o : HO} (h : H p = none) : Ext0 ph S H (ph.res p) S (upd H p o) :=
  ⟨Nat.le_refl _, fun _ _ => rfl, fun a u e n => ⟨by rw [upd_ne (ne_of_none e h)]; exact e, by
    rintro (q | q)
    · rcases List.mem_cons.mp q with q | q
      · rw [q] at e; rw [h] at e; cases e
      · exact n (.inl q)
    · exact n (.inr q)⟩⟩
theorem Sim.res {p : Addr} {o : HO} (s : Sim K ph S H) (h : H p = none) : Sim K (ph.res p) S (upd H p o) :=
  ⟨s.lt, s.inj, fun n u e => (s.ok n u e).ext0 (Ext0.res h) (by
    obtain ⟨v, q⟩ := (s.ok n u e).there
    exact upd_ne (ne_of_none q h)), fun r hr => by
      rcases List.mem_cons.mp hr with q | q
      · subst q
        exact ⟨⟨o, upd_same⟩, fun n hn e => s.fresh h (.inr ⟨n, hn, e⟩)⟩
      · exact ⟨by rw [upd_ne (s.rs_ne h q)]; exact (s.rsv r q).1, (s.rsv r q).2⟩⟩
/-- the object that is not seen is written -/
theorem Ext0.wr {p : Addr} {o : HO} (hp : p ∈ ph.rs) : Ext0 ph S H ph S (upd H p o) :=
  ⟨Nat.le_refl _, fun _ _ => rfl, fun a u e n => ⟨by rw [upd_ne (by rintro rfl; exact n (.inl hp))]; exact e, n⟩⟩
theorem Sim.wr {p : Addr} {o : HO} (s : Sim K ph S H) (hp : p ∈ ph.rs) : Sim K ph S (upd H p o) :=
  ⟨s.lt, s.inj, fun n u e => (s.ok n u e).ext0 (Ext0.wr hp) (upd_ne fun q => (s.rsv p hp).2 n (by rw [e]; rfl) q), fun r hr => ⟨by
    by_cases h : r = p
    · rw [h]; exact ⟨o, upd_same⟩
    · rw [upd_ne h]; exact (s.rsv r hr).1, (s.rsv r hr).2⟩⟩
/-- and is seen from now on -/
def Ph.free (ph : Ph) (rs : List Addr) : Ph := ⟨ph.f, rs⟩
theorem Ext0.free {p : Addr} {rs : List Addr} (hp : ph.rs = p :: rs) : Ext0 ph S H (ph.free rs) S H :=
  ⟨Nat.le_refl _, fun _ _ => rfl, fun a u e n => ⟨e, by
    rintro (q | q)
    · exact n (.inl (by rw [hp]; exact List.mem_cons_of_mem _ q))
    · exact n (.inr q)⟩⟩
theorem Sim.free {p : Addr} {rs : List Addr} (s : Sim K ph S H) (hp : ph.rs = p :: rs) : Sim K (ph.free rs) S H :=
  ⟨s.lt, s.inj, fun n u e => (s.ok n u e).ext0 (Ext0.free hp) rfl, fun r hr => s.rsv r (by rw [hp]; exact List.mem_cons_of_mem _ hr)⟩
end

/-! ### slots -/
abbrev Env := List (Option D)
def REnv (K : PySem.W.Frag) (ph : Ph) (S : Sto) (H : Hp) (rho : Env) (sg : L2.St) : Prop :=
  rho.length = sg.length ∧ ∀ (i : Nat) (d : D), rho[i]? = some (some d) → ∃ v : V, sg[i]? = some (some v) ∧ Rep K ph S H d v
section
variable {K : PySem.W.Frag} {ph ph1 : Ph} {S S1 : Sto} {H H1 : Hp} {rho : Env} {sg : L2.St}
theorem REnv.ext0 (e : Ext0 ph S H ph1 S1 H1) (h : REnv K ph S H rho sg) : REnv K ph1 S1 H1 rho sg :=
  ⟨h.1, fun i d q => let ⟨v, a, b⟩ := h.2 i d q; ⟨v, a, Rep.ext0 e d v b⟩⟩
theorem REnv.ext (e : Ext ph S H ph1 S1 H1) (h : REnv K ph S H rho sg) : REnv K ph1 S1 H1 rho sg := h.ext0 e.toExt0
theorem REnv.set {d : D} {v : V} (h : REnv K ph S H rho sg) (i : Nat) (r : Rep K ph S H d v) : REnv K ph S H (rho.set i (some d)) (sg.set i (some v)) := by
  refine ⟨by rw [List.length_set, List.length_set]; exact h.1, fun j e q => ?_⟩
  by_cases hj : i = j
  · subst hj
    by_cases hi : i < rho.length
    · rw [List.getElem?_set_self hi] at q
      cases q
      exact ⟨v, List.getElem?_set_self (by rw [← h.1]; exact hi), r⟩
    · rw [List.getElem?_eq_none (by rw [List.length_set]; omega)] at q; cases q
  · rw [List.getElem?_set_ne hj] at q
    obtain ⟨u, a, b⟩ := h.2 j e q
    exact ⟨u, by rw [List.getElem?_set_ne hj]; exact a, b⟩
theorem REnv.unset (h : REnv K ph S H rho sg) (i : Nat) : REnv K ph S H (rho.set i none) (sg.set i none) := by
  refine ⟨by rw [List.length_set, List.length_set]; exact h.1, fun j e q => ?_⟩
  by_cases hj : i = j
  · subst hj
    by_cases hi : i < rho.length
    · rw [List.getElem?_set_self hi] at q
      cases q
    · rw [List.getElem?_eq_none (by rw [List.length_set]; omega)] at q; cases q
  · rw [List.getElem?_set_ne hj] at q
    obtain ⟨u, a, b⟩ := h.2 j e q
    exact ⟨u, by rw [List.getElem?_set_ne hj]; exact a, b⟩
def wipeR (rho : Env) : List Nat → Env
  | [] => rho
  | v :: vs => (wipeR rho vs).set v none
theorem REnv.wipe (h : REnv K ph S H rho sg) : ∀ vs : List Nat, REnv K ph S H (wipeR rho vs) (L2.wipe sg vs)
  | [] => h
  | v :: vs => (h.wipe vs).unset v
end
end Mn

set_option maxRecDepth 100000
set_option maxHeartbeats 1000000
/-! Mn: expressions. -/
namespace Mn
open PySem PySem.Spec PyProof.Rows L2

abbrev M (α : Type) := Sto → Option (α × Sto)
def ret {α : Type} (a : α) : M α := fun S => some (a, S)
def bnd {α β : Type} (m : M α) (f : α → M β) : M β := fun S => (m S).bind fun p => f p.1 p.2
def fail {α : Type} : M α := fun _ => none
theorem bnd_inv {α β : Type} {m : M α} {f : α → M β} {S : Sto} {b : β} {S2 : Sto} (h : bnd m f S = some (b, S2)) : ∃ a S1, m S = some (a, S1) ∧ f a S1 = some (b, S2) := by
  unfold bnd at h
  cases e : m S with
  | none => rw [e] at h; cases h
  | some p => rw [e] at h; exact ⟨p.1, p.2, rfl, h⟩
abbrev EM (α : Type) := Env → M α

section
variable (K : PySem.W.Frag)
def PostE (ph : Ph) (S : Sto) (H : Hp) (Q : VK) (d : D) (S' : Sto) : Prop := ∀ ph' H' v, Ext ph S H ph' S' H' → Sim K ph' S' H' → Rep K ph' S' H' d v → Q v H'
def PostB (ph : Ph) (S : Sto) (H : Hp) (Q : Bool → Hp → Prop) (b : Bool) (S' : Sto) : Prop := ∀ ph' H', Ext ph S H ph' S' H' → Sim K ph' S' H' → Q b H'
def PostL (ph : Ph) (S : Sto) (H : Hp) (Q : List V → Hp → Prop) (ds : List D) (S' : Sto) : Prop := ∀ ph' H' vs, Ext ph S H ph' S' H' → Sim K ph' S' H' → RepL K ph' S' H' ds vs → Q vs H'
def PostI (ph : Ph) (S : Sto) (H : Hp) (Q : Option Int → Hp → Prop) (o : Option Int) (S' : Sto) : Prop := ∀ ph' H', Ext ph S H ph' S' H' → Sim K ph' S' H' → Q o H'
def rdE (m : EM D) : TE := fun sg H Q => ∃ ph S rho d S', Sim K ph S H ∧ REnv K ph S H rho sg ∧ m rho S = some (d, S') ∧ PostE K ph S H Q d S'
def rdT (m : EM Bool) : TT := fun sg H Q => ∃ ph S rho b S', Sim K ph S H ∧ REnv K ph S H rho sg ∧ m rho S = some (b, S') ∧ PostB K ph S H Q b S'
def rdA (m : EM (List D)) : TA := fun sg H Q => ∃ ph S rho ds S', Sim K ph S H ∧ REnv K ph S H rho sg ∧ m rho S = some (ds, S') ∧ PostL K ph S H Q ds S'
def rdO (m : EM (Option Int)) : TO := fun sg H Q => ∃ ph S rho o S', Sim K ph S H ∧ REnv K ph S H rho sg ∧ m rho S = some (o, S') ∧ PostI K ph S H Q o S'
/-- an operator on values does what f says of the data -/
def OpM (r : R2) (f : D → D → M D) : Prop := ∀ ph S H x y dx dy d S' (Q : VK), Sim K ph S H → Rep K ph S H dx x → Rep K ph S H dy y → f dx dy S = some (d, S') → PostE K ph S H Q d S' → r x y H Q
def UnM (r : V → Hp → VK → Prop) (f : D → M D) : Prop := ∀ ph S H x dx d S' (Q : VK), Sim K ph S H → Rep K ph S H dx x → f dx S = some (d, S') → PostE K ph S H Q d S' → r x H Q
def CaM (r : List V → Hp → VK → Prop) (f : List D → M D) : Prop := ∀ ph S H xs dxs d S' (Q : VK), Sim K ph S H → RepL K ph S H dxs xs → f dxs S = some (d, S') → PostE K ph S H Q d S' → r xs H Q
def MeM (T : String) (r : V → List V → Hp → VK → Prop) (f : D → List D → M D) : Prop := ∀ ph S H x xs dx dxs d S' (Q : VK), Sim K ph S H → Rep K ph S H dx x → RepL K ph S H dxs xs → f dx dxs S = some (d, S') → PostE K ph S H Q d S' → r x xs H Q
end

section
variable {X : Cx} {K : PySem.W.Frag}
theorem PE.weak {e : Expr} {t t' : TE} (h : PE X e t) (k : ∀ sg H Q, t' sg H Q → t sg H Q) : PE X e t' := ⟨fun pins s sg H Q I q => h.run pins s sg H Q I (k sg H Q q)⟩
theorem PT.weak {e : Expr} {t t' : TT} (h : PT X e t) (k : ∀ sg H Q, t' sg H Q → t sg H Q) : PT X e t' := ⟨fun pins s sg H Q I q => h.run pins s sg H Q I (k sg H Q q)⟩
theorem PW.weak {e : Expr} {t t' : TT} (h : PW X e t) (k : ∀ sg H Q, t' sg H Q → t sg H Q) : PW X e t' := ⟨fun wh pins s sg H Q I q => h.run wh pins s sg H Q I (k sg H Q q)⟩
theorem PA.weak {e : List Expr} {t t' : TA} (h : PA X e t) (k : ∀ sg H Q, t' sg H Q → t sg H Q) : PA X e t' := ⟨fun pos pins s sg H Q I q => h.run pos pins s sg H Q I (k sg H Q q)⟩
theorem PO.weak {e : Option Expr} {t t' : TO} (h : PO X e t) (k : ∀ sg H Q, t' sg H Q → t sg H Q) : PO X e t' := ⟨fun pins s sg H Q I q => h.run pins s sg H Q I (k sg H Q q)⟩

/-! ### bind: one part after another -/
theorem rdE_b {α : Type} {m : EM D} {f : D → EM D} {sg : L2.St} {H : Hp} {Q : VK} (h : rdE K (fun rho => bnd (m rho) fun d => f d rho) sg H Q) :
    rdE K m sg H fun x H1 => ∃ ph S rho d d' S', Sim K ph S H1 ∧ REnv K ph S H1 rho sg ∧ Rep K ph S H1 d x ∧ f d rho S = some (d', S') ∧ PostE K ph S H1 Q d' S' := by
  obtain ⟨ph, S, rho, d', S', s, en, e, post⟩ := h
  obtain ⟨d, S1, e1, e2⟩ := bnd_inv e
  exact ⟨ph, S, rho, d, S1, s, en, e1, fun ph1 H1 x E1 s1 r1 => ⟨ph1, S1, rho, d, d', S', s1, en.ext E1, r1, e2, fun ph2 H2 v E2 s2 r2 => post ph2 H2 v (E1.trans E2) s2 r2⟩⟩
theorem PostE.now {ph : Ph} {S : Sto} {H : Hp} {Q : VK} {d : D} {v : V} (p : PostE K ph S H Q d S) (s : Sim K ph S H) (r : Rep K ph S H d v) : Q v H := p ph H v Ext.refl s r
theorem PostE.of {ph ph1 : Ph} {S S1 S' : Sto} {H H1 : Hp} {Q : VK} {d : D} (p : PostE K ph S H Q d S') (E : Ext ph S H ph1 S1 H1) : PostE K ph1 S1 H1 Q d S' := fun ph2 H2 v E2 s2 r2 => p ph2 H2 v (E.trans E2) s2 r2

/-! ### names, constants -/
def mV (i : Nat) : EM D := fun rho S => match rho[i]? with
  | some (some d) => some (d, S)
  | _ => none
theorem e_v (i : Nat) {x : Str} {pos : Pos} (hN : X.N[i]? = some x := by rfl) (hv : Vis X.env.scope x := by first | exact Or.inl rfl | exact Or.inr (Or.inl rfl) | exact Or.inr (Or.inr rfl)) (hd : (x == ("__debug__" : Str)) = false := by decide)
    (hcd : (x == ("__classdict__" : Str)) = false := by decide) : PE X (.Name x pos) (rdE X.K (mV i)) := by
  refine PE.weak (pe_var hN hv hd hcd) fun sg H Q h => ?_
  obtain ⟨ph, S, rho, d, S', s, en, e, post⟩ := h
  unfold mV at e
  split at e
  · rename_i c hc
    cases e
    obtain ⟨v, h1, h2⟩ := en.2 i d hc
    exact ⟨v, h1, post.now s h2⟩
  · cases e
def mC (d : D) : EM D := fun _ => ret d
theorem rdC {d : D} {v : V} (hr : ∀ ph S H, Rep K ph S H d v) {sg : L2.St} {H : Hp} {Q : VK} (h : rdE K (mC d) sg H Q) : tC v sg H Q := by
  obtain ⟨ph, S, rho, d', S', s, en, e, post⟩ := h
  cases e
  exact post.now s (hr ph S H)
theorem e_int {i : Int} {j pos} : PE X (.Constant (.int i) j pos) (rdE X.K (mC (.int i))) := PE.weak pe_int fun _ _ _ h => rdC (fun _ _ _ => by rw [Rep]) h
theorem e_bl {b : Bool} {j pos} : PE X (.Constant (.bool b) j pos) (rdE X.K (mC (.bl b))) := PE.weak pe_bl fun _ _ _ h => rdC (fun _ _ _ => by rw [Rep]) h
theorem e_non {j pos} : PE X (.Constant .none j pos) (rdE X.K (mC .non)) := PE.weak pe_non fun _ _ _ h => rdC (fun _ _ _ => by rw [Rep]) h
theorem e_str {x : Str} {j pos} : PE X (.Constant (.str x) j pos) (rdE X.K (mC (.str x))) := PE.weak pe_str fun _ _ _ h => rdC (fun _ _ _ => by rw [Rep]) h
/-- a module's text, number -/
theorem e_gstr {x : Str} {y : Str} {t : Tok} {pos : Pos} (hg : Gl X x) (hm : X.mg x = some (.str y t)) (hd : (x == ("__debug__" : Str)) = false := by decide) : PE X (.Name x pos) (rdE X.K (mC (.str y))) :=
  PE.weak (pe_glob (v := .str y) hg hm ⟨t, rfl⟩ hd) fun _ _ _ h => rdC (fun _ _ _ => by rw [Rep]) h
theorem e_gint {x : Str} {y : Int} {t : Tok} {pos : Pos} (hg : Gl X x) (hm : X.mg x = some (.int y t)) (hd : (x == ("__debug__" : Str)) = false := by decide) : PE X (.Name x pos) (rdE X.K (mC (.int y))) :=
  PE.weak (pe_glob (v := .int y) hg hm ⟨t, rfl⟩ hd) fun _ _ _ h => rdC (fun _ _ _ => by rw [Rep]) h

/-! ### operators -/
def mBin (f : D → D → M D) (ma mb : EM D) : EM D := fun rho => bnd (ma rho) fun a => bnd (mb rho) fun b => f a b
theorem rd_two {f : D → D → M D} {ma mb : EM D} {r : R2} (hm : OpM K r f) {sg : L2.St} {H : Hp} {Q : VK} (h : rdE K (mBin f ma mb) sg H Q) : tOp r (rdE K ma) (rdE K mb) sg H Q := by
  obtain ⟨ph, S, rho, d, S', s, en, e, post⟩ := h
  obtain ⟨a, S1, e1, e⟩ := bnd_inv e
  obtain ⟨b, S2, e2, e3⟩ := bnd_inv e
  exact ⟨ph, S, rho, a, S1, s, en, e1, fun ph1 H1 x E1 s1 r1 => ⟨ph1, S1, rho, b, S2, s1, en.ext E1, e2, fun ph2 H2 y E2 s2 r2 => hm ph2 S2 H2 x y a b d S' Q s2 (r1.ext E2) r2 e3 (post.of (E1.trans E2))⟩⟩
theorem e_bin {op : Operator} {r : R2} {f : D → D → M D} {ma mb : EM D} {a b : Expr} {pos : Pos} (ho : OpR X (binaryOp op) r) (hm : OpM X.K r f) (ha : PE X a (rdE X.K ma)) (hb : PE X b (rdE X.K mb)) : PE X (.BinOp a op b pos) (rdE X.K (mBin f ma mb)) :=
  PE.weak (pe_op ho ha hb) fun _ _ _ h => rd_two hm h
theorem e_cmp {op : CmpOp} {r : R2} {f : D → D → M D} {ma mb : EM D} {a b : Expr} {pos : Pos} (ho : OpR X (compareOp op) r) (hm : OpM X.K r f) (ha : PE X a (rdE X.K ma)) (hb : PE X b (rdE X.K mb)) (hk : behindInMarks op b = false := by first | exact nobehind _ (by decide) (by decide) | rfl) :
    PE X (.Compare a [op] [b] pos) (rdE X.K (mBin f ma mb)) := PE.weak (pe_cmpR ho ha hb hk) fun _ _ _ h => rd_two hm h
def mUn (f : D → M D) (ma : EM D) : EM D := fun rho => bnd (ma rho) f
theorem rd_one {f : D → M D} {ma : EM D} {r : V → Hp → VK → Prop} (hm : UnM K r f) {sg : L2.St} {H : Hp} {Q : VK} (h : rdE K (mUn f ma) sg H Q) : tUn r (rdE K ma) sg H Q := by
  obtain ⟨ph, S, rho, d, S', s, en, e, post⟩ := h
  obtain ⟨a, S1, e1, e2⟩ := bnd_inv e
  exact ⟨ph, S, rho, a, S1, s, en, e1, fun ph1 H1 x E1 s1 r1 => hm ph1 S1 H1 x a d S' Q s1 r1 e2 (post.of E1)⟩
theorem e_un {op : UnaryOp} {r : V → Hp → VK → Prop} {f : D → M D} {ma : EM D} {a : Expr} {pos : Pos} (ho : UnR X (unaryOp op) r) (hm : UnM X.K r f) (ha : PE X a (rdE X.K ma)) : PE X (.UnaryOp op a pos) (rdE X.K (mUn f ma)) :=
  PE.weak (pe_un ho ha) fun _ _ _ h => rd_one hm h
/-- a <= b < c -/
def asB : D → M Bool := fun d S => match d with
  | .bl b => some (b, S)
  | _ => none
theorem asB_inv {d : D} {S S1 : Sto} {b : Bool} (h : asB d S = some (b, S1)) : d = .bl b ∧ S1 = S := by
  unfold asB at h
  split at h
  · cases h; exact ⟨rfl, rfl⟩
  · cases h
def mChain (f g : D → D → M D) (ma mb mc : EM D) : EM D := fun rho => bnd (ma rho) fun a => bnd (mb rho) fun b => bnd (f a b) fun z => bnd (asB z) fun k => if k then bnd (mc rho) fun c => g b c else ret (.bl false)
theorem rd_chain {f g : D → D → M D} {ma mb mc : EM D} {r r' : R2} (hf : OpM K r f) (hg : OpM K r' g) {sg : L2.St} {H : Hp} {Q : VK} (h : rdE K (mChain f g ma mb mc) sg H Q) : tChain r r' (rdE K ma) (rdE K mb) (rdE K mc) sg H Q := by
  obtain ⟨ph, S, rho, d, S', s, en, ea, post⟩ := h
  obtain ⟨a, S1, e1, eb⟩ := bnd_inv ea
  obtain ⟨b, S2, e2, ec⟩ := bnd_inv eb
  obtain ⟨z, S3, e3, ed⟩ := bnd_inv ec
  obtain ⟨k, S4, e4, ee⟩ := bnd_inv ed
  obtain ⟨rfl, rfl⟩ := asB_inv e4
  clear ea eb ec ed
  refine ⟨ph, S, rho, a, S1, s, en, e1, fun ph1 H1 x E1 s1 r1 => ⟨ph1, S1, rho, b, S2, s1, en.ext E1, e2, fun ph2 H2 y E2 s2 r2 => hf ph2 S2 H2 x y a b (.bl k) S4 _ s2 (r1.ext E2) r2 e3 fun ph3 H3 zz E3 s3 r3 => ?_⟩⟩
  rw [Rep] at r3
  refine ⟨k, r3, ?_⟩
  cases k with
  | true =>
    simp only [if_true] at ee ⊢
    obtain ⟨dc, S5, e5, e6⟩ := bnd_inv ee
    exact ⟨ph3, S4, rho, dc, S5, s3, ((en.ext E1).ext E2).ext E3, e5, fun ph4 H4 w E4 s4 r4 => hg ph4 S5 H4 y w b dc d S' Q s4 ((r2.ext E3).ext E4) r4 e6 (post.of (((E1.trans E2).trans E3).trans E4))⟩
  | false =>
    simp only [Bool.false_eq_true, if_false] at ee ⊢
    cases ee
    exact (post.of ((E1.trans E2).trans E3)).now s3 (by rw [Rep])
theorem e_chain {op op' : CmpOp} {r r' : R2} {f g : D → D → M D} {ma mb mc : EM D} {a b c : Expr} {pos : Pos} (ho : OpR X (compareOp op) r) (hm : OpM X.K r f) (ho' : OpR X (compareOp op') r') (hm' : OpM X.K r' g) (ha : PE X a (rdE X.K ma)) (hb : PE X b (rdE X.K mb)) (hc : PE X c (rdE X.K mc))
    (hk : lastMarks [op, op'] [b, c] = false := by with_unfolding_all rfl) : PE X (.Compare a [op, op'] [b, c] pos) (rdE X.K (mChain f g ma mb mc)) :=
  PE.weak (pe_chain ho ho' ha hb hc hk) fun _ _ _ h => rd_chain hm hm' h

/-! ### is None -/
def isNonD : D → Bool
  | .non => true
  | _ => false
theorem isNon_of {ph : Ph} {S : Sto} {H : Hp} {d : D} {x : V} (r : Rep K ph S H d x) : decide (x = V.non) = isNonD d := by
  cases d with
  | non => rw [Rep] at r; subst r; rfl
  | bl b => rw [Rep] at r; subst r; rfl
  | int b => rw [Rep] at r; subst r; rfl
  | str b => rw [Rep] at r; subst r; rfl
  | tup ds => rw [Rep] at r; obtain ⟨a, xs, rfl, _⟩ := r; rfl
  | lst ds => rw [Rep] at r; obtain ⟨a, xs, rfl, _⟩ := r; rfl
  | rol ds => rw [Rep] at r; obtain ⟨a, xs, rfl, _⟩ := r; rfl
  | dic ks ds => rw [Rep] at r; obtain ⟨a, xs, rfl, _⟩ := r; rfl
  | ref n => rw [Rep] at r; obtain ⟨_, rfl⟩ := r; rfl
def mIsN (ma : EM D) : EM D := fun rho => bnd (ma rho) fun a => ret (.bl (isNonD a))
def mNotN (ma : EM D) : EM D := fun rho => bnd (ma rho) fun a => ret (.bl (!isNonD a))
theorem e_isN {ma : EM D} {a : Expr} {j pos' pos} (ha : PE X a (rdE X.K ma)) : PE X (.Compare a [.Is] [.Constant .none j pos'] pos) (rdE X.K (mIsN ma)) := by
  refine PE.weak (pe_cmp (pc_isN ha)) fun sg H Q h => ?_
  obtain ⟨ph, S, rho, d, S', s, en, e, post⟩ := h
  obtain ⟨a, S1, e1, e2⟩ := bnd_inv e
  cases e2
  exact ⟨ph, S, rho, a, _, s, en, e1, fun ph1 H1 x E1 s1 r1 => (post.of E1).now s1 (by rw [Rep, isNon_of r1])⟩
theorem e_notN {ma : EM D} {a : Expr} {j pos' pos} (ha : PE X a (rdE X.K ma)) : PE X (.Compare a [.IsNot] [.Constant .none j pos'] pos) (rdE X.K (mNotN ma)) := by
  refine PE.weak (pe_cmp (pc_notN ha)) fun sg H Q h => ?_
  obtain ⟨ph, S, rho, d, S', s, en, e, post⟩ := h
  obtain ⟨a, S1, e1, e2⟩ := bnd_inv e
  cases e2
  exact ⟨ph, S, rho, a, _, s, en, e1, fun ph1 H1 x E1 s1 r1 => (post.of E1).now s1 (by rw [Rep, isNon_of r1])⟩

/-! ### tests -/
def mB (ma : EM D) : EM Bool := fun rho => bnd (ma rho) asB
theorem rd_B {ma : EM D} {sg : L2.St} {H : Hp} {Q : Bool → Hp → Prop} (h : rdT K (mB ma) sg H Q) : tTest (rdE K ma) sg H Q := by
  obtain ⟨ph, S, rho, b, S', s, en, e, post⟩ := h
  obtain ⟨a, S1, e1, e2⟩ := bnd_inv e
  obtain ⟨rfl, rfl⟩ := asB_inv e2
  exact ⟨ph, S, rho, .bl b, _, s, en, e1, fun ph1 H1 x E1 s1 r1 => ⟨b, by rw [Rep] at r1; exact r1, post ph1 H1 E1 s1⟩⟩
theorem t_cmp {op : CmpOp} {r : R2} {f : D → D → M D} {ma mb : EM D} {a b : Expr} {pos : Pos} (ho : OpR X (compareOp op) r) (hm : OpM X.K r f) (ha : PE X a (rdE X.K ma)) (hb : PE X b (rdE X.K mb)) (hk : behindInMarks op b = false := by first | exact nobehind _ (by decide) (by decide) | rfl) :
    PT X (.Compare a [op] [b] pos) (rdT X.K (mB (mBin f ma mb))) := PT.weak (pt_cmpR ho ha hb hk) fun sg H Q h => by
  have h1 := rd_B h
  obtain ⟨ph, S, rho, d, S', s, en, e, post⟩ := h1
  exact rd_two hm ⟨ph, S, rho, d, S', s, en, e, post⟩
theorem t_chain {op op' : CmpOp} {r r' : R2} {f g : D → D → M D} {ma mb mc : EM D} {a b c : Expr} {pos : Pos} (ho : OpR X (compareOp op) r) (hm : OpM X.K r f) (ho' : OpR X (compareOp op') r') (hm' : OpM X.K r' g) (ha : PE X a (rdE X.K ma)) (hb : PE X b (rdE X.K mb)) (hc : PE X c (rdE X.K mc))
    (hk : lastMarks [op, op'] [b, c] = false := by with_unfolding_all rfl) : PT X (.Compare a [op, op'] [b, c] pos) (rdT X.K (mB (mChain f g ma mb mc))) :=
  PT.weak (pt_chain ho ho' ha hb hc hk) fun sg H Q h => by
    have h1 := rd_B h
    obtain ⟨ph, S, rho, d, S', s, en, e, post⟩ := h1
    exact rd_chain hm hm' ⟨ph, S, rho, d, S', s, en, e, post⟩
theorem t_isN {ma : EM D} {a : Expr} {j pos' pos} (ha : PE X a (rdE X.K ma)) : PT X (.Compare a [.Is] [.Constant .none j pos'] pos) (rdT X.K (mB (mIsN ma))) := by
  refine PT.weak (pt_cmp (pc_isN ha)) fun sg H Q h => ?_
  obtain ⟨ph, S, rho, d, S', s, en, e, post⟩ := rd_B h
  obtain ⟨a, S1, e1, e2⟩ := bnd_inv e
  cases e2
  exact ⟨ph, S, rho, a, _, s, en, e1, fun ph1 H1 x E1 s1 r1 => (post.of E1).now s1 (by rw [Rep, isNon_of r1])⟩
theorem t_notN {ma : EM D} {a : Expr} {j pos' pos} (ha : PE X a (rdE X.K ma)) : PT X (.Compare a [.IsNot] [.Constant .none j pos'] pos) (rdT X.K (mB (mNotN ma))) := by
  refine PT.weak (pt_cmp (pc_notN ha)) fun sg H Q h => ?_
  obtain ⟨ph, S, rho, d, S', s, en, e, post⟩ := rd_B h
  obtain ⟨a, S1, e1, e2⟩ := bnd_inv e
  cases e2
  exact ⟨ph, S, rho, a, _, s, en, e1, fun ph1 H1 x E1 s1 r1 => (post.of E1).now s1 (by rw [Rep, isNon_of r1])⟩
/-- truth -/
def lim : Nat := sizeLine
def truM : D → M Bool := fun d S => match d with
  | .non => some (false, S)
  | .bl b => some (b, S)
  | .int i => some (i != 0, S)
  | .str y => if y.length ≤ lim then some ((y.length : Int) != 0, S) else none
  | .tup ds => some (!ds.isEmpty, S)
  | .lst ds => some (!ds.isEmpty, S)
  | .rol ds => some (!ds.isEmpty, S)
  | .dic ks _ => some (!ks.isEmpty, S)
  | .ref n => match S.ob n with
    | some (.lst ds) => some (!ds.isEmpty, S)
    | some (.dic ks _) => some (!ks.isEmpty, S)
    | none => none
theorem isEmpty_rep {ph : Ph} {S : Sto} {H : Hp} {ds : List D} {xs : List V} (h : RepL K ph S H ds xs) : (!xs.isEmpty) = !ds.isEmpty := by
  cases ds with
  | nil => rw [h.nil_inv]; rfl
  | cons d ds => obtain ⟨x, r, rfl, _⟩ := h.cons_inv; rfl
theorem isEmpty_map {α β : Type} (f : α → β) (l : List α) : (l.map f).isEmpty = l.isEmpty := by cases l <;> rfl
theorem tru_of {ph : Ph} {S S' : Sto} {H : Hp} {d : D} {x : V} {b : Bool} (s : Sim K ph S H) (r : Rep K ph S H d x) (h : truM d S = some (b, S')) : TruV K x H b ∧ S' = S := by
  unfold truM at h
  cases d with
  | non => rw [Rep] at r; subst r; cases h; exact ⟨rfl, rfl⟩
  | bl c => rw [Rep] at r; subst r; cases h; exact ⟨rfl, rfl⟩
  | int i => rw [Rep] at r; subst r; cases h; exact ⟨rfl, rfl⟩
  | str y =>
    rw [Rep] at r; subst r
    simp only at h
    split at h
    · cases h; exact ⟨⟨by assumption, rfl⟩, rfl⟩
    · cases h
  | tup ds => rw [Rep] at r; obtain ⟨a, xs, rfl, h1, h2⟩ := r; cases h; exact ⟨.inr (.inl ⟨xs, h1.sq, (isEmpty_rep h2).symm⟩), rfl⟩
  | lst ds => rw [Rep] at r; obtain ⟨a, xs, rfl, h1, h2⟩ := r; cases h; exact ⟨.inl ⟨xs, .inl (.inl h1.1), (isEmpty_rep h2).symm⟩, rfl⟩
  | rol ds => rw [Rep] at r; obtain ⟨a, xs, rfl, h1, h2⟩ := r; cases h; exact ⟨.inl ⟨xs, h1.sq, (isEmpty_rep h2).symm⟩, rfl⟩
  | dic ks ds =>
    rw [Rep] at r; obtain ⟨a, kvs, rfl, h1, h2, h3⟩ := r; cases h
    refine ⟨.inr (.inr ⟨kvs, h1.1, ?_⟩), rfl⟩
    rw [← h2, isEmpty_map]
  | ref n =>
    rw [Rep] at r; obtain ⟨_, rfl⟩ := r
    simp only at h
    split at h
    · rename_i ds e
      obtain ⟨xs, h1, h2⟩ := s.ok n _ e
      cases h
      exact ⟨.inl ⟨xs, .inl (.inl h1), (isEmpty_rep h2).symm⟩, rfl⟩
    · rename_i ks ds e
      obtain ⟨kvs, h1, h2, h3⟩ := s.ok n _ e
      cases h
      refine ⟨.inr (.inr ⟨kvs, h1, ?_⟩), rfl⟩
      rw [← h2, isEmpty_map]
    · cases h
def mTru (ma : EM D) : EM Bool := fun rho => bnd (ma rho) truM
theorem t_tru {ma : EM D} {a : Expr} (ha : PE X a (rdE X.K ma)) (he : ∀ whole, isTrue a X.env whole = (do let v ← whole; standAt a.pos; holding [v] (truthy v)) := by intro _; rfl) : PT X a (rdT X.K (mTru ma)) := by
  refine PT.weak (pt_truth ha he) fun sg H Q h => ?_
  obtain ⟨ph, S, rho, b, S', s, en, e, post⟩ := h
  obtain ⟨a, S1, e1, e2⟩ := bnd_inv e
  refine ⟨ph, S, rho, a, S1, s, en, e1, fun ph1 H1 x E1 s1 r1 => ?_⟩
  obtain ⟨h1, rfl⟩ := tru_of s1 r1 e2
  exact ⟨b, h1, post ph1 H1 E1 s1⟩
def mAnd (ma mb : EM Bool) : EM Bool := fun rho => bnd (ma rho) fun c => if c then mb rho else ret false
def mOr (ma mb : EM Bool) : EM Bool := fun rho => bnd (ma rho) fun c => if c then ret true else mb rho
def mNot (ma : EM Bool) : EM Bool := fun rho => bnd (ma rho) fun c => ret (!c)
theorem rd_and {ma mb : EM Bool} {sg : L2.St} {H : Hp} {Q : Bool → Hp → Prop} (h : rdT K (mAnd ma mb) sg H Q) : tAnd (rdT K ma) (rdT K mb) sg H Q := by
  obtain ⟨ph, S, rho, b, S', s, en, e, post⟩ := h
  obtain ⟨c, S1, e1, e2⟩ := bnd_inv e
  refine ⟨ph, S, rho, c, S1, s, en, e1, fun ph1 H1 E1 s1 => ?_⟩
  cases c with
  | true =>
    simp only [if_true] at e2 ⊢
    exact ⟨ph1, S1, rho, b, S', s1, en.ext E1, e2, fun ph2 H2 E2 s2 => post ph2 H2 (E1.trans E2) s2⟩
  | false =>
    simp only [Bool.false_eq_true, if_false] at e2 ⊢
    cases e2
    exact post ph1 H1 E1 s1
theorem rd_or {ma mb : EM Bool} {sg : L2.St} {H : Hp} {Q : Bool → Hp → Prop} (h : rdT K (mOr ma mb) sg H Q) : tOr (rdT K ma) (rdT K mb) sg H Q := by
  obtain ⟨ph, S, rho, b, S', s, en, e, post⟩ := h
  obtain ⟨c, S1, e1, e2⟩ := bnd_inv e
  refine ⟨ph, S, rho, c, S1, s, en, e1, fun ph1 H1 E1 s1 => ?_⟩
  cases c with
  | false =>
    simp only [Bool.false_eq_true, if_false] at e2 ⊢
    exact ⟨ph1, S1, rho, b, S', s1, en.ext E1, e2, fun ph2 H2 E2 s2 => post ph2 H2 (E1.trans E2) s2⟩
  | true =>
    simp only [if_true] at e2 ⊢
    cases e2
    exact post ph1 H1 E1 s1
variable {a b c e : Expr} {rest : List Expr} {pos : Pos} {ma mb mc : EM D} {na nb : EM Bool}
theorem w_and1 (ha : PT X a (rdT X.K na)) : PW X (.BoolOp .And [a] pos) (rdT X.K na) := pw_and1 ha
theorem w_or1 (ha : PT X a (rdT X.K na)) : PW X (.BoolOp .Or [a] pos) (rdT X.K na) := pw_or1 ha
theorem w_and (ha : PT X a (rdT X.K na)) (hb : PW X (.BoolOp .And (b :: rest) pos) (rdT X.K nb)) : PW X (.BoolOp .And (a :: b :: rest) pos) (rdT X.K (mAnd na nb)) := PW.weak (pw_and ha hb) fun _ _ _ h => rd_and h
theorem w_or (ha : PT X a (rdT X.K na)) (hb : PW X (.BoolOp .Or (b :: rest) pos) (rdT X.K nb)) : PW X (.BoolOp .Or (a :: b :: rest) pos) (rdT X.K (mOr na nb)) := PW.weak (pw_or ha hb) fun _ _ _ h => rd_or h
theorem t_w (h : PW X e (rdT X.K na)) : PT X e (rdT X.K na) := h.pt
theorem t_not (ha : PT X a (rdT X.K na)) : PT X (.UnaryOp .Not a pos) (rdT X.K (mNot na)) := PT.weak (pt_not ha) fun sg H Q h => by
  obtain ⟨ph, S, rho, b, S', s, en, e, post⟩ := h
  obtain ⟨c, S1, e1, e2⟩ := bnd_inv e
  cases e2
  exact ⟨ph, S, rho, c, _, s, en, e1, fun ph1 H1 E1 s1 => post ph1 H1 E1 s1⟩

/-! ### .. as values -/
def mAndV (ma mb : EM D) : EM D := fun rho => bnd (ma rho) fun a => bnd (truM a) fun k => if k then mb rho else ret a
def mOrV (ma mb : EM D) : EM D := fun rho => bnd (ma rho) fun a => bnd (truM a) fun k => if k then ret a else mb rho
def mNotV (ma : EM D) : EM D := fun rho => bnd (ma rho) fun a => bnd (truM a) fun k => ret (.bl (!k))
theorem e_one {op} (h : PE X a (rdE X.K ma)) : PE X (.BoolOp op [a] pos) (rdE X.K ma) := pe_one h
theorem e_and (ha : PE X a (rdE X.K ma)) (hb : PE X (.BoolOp .And (b :: rest) pos) (rdE X.K mb)) : PE X (.BoolOp .And (a :: b :: rest) pos) (rdE X.K (mAndV ma mb)) := PE.weak (pe_andT ha hb) fun sg H Q h => by
  obtain ⟨ph, S, rho, d, S', s, en, e, post⟩ := h
  obtain ⟨a, S1, e1, e2⟩ := bnd_inv e
  obtain ⟨k, S2, e3, e4⟩ := bnd_inv e2
  refine ⟨ph, S, rho, a, S1, s, en, e1, fun ph1 H1 x E1 s1 r1 => ?_⟩
  obtain ⟨h1, rfl⟩ := tru_of s1 r1 e3
  refine ⟨k, h1, ?_⟩
  cases k with
  | true =>
    simp only [if_true] at e4 ⊢
    exact ⟨ph1, _, rho, d, S', s1, en.ext E1, e4, post.of E1⟩
  | false =>
    simp only [Bool.false_eq_true, if_false] at e4 ⊢
    cases e4
    exact (post.of E1).now s1 r1
theorem e_or (ha : PE X a (rdE X.K ma)) (hb : PE X (.BoolOp .Or (b :: rest) pos) (rdE X.K mb)) : PE X (.BoolOp .Or (a :: b :: rest) pos) (rdE X.K (mOrV ma mb)) := PE.weak (pe_orT ha hb) fun sg H Q h => by
  obtain ⟨ph, S, rho, d, S', s, en, e, post⟩ := h
  obtain ⟨a, S1, e1, e2⟩ := bnd_inv e
  obtain ⟨k, S2, e3, e4⟩ := bnd_inv e2
  refine ⟨ph, S, rho, a, S1, s, en, e1, fun ph1 H1 x E1 s1 r1 => ?_⟩
  obtain ⟨h1, rfl⟩ := tru_of s1 r1 e3
  refine ⟨k, h1, ?_⟩
  cases k with
  | false =>
    simp only [Bool.false_eq_true, if_false] at e4 ⊢
    exact ⟨ph1, _, rho, d, S', s1, en.ext E1, e4, post.of E1⟩
  | true =>
    simp only [if_true] at e4 ⊢
    cases e4
    exact (post.of E1).now s1 r1
theorem e_not (ha : PE X a (rdE X.K ma)) : PE X (.UnaryOp .Not a pos) (rdE X.K (mNotV ma)) := PE.weak (pe_notT ha) fun sg H Q h => by
  obtain ⟨ph, S, rho, d, S', s, en, e, post⟩ := h
  obtain ⟨a, S1, e1, e2⟩ := bnd_inv e
  obtain ⟨k, S2, e3, e4⟩ := bnd_inv e2
  cases e4
  refine ⟨ph, S, rho, a, S1, s, en, e1, fun ph1 H1 x E1 s1 r1 => ?_⟩
  obtain ⟨h1, rfl⟩ := tru_of s1 r1 e3
  exact ⟨k, h1, (post.of E1).now s1 (by rw [Rep])⟩
def mIf (mt : EM Bool) (ma mb : EM D) : EM D := fun rho => bnd (mt rho) fun k => if k then ma rho else mb rho
theorem e_if {mt : EM Bool} (hc : PT X c (rdT X.K mt)) (ha : PE X a (rdE X.K ma)) (hb : PE X b (rdE X.K mb)) : PE X (.IfExp c a b pos) (rdE X.K (mIf mt ma mb)) := PE.weak (pe_ifExp hc ha hb) fun sg H Q h => by
  obtain ⟨ph, S, rho, d, S', s, en, e, post⟩ := h
  obtain ⟨k, S1, e1, e2⟩ := bnd_inv e
  refine ⟨ph, S, rho, k, S1, s, en, e1, fun ph1 H1 E1 s1 => ?_⟩
  cases k with
  | true =>
    simp only [if_true] at e2 ⊢
    exact ⟨ph1, S1, rho, d, S', s1, en.ext E1, e2, post.of E1⟩
  | false =>
    simp only [Bool.false_eq_true, if_false] at e2 ⊢
    exact ⟨ph1, S1, rho, d, S', s1, en.ext E1, e2, post.of E1⟩

/-! ### argument lists, displays -/
variable {es : List Expr} {mas : EM (List D)} {x1 : Nat} {p : Pos}
def mNil : EM (List D) := fun _ => ret []
def mCons (ma : EM D) (mas : EM (List D)) : EM (List D) := fun rho => bnd (ma rho) fun a => bnd (mas rho) fun as => ret (a :: as)
theorem a_nil : PA X [] (rdA X.K mNil) := PA.weak pa_nil fun sg H Q h => by
  obtain ⟨ph, S, rho, d, S', s, en, e, post⟩ := h
  cases e
  exact post ph H [] Ext.refl s .nil
theorem a_cons (ha : PE X e (rdE X.K ma)) (hr : PA X es (rdA X.K mas)) (hs : starEach (e :: es) X.env = (false, eval e X.env) :: starEach es X.env := by rfl) : PA X (e :: es) (rdA X.K (mCons ma mas)) := PA.weak (pa_cons ha hr hs) fun sg H Q h => by
  obtain ⟨ph, S, rho, d, S', s, en, e, post⟩ := h
  obtain ⟨a, S1, e1, e2⟩ := bnd_inv e
  obtain ⟨as, S2, e3, e4⟩ := bnd_inv e2
  cases e4
  exact ⟨ph, S, rho, a, S1, s, en, e1, fun ph1 H1 x E1 s1 r1 => ⟨ph1, S1, rho, as, _, s1, en.ext E1, e3, fun ph2 H2 xs E2 s2 r2 => post ph2 H2 (x :: xs) (E1.trans E2) s2 (.cons (r1.ext E2) r2)⟩⟩
/-- the items of a list or a tuple, as they stand -/
def items : D → Sto → Option (List D)
  | .tup ds, _ => some ds
  | .lst ds, _ => some ds
  | .rol ds, _ => some ds
  | .ref n, S => match S.ob n with
    | some (.lst ds) => some ds
    | _ => none
  | _, _ => none
theorem items_of {ph : Ph} {S : Sto} {H : Hp} {d : D} {x : V} {ds : List D} (s : Sim K ph S H) (r : Rep K ph S H d x) (h : items d S = some ds) : ∃ a xs, x = .ref a ∧ (SqT K H a xs ∨ SqL K H a xs) ∧ RepL K ph S H ds xs := by
  cases d with
  | tup es => rw [Rep] at r; obtain ⟨a, xs, rfl, h1, h2⟩ := r; cases h; exact ⟨a, xs, rfl, .inl h1.sq, h2⟩
  | lst es => rw [Rep] at r; obtain ⟨a, xs, rfl, h1, h2⟩ := r; cases h; exact ⟨a, xs, rfl, .inr (.inl (.inl h1.1)), h2⟩
  | rol es => rw [Rep] at r; obtain ⟨a, xs, rfl, h1, h2⟩ := r; cases h; exact ⟨a, xs, rfl, .inr h1.sq, h2⟩
  | ref n =>
    rw [Rep] at r; obtain ⟨_, rfl⟩ := r
    unfold items at h
    simp only at h
    split at h
    · rename_i es e
      obtain ⟨xs, h1, h2⟩ := s.ok n _ e
      cases h
      exact ⟨_, xs, rfl, .inr (.inl (.inl h1)), h2⟩
    · cases h
  | non => cases h
  | bl _ => cases h
  | int _ => cases h
  | str _ => cases h
  | dic _ _ => cases h
def mStar (ma : EM D) (mas : EM (List D)) : EM (List D) := fun rho => bnd (ma rho) fun a S => match items a S with
  | some ds => bnd (mas rho) (fun as => ret (ds ++ as)) S
  | none => none
/-- [*a, ..]: the items stand for themselves while the rest is made -/
theorem a_star (ha : PE X e (rdE X.K ma)) (hr : PA X es (rdA X.K mas)) (hs : starEach (.Starred e p :: es) X.env = (true, eval e X.env) :: starEach es X.env := by rfl) : PA X (.Starred e p :: es) (rdA X.K (mStar ma mas)) := PA.weak (StX.pa_star ha hr hs) fun sg H Q h => by
  obtain ⟨ph, S, rho, d, S', s, en, e, post⟩ := h
  obtain ⟨a, S1, e1, e2⟩ := bnd_inv e
  split at e2
  · rename_i ds hd
    obtain ⟨as, S2, e3, e4⟩ := bnd_inv e2
    cases e4
    refine ⟨ph, S, rho, a, S1, s, en, e1, fun ph1 H1 x E1 s1 r1 => ?_⟩
    obtain ⟨q, xs, rfl, h1, h2⟩ := items_of s1 r1 hd
    exact ⟨q, xs, rfl, h1, ph1, S1, rho, as, _, s1, en.ext E1, e3, fun ph2 H2 ys E2 s2 r2 => post ph2 H2 (xs ++ ys) (E1.trans E2) s2 ((h2.ext E2).app r2)⟩
  · cases e2
def small (ds : List D) : Bool := decide (ds.length ≤ lim)
def mkTup (ds : List D) : M D := fun S => if ds.length ≤ lim then some (.tup ds, S) else none
def mkLst (ds : List D) : M D := fun S => if ds.length ≤ lim then some (.lst ds, S) else none
def mkNew (ds : List D) : M D := fun S => if ds.length ≤ lim then some (.ref S.nx, S.new (.lst ds)) else none
def mTup (mas : EM (List D)) : EM D := fun rho => bnd (mas rho) mkTup
def mLst (mas : EM (List D)) : EM D := fun rho => bnd (mas rho) mkLst
def mNew (mas : EM (List D)) : EM D := fun rho => bnd (mas rho) mkNew
/-- the three ways in which a new sequence comes -/
theorem new_tup {ph : Ph} {S : Sto} {H : Hp} {ds : List D} {xs : List V} {Q : VK} (s : Sim K ph S H) (r : RepL K ph S H ds xs) (post : PostE K ph S H Q (.tup ds) S) : newT H xs Q := fun p o hp h1 h2 =>
  post ph _ _ (Ext.tree s hp) (s.tree hp) (by
    rw [Rep]
    exact ⟨p, xs, rfl, TAt.new h1 h2 (s.fresh hp), r.ext (Ext.tree s hp)⟩)
theorem new_lst {ph : Ph} {S : Sto} {H : Hp} {ds : List D} {xs : List V} {Q : VK} {p : Addr} (s : Sim K ph S H) (r : RepL K ph S H ds xs) (post : PostE K ph S H Q (.lst ds) S) (hp : H p = none) : Q (.ref p) (upd H p (.lst xs)) :=
  post ph _ _ (Ext.tree s hp) (s.tree hp) (by
    rw [Rep]
    exact ⟨p, xs, rfl, ⟨upd_same, s.fresh hp⟩, r.ext (Ext.tree s hp)⟩)
theorem new_ref {ph : Ph} {S : Sto} {H : Hp} {ds : List D} {xs : List V} {Q : VK} {p : Addr} (s : Sim K ph S H) (r : RepL K ph S H ds xs) (post : PostE K ph S H Q (.ref S.nx) (S.new (.lst ds))) (hp : H p = none) : Q (.ref p) (upd H p (.lst xs)) := by
  have E : Ext ph S H (phN ph S p) (S.new (.lst ds)) (upd H p (.lst xs)) := Ext.newO s hp
  refine post (phN ph S p) _ _ E (s.newO hp ⟨xs, upd_same, r.ext E⟩) ?_
  rw [Rep]
  exact ⟨Nat.lt_succ_self _, by rw [phN_new]⟩
theorem e_tup (h : PA X es (rdA X.K mas)) : PE X (.Tuple es x1 pos) (rdE X.K (mTup mas)) := PE.weak (pe_tupF h) fun sg H Q h => by
  obtain ⟨ph, S, rho, d, S', s, en, e, post⟩ := h
  obtain ⟨ds, S1, e1, e2⟩ := bnd_inv e
  unfold mkTup at e2
  split at e2
  · rename_i hl
    cases e2
    exact ⟨ph, S, rho, ds, _, s, en, e1, fun ph1 H1 xs E1 s1 r1 => ⟨by rw [r1.len]; exact hl, new_tup s1 r1 (post.of E1)⟩⟩
  · cases e2
theorem e_lst (h : PA X es (rdA X.K mas)) : PE X (.List es pos) (rdE X.K (mLst mas)) := PE.weak (pe_lst h) fun sg H Q h => by
  obtain ⟨ph, S, rho, d, S', s, en, e, post⟩ := h
  obtain ⟨ds, S1, e1, e2⟩ := bnd_inv e
  unfold mkLst at e2
  split at e2
  · rename_i hl
    cases e2
    exact ⟨ph, S, rho, ds, _, s, en, e1, fun ph1 H1 xs E1 s1 r1 => ⟨by rw [r1.len]; exact hl, fun p hp => new_lst s1 r1 (post.of E1) hp⟩⟩
  · cases e2
theorem e_new (h : PA X es (rdA X.K mas)) : PE X (.List es pos) (rdE X.K (mNew mas)) := PE.weak (pe_lst h) fun sg H Q h => by
  obtain ⟨ph, S, rho, d, S', s, en, e, post⟩ := h
  obtain ⟨ds, S1, e1, e2⟩ := bnd_inv e
  unfold mkNew at e2
  split at e2
  · rename_i hl
    cases e2
    exact ⟨ph, S, rho, ds, _, s, en, e1, fun ph1 H1 xs E1 s1 r1 => ⟨by rw [r1.len]; exact hl, fun p hp => new_ref s1 r1 (post.of E1) hp⟩⟩
  · cases e2
/-- a list that is changed no more -/
def mFrz (ma : EM D) : EM D := fun rho => bnd (ma rho) fun a S => match a with
  | .ref n => match S.ob n with
    | some (.lst ds) => some (.lst ds, S.del n)
    | some (.dic ks ds) => some (.dic ks ds, S.del n)
    | none => none
  | d => some (d, S)
theorem frz_of {ph : Ph} {S : Sto} {H : Hp} {n : Nat} {o : Ob} (s : Sim K ph S H) (h : S.ob n = some o) :
    Rep K ph (S.del n) H (match o with | .lst ds => .lst ds | .dic ks ds => .dic ks ds) (.ref (ph.f n)) := by
  have e := s.ok n o h
  have no := not_own_del s (n := n) (by rw [h]; rfl)
  cases o with
  | lst ds =>
    obtain ⟨xs, h1, h2⟩ := e
    rw [Rep]
    exact ⟨_, xs, rfl, ⟨h1, no⟩, h2.ext Ext.delO⟩
  | dic ks ds =>
    obtain ⟨kvs, h1, h2, h3⟩ := e
    rw [Rep]
    exact ⟨_, kvs, rfl, ⟨h1, no⟩, h2, h3.ext Ext.delO⟩
theorem e_frz (ha : PE X a (rdE X.K ma)) : PE X a (rdE X.K (mFrz ma)) := PE.weak ha fun sg H Q h => by
  obtain ⟨ph, S, rho, d, S', s, en, e, post⟩ := h
  obtain ⟨a, S1, e1, e2⟩ := bnd_inv e
  refine ⟨ph, S, rho, a, S1, s, en, e1, fun ph1 H1 x E1 s1 r1 => ?_⟩
  split at e2
  · rename_i n
    rw [Rep] at r1
    obtain ⟨_, rfl⟩ := r1
    split at e2
    · rename_i ds hd
      cases e2
      exact (post.of (E1.trans Ext.delO)).now s1.delO (frz_of s1 hd)
    · rename_i ks ds hd
      cases e2
      exact (post.of (E1.trans Ext.delO)).now s1.delO (frz_of s1 hd)
    · cases e2
  · cases e2
    exact (post.of E1).now s1 r1
end
end Mn

set_option maxRecDepth 100000
set_option maxHeartbeats 1000000
/-! Mn: operators and built-ins over data. -/
namespace Mn
open PySem PySem.Spec PyProof.Rows L2

/-! ### data without objects that change, as the library's data -/
mutual
def pdT : D → Option PyData
  | .non => some .none
  | .bl b => some (.bool b)
  | .int i => some (.int i)
  | .str x => if PyData.strOk x then some (.str x) else none
  | .tup ds => (pdL ds).map .tuple
  | .lst ds => (pdL ds).map .list
  | .rol ds => (pdL ds).map .list
  | .dic _ _ => none
  | .ref _ => none
def pdL : List D → Option (List PyData)
  | [] => some []
  | d :: ds => (pdT d).bind fun p => (pdL ds).map (p :: ·)
end
theorem pdL_cons {d : D} {ds : List D} {ps : List PyData} (h : pdL (d :: ds) = some ps) : ∃ p qs, pdT d = some p ∧ pdL ds = some qs ∧ ps = p :: qs := by
  rw [pdL] at h
  cases e : pdT d with
  | none => rw [e] at h; cases h
  | some p =>
    rw [e] at h
    cases e2 : pdL ds with
    | none => rw [e2] at h; cases h
    | some qs => rw [e2] at h; cases h; exact ⟨p, qs, rfl, rfl, rfl⟩
theorem pdL_len : ∀ {ds : List D} {ps : List PyData}, pdL ds = some ps → ps.length = ds.length
  | [], ps, h => by rw [pdL] at h; cases h; rfl
  | d :: ds, ps, h => by
    obtain ⟨p, qs, _, h2, rfl⟩ := pdL_cons h
    rw [List.length_cons, List.length_cons, pdL_len h2]
section
variable {K : PySem.W.Frag} {ph : Ph} {S : Sto} {H : Hp}
mutual
theorem dp_of : ∀ (d : D) (v : V) (p : PyData), Rep K ph S H d v → pdT d = some p → Dp K H v p
  | .non, v, p, r, h => by rw [Rep] at r; rw [pdT] at h; cases h; subst r; exact .non
  | .bl b, v, p, r, h => by rw [Rep] at r; rw [pdT] at h; cases h; subst r; exact .bl b
  | .int b, v, p, r, h => by rw [Rep] at r; rw [pdT] at h; cases h; subst r; exact .int b
  | .str b, v, p, r, h => by
    rw [Rep] at r; rw [pdT] at h; subst r
    split at h
    · cases h; exact .str b
    · cases h
  | .tup ds, v, p, r, h => by
    rw [Rep] at r; rw [pdT] at h
    obtain ⟨a, xs, rfl, h1, h2⟩ := r
    cases e : pdL ds with
    | none => rw [e] at h; cases h
    | some ps => rw [e] at h; cases h; exact .tup h1.sq (dps_of ds xs ps h2 e)
  | .lst ds, v, p, r, h => by
    rw [Rep] at r; rw [pdT] at h
    obtain ⟨a, xs, rfl, h1, h2⟩ := r
    cases e : pdL ds with
    | none => rw [e] at h; cases h
    | some ps => rw [e] at h; cases h; exact .lst (.inl (.inl h1.1)) (dps_of ds xs ps h2 e)
  | .rol ds, v, p, r, h => by
    rw [Rep] at r; rw [pdT] at h
    obtain ⟨a, xs, rfl, h1, h2⟩ := r
    cases e : pdL ds with
    | none => rw [e] at h; cases h
    | some ps => rw [e] at h; cases h; exact .lst h1.sq (dps_of ds xs ps h2 e)
  | .dic _ _, v, p, r, h => by rw [pdT] at h; cases h
  | .ref _, v, p, r, h => by rw [pdT] at h; cases h
theorem dps_of : ∀ (ds : List D) (vs : List V) (ps : List PyData), RepL K ph S H ds vs → pdL ds = some ps → DpAll K H vs ps
  | [], vs, ps, r, h => by rw [r.nil_inv]; rw [pdL] at h; cases h; exact .nil
  | d :: ds, vs, ps, r, h => by
    obtain ⟨x, xs, rfl, r1, r2⟩ := r.cons_inv
    obtain ⟨p, qs, h1, h2, rfl⟩ := pdL_cons h
    exact .cons (dp_of d x p r1 h1) (dps_of ds xs qs r2 h2)
end
end
mutual
theorem pdT_lay : ∀ (d : D) (p : PyData), pdT d = some p → p.canLay0 = true
  | .non, p, h => by rw [pdT] at h; cases h; rw [PyData.canLay0]
  | .bl b, p, h => by rw [pdT] at h; cases h; rw [PyData.canLay0]
  | .int b, p, h => by rw [pdT] at h; cases h; rw [PyData.canLay0]
  | .str b, p, h => by
    rw [pdT] at h
    split at h
    · cases h; rw [PyData.canLay0]; assumption
    · cases h
  | .tup ds, p, h => by
    rw [pdT] at h
    cases e : pdL ds with
    | none => rw [e] at h; cases h
    | some ps => rw [e] at h; cases h; rw [PyData.canLay0]; exact pdL_lay ds ps e
  | .lst ds, p, h => by
    rw [pdT] at h
    cases e : pdL ds with
    | none => rw [e] at h; cases h
    | some ps => rw [e] at h; cases h; rw [PyData.canLay0]; exact pdL_lay ds ps e
  | .rol ds, p, h => by
    rw [pdT] at h
    cases e : pdL ds with
    | none => rw [e] at h; cases h
    | some ps => rw [e] at h; cases h; rw [PyData.canLay0]; exact pdL_lay ds ps e
  | .dic _ _, p, h => by rw [pdT] at h; cases h
  | .ref _, p, h => by rw [pdT] at h; cases h
theorem pdL_lay : ∀ (ds : List D) (ps : List PyData), pdL ds = some ps → PyData.canLayAll0 ps = true
  | [], ps, h => by rw [pdL] at h; cases h; rw [PyData.canLayAll0]
  | d :: ds, ps, h => by
    obtain ⟨p, qs, h1, h2, rfl⟩ := pdL_cons h
    rw [PyData.canLayAll0, pdT_lay d p h1, pdL_lay ds qs h2]; rfl
end
mutual
theorem pdT_nodict : ∀ (d : D) (p : PyData), pdT d = some p → p.hasDict = false
  | .non, p, h => by rw [pdT] at h; cases h; rw [PyData.hasDict]
  | .bl b, p, h => by rw [pdT] at h; cases h; rw [PyData.hasDict]
  | .int b, p, h => by rw [pdT] at h; cases h; rw [PyData.hasDict]
  | .str b, p, h => by
    rw [pdT] at h
    split at h
    · cases h; rw [PyData.hasDict]
    · cases h
  | .tup ds, p, h => by
    rw [pdT] at h
    cases e : pdL ds with
    | none => rw [e] at h; cases h
    | some ps => rw [e] at h; cases h; rw [PyData.hasDict]; exact pdL_nodict ds ps e
  | .lst ds, p, h => by
    rw [pdT] at h
    cases e : pdL ds with
    | none => rw [e] at h; cases h
    | some ps => rw [e] at h; cases h; rw [PyData.hasDict]; exact pdL_nodict ds ps e
  | .rol ds, p, h => by
    rw [pdT] at h
    cases e : pdL ds with
    | none => rw [e] at h; cases h
    | some ps => rw [e] at h; cases h; rw [PyData.hasDict]; exact pdL_nodict ds ps e
  | .dic _ _, p, h => by rw [pdT] at h; cases h
  | .ref _, p, h => by rw [pdT] at h; cases h
theorem pdL_nodict : ∀ (ds : List D) (ps : List PyData), pdL ds = some ps → PyData.hasDictAll ps = false
  | [], ps, h => by rw [pdL] at h; cases h; rw [PyData.hasDictAll]
  | d :: ds, ps, h => by
    obtain ⟨p, qs, h1, h2, rfl⟩ := pdL_cons h
    rw [PyData.hasDictAll, pdT_nodict d p h1, pdL_nodict ds qs h2]; rfl
end
/-- the data that stands for d now: a list that may be changed, as it is -/
def pds (S : Sto) : D → Option PyData
  | .ref n => match S.ob n with
    | some (.lst ds) => (pdL ds).map .list
    | _ => none
  | d => pdT d
section
variable {K : PySem.W.Frag} {ph : Ph} {S : Sto} {H : Hp} {X : Cx}
theorem pds_of {d : D} {v : V} {p : PyData} (s : Sim K ph S H) (r : Rep K ph S H d v) (h : pds S d = some p) : Dp K H v p ∧ p.canLay0 = true ∧ p.hasDict = false := by
  by_cases hd : ∃ n, d = .ref n
  · obtain ⟨n, rfl⟩ := hd
    unfold pds at h
    simp only at h
    rw [Rep] at r
    obtain ⟨_, rfl⟩ := r
    split at h
    · rename_i ds e
      obtain ⟨xs, h1, h2⟩ := s.ok n _ e
      cases e2 : pdL ds with
      | none => rw [e2] at h; cases h
      | some ps =>
        rw [e2] at h; cases h
        exact ⟨.lst (.inl (.inl h1)) (dps_of ds xs ps h2 e2), by rw [PyData.canLay0]; exact pdL_lay ds ps e2, by rw [PyData.hasDict]; exact pdL_nodict ds ps e2⟩
    · cases h
  · have h' : pdT d = some p := by
      cases d with
      | ref n => exact absurd ⟨n, rfl⟩ hd
      | _ => exact h
    exact ⟨dp_of d v p r h', pdT_lay d p h', pdT_nodict d p h'⟩

/-! ### == -/
def eqM0 (dx dy : D) : M D := fun S => match pds S dx, pds S dy with
  | some p, some q => if p.depth ≤ 100 then some (.bl (PyData.eqv p q), S) else none
  | _, _ => none
def neM0 (dx dy : D) : M D := fun S => match pds S dx, pds S dy with
  | some p, some q => if p.depth ≤ 100 then some (.bl (!PyData.eqv p q), S) else none
  | _, _ => none
def eqM (dx dy : D) : M D := fun S => match dx, dy with
  | .str i, .str j => some (.bl (i == j), S)
  | dx, dy => eqM0 dx dy S
def neM (dx dy : D) : M D := fun S => match dx, dy with
  | .str i, .str j => some (.bl (!(i == j)), S)
  | dx, dy => neM0 dx dy S
def rEqP (K : PySem.W.Frag) (neg : Bool) : R2 := fun x y H Q => ∃ d e, Dp K H x d ∧ Dp K H y e ∧ d.canLay0 = true ∧ e.canLay0 = true ∧ d.depth ≤ 100 ∧ Q (.bl (if neg then !PyData.eqv d e else PyData.eqv d e)) H
theorem op_eqP0 (hu : X.A.units + 200 < cLine) : OpR X (compareOp .Eq) (rEqP X.K false) := by
  intro pins s sg H x y v u Q I rx ry h
  obtain ⟨d, e, hd, he, ld, le, dp, q⟩ := h
  obtain ⟨as, r1⟩ := Dp.reads I d x v hd rx
  obtain ⟨bs, r2⟩ := Dp.reads I e y u he ry
  exact SeqAt.compareEq_reads r1 r2 ld le (by have := Nat.min_le_left d.depth e.depth; omega) ⟨.bl _, H, I, rfl, q⟩
theorem op_neP0 (hu : X.A.units + 200 < cLine) : OpR X (compareOp .NotEq) (rEqP X.K true) := by
  intro pins s sg H x y v u Q I rx ry h
  obtain ⟨d, e, hd, he, ld, le, dp, q⟩ := h
  obtain ⟨as, r1⟩ := Dp.reads I d x v hd rx
  obtain ⟨bs, r2⟩ := Dp.reads I e y u he ry
  exact SeqAt.compareNe_reads r1 r2 ld le (by have := Nat.min_le_left d.depth e.depth; omega) ⟨.bl _, H, I, rfl, q⟩
def rEqQ (K : PySem.W.Frag) : R2 := fun x y H Q => rEqP K false x y H Q ∨ rEq x y H Q
def rNeQ (K : PySem.W.Frag) : R2 := fun x y H Q => rEqP K true x y H Q ∨ rNe x y H Q
theorem op_eqP (hu : X.A.units + 200 < cLine) : OpR X (compareOp .Eq) (rEqQ X.K) := (op_eqP0 hu).or op_eq
theorem op_neP (hu : X.A.units + 200 < cLine) : OpR X (compareOp .NotEq) (rNeQ X.K) := (op_neP0 hu).or op_ne
end
end Mn

set_option maxRecDepth 100000
set_option maxHeartbeats 1000000
/-! Mn: operators and built-ins over data, told as rules. -/
namespace Mn
open PySem PySem.Spec PyProof.Rows L2
section
variable {K : PySem.W.Frag} {ph : Ph} {S : Sto} {H : Hp} {X : Cx}
theorem rbl {b : Bool} : Rep K ph S H (.bl b) (.bl b) := by rw [Rep]
theorem rint {b : Int} : Rep K ph S H (.int b) (.int b) := by rw [Rep]
theorem rstr {b : Str} : Rep K ph S H (.str b) (.str b) := by rw [Rep]
theorem rnon : Rep K ph S H .non .non := by rw [Rep]

theorem m_eq0 : OpM K (rEqP K false) eqM0 := by
  intro ph S H x y dx dy d S' Q s rx ry e post
  unfold eqM0 at e
  split at e
  · rename_i p q h1 h2
    split at e
    · cases e
      obtain ⟨d1, l1, _⟩ := pds_of s rx h1
      obtain ⟨d2, l2, _⟩ := pds_of s ry h2
      exact ⟨p, q, d1, d2, l1, l2, by assumption, post.now s rbl⟩
    · cases e
  · cases e
theorem m_ne0 : OpM K (rEqP K true) neM0 := by
  intro ph S H x y dx dy d S' Q s rx ry e post
  unfold neM0 at e
  split at e
  · rename_i p q h1 h2
    split at e
    · cases e
      obtain ⟨d1, l1, _⟩ := pds_of s rx h1
      obtain ⟨d2, l2, _⟩ := pds_of s ry h2
      exact ⟨p, q, d1, d2, l1, l2, by assumption, post.now s rbl⟩
    · cases e
  · cases e

theorem m_eq : OpM K (rEqQ K) eqM := by
  intro ph S H x y dx dy d S' Q s rx ry e post
  unfold eqM at e
  split at e
  · cases e
    obtain rfl := rx.strE
    obtain rfl := ry.strE
    exact .inr ⟨rfl, post.now s (by rw [Rep, dec_str])⟩
  · exact .inl (m_eq0 ph S H x y _ _ d S' Q s rx ry e post)
theorem m_ne : OpM K (rNeQ K) neM := by
  intro ph S H x y dx dy d S' Q s rx ry e post
  unfold neM at e
  split at e
  · cases e
    obtain rfl := rx.strE
    obtain rfl := ry.strE
    exact .inr ⟨rfl, post.now s (by rw [Rep, dec_str])⟩
  · exact .inl (m_ne0 ph S H x y _ _ d S' Q s rx ry e post)

/-! ### in -/
def inL (S : Sto) (dx dy : D) : Option Bool := match dy with
  | .str j => match dx with
    | .str i => some (!(Builtin.Str.occurrences j i 0 j.length 1).isEmpty)
    | _ => none
  | _ => match pds S dx, pds S dy with
    | some p, some (.list qs) => if p.depth ≤ 100 then some (qs.any fun z => PyData.eqv z p) else none
    | some p, some (.tuple qs) => if p.depth ≤ 100 then some (qs.any fun z => PyData.eqv z p) else none
    | _, _ => none
def inM (dx dy : D) : M D := fun S => (inL S dx dy).map fun b => (.bl b, S)
def niM (dx dy : D) : M D := fun S => (inL S dx dy).map fun b => (.bl (!b), S)
def rInP (K : PySem.W.Frag) (neg : Bool) : R2 := fun x y H Q =>
  (∃ i j, x = .str i ∧ y = .str j ∧ Q (.bl (if neg then !(!(Builtin.Str.occurrences j i 0 j.length 1).isEmpty) else !(Builtin.Str.occurrences j i 0 j.length 1).isEmpty)) H) ∨
  ∃ d ds, Dp K H x d ∧ (Dp K H y (.list ds) ∨ Dp K H y (.tuple ds)) ∧ d.canLay0 = true ∧ PyData.canLayAll0 ds = true ∧ d.depth ≤ 100 ∧ Q (.bl (if neg then !ds.any fun z => PyData.eqv z d else ds.any fun z => PyData.eqv z d)) H
theorem op_inP (hu : X.A.units + 200 < cLine) : OpR X (compareOp .In) (rInP X.K false) := by
  refine OpR.or op_in_str ?_
  intro pins s sg H x y v u Q I rx ry h
  obtain ⟨d, ds, hd, he, ld, le, dp, q⟩ := h
  obtain ⟨as, r1⟩ := Dp.reads I d x v hd rx
  have hr : X.A.units + 1 + min (PyData.depthAll ds) d.depth < cLine := by have := Nat.min_le_right (PyData.depthAll ds) d.depth; omega
  rcases he with he | he
  · obtain ⟨bs, r2⟩ := Dp.reads I _ y u he ry
    exact SeqAt.in_list_reads r2 r1 le ld hr ⟨.bl _, H, I, rfl, q⟩
  · obtain ⟨bs, r2⟩ := Dp.reads I _ y u he ry
    exact SeqAt.in_tuple_reads r2 r1 le ld hr ⟨.bl _, H, I, rfl, q⟩
theorem op_niP (hu : X.A.units + 200 < cLine) : OpR X (compareOp .NotIn) (rInP X.K true) := by
  refine OpR.or op_notin_str ?_
  intro pins s sg H x y v u Q I rx ry h
  obtain ⟨d, ds, hd, he, ld, le, dp, q⟩ := h
  obtain ⟨as, r1⟩ := Dp.reads I d x v hd rx
  have hr : X.A.units + 1 + min (PyData.depthAll ds) d.depth < cLine := by have := Nat.min_le_right (PyData.depthAll ds) d.depth; omega
  rcases he with he | he
  · obtain ⟨bs, r2⟩ := Dp.reads I _ y u he ry
    exact SeqAt.notIn_list_reads r2 r1 le ld hr ⟨.bl _, H, I, rfl, q⟩
  · obtain ⟨bs, r2⟩ := Dp.reads I _ y u he ry
    exact SeqAt.notIn_tuple_reads r2 r1 le ld hr ⟨.bl _, H, I, rfl, q⟩
theorem in_core {x y : V} {dx dy : D} {b : Bool} (s : Sim K ph S H) (rx : Rep K ph S H dx x) (ry : Rep K ph S H dy y) (h : inL S dx dy = some b) :
    (∃ i j, x = .str i ∧ y = .str j ∧ b = !(Builtin.Str.occurrences j i 0 j.length 1).isEmpty) ∨
    ∃ d ds, Dp K H x d ∧ (Dp K H y (.list ds) ∨ Dp K H y (.tuple ds)) ∧ d.canLay0 = true ∧ PyData.canLayAll0 ds = true ∧ d.depth ≤ 100 ∧ b = ds.any fun z => PyData.eqv z d := by
  unfold inL at h
  split at h
  · rename_i j
    split at h
    · rename_i i
      cases h
      rw [Rep] at rx ry
      exact .inl ⟨_, _, rx, ry, rfl⟩
    · cases h
  · split at h
    · rename_i p qs h1 h2
      split at h
      · cases h
        obtain ⟨d1, l1, _⟩ := pds_of s rx h1
        obtain ⟨d2, l2, _⟩ := pds_of s ry h2
        rw [PyData.canLay0] at l2
        exact .inr ⟨p, qs, d1, .inl d2, l1, l2, by assumption, rfl⟩
      · cases h
    · rename_i p qs h1 h2
      split at h
      · cases h
        obtain ⟨d1, l1, _⟩ := pds_of s rx h1
        obtain ⟨d2, l2, _⟩ := pds_of s ry h2
        rw [PyData.canLay0] at l2
        exact .inr ⟨p, qs, d1, .inr d2, l1, l2, by assumption, rfl⟩
      · cases h
    · cases h
theorem m_in : OpM K (rInP K false) inM := by
  intro ph S H x y dx dy d S' Q s rx ry e post
  unfold inM at e
  cases h : inL S dx dy with
  | none => rw [h] at e; cases e
  | some b =>
    rw [h] at e; cases e
    rcases in_core s rx ry h with ⟨i, j, h1, h2, h3⟩ | ⟨p, qs, h1, h2, h3, h4, h5, h6⟩
    · exact .inl ⟨i, j, h1, h2, by rw [← h3]; exact post.now s rbl⟩
    · exact .inr ⟨p, qs, h1, h2, h3, h4, h5, by rw [← h6]; exact post.now s rbl⟩
theorem m_ni : OpM K (rInP K true) niM := by
  intro ph S H x y dx dy d S' Q s rx ry e post
  unfold niM at e
  cases h : inL S dx dy with
  | none => rw [h] at e; cases e
  | some b =>
    rw [h] at e; cases e
    rcases in_core s rx ry h with ⟨i, j, h1, h2, h3⟩ | ⟨p, qs, h1, h2, h3, h4, h5, h6⟩
    · exact .inl ⟨i, j, h1, h2, by rw [← h3]; exact post.now s rbl⟩
    · exact .inr ⟨p, qs, h1, h2, h3, h4, h5, by rw [← h6]; exact post.now s rbl⟩

/-! ### numbers -/
def intOp (C : Int → Int → Bool) (g : Int → Int → D) (dx dy : D) : M D := fun S => match dx, dy with
  | .int i, .int j => if C i j then some (g i j, S) else none
  | _, _ => none
theorem m_int {C : Int → Int → Bool} {Cp : Int → Int → Prop} {g : Int → Int → D} {gv : Int → Int → V} (hC : ∀ i j, C i j = true → Cp i j) (hg : ∀ i j ph S H, Rep K ph S H (g i j) (gv i j)) : OpM K (rI Cp gv) (intOp C g) := by
  intro ph S H x y dx dy d S' Q s rx ry e post
  unfold intOp at e
  split at e
  · rename_i i j
    split at e
    · rename_i hc
      cases e
      rw [Rep] at rx ry
      exact ⟨i, j, rx, ry, hC i j hc, post.now s (hg i j ph _ H)⟩
    · cases e
  · cases e
theorem m_int0 {g : Int → Int → D} {gv : Int → Int → V} (hg : ∀ i j ph S H, Rep K ph S H (g i j) (gv i j)) : OpM K (rI0 gv) (intOp (fun _ _ => true) g) := by
  intro ph S H x y dx dy d S' Q s rx ry e post
  unfold intOp at e
  split at e
  · rename_i i j
    cases e
    rw [Rep] at rx ry
    exact ⟨i, j, rx, ry, post.now s (hg i j ph _ H)⟩
  · cases e
def subM : D → D → M D := intOp (fun _ _ => true) fun i j => .int (i - j)
def modM : D → D → M D := intOp (fun _ j => decide (0 < j)) fun i j => .int (i % j)
def divM : D → D → M D := intOp (fun _ j => decide (0 < j) && decide (j < 1073741824)) fun i j => .int (i / j)
def powM : D → D → M D := intOp (fun i j => decide (0 ≤ j) && decide (j ≤ 1000000) && decide (i.natAbs < 2 ^ 64)) fun i j => .int (i ^ j.toNat)
def ltM : D → D → M D := intOp (fun _ _ => true) fun i j => .bl (decide (i < j))
def leM : D → D → M D := intOp (fun _ _ => true) fun i j => .bl (decide (i ≤ j))
def gtM : D → D → M D := intOp (fun _ _ => true) fun i j => .bl (decide (j < i))
def geM : D → D → M D := intOp (fun _ _ => true) fun i j => .bl (decide (j ≤ i))
theorem m_sub : OpM K (rI0 fun i j => .int (i - j)) subM := m_int0 fun _ _ _ _ _ => rint
theorem m_mod : OpM K (rI (fun _ j => 0 < j) fun i j => .int (i % j)) modM := m_int (fun _ _ h => of_decide_eq_true h) fun _ _ _ _ _ => rint
theorem m_div : OpM K (rI CDiv fun i j => .int (i / j)) divM := m_int (fun _ _ h => by rw [Bool.and_eq_true, decide_eq_true_eq, decide_eq_true_eq] at h; exact h) fun _ _ _ _ _ => rint
theorem m_pow : OpM K (rI CPow fun i j => .int (i ^ j.toNat)) powM := m_int (fun _ _ h => by simp only [Bool.and_eq_true, decide_eq_true_eq] at h; exact ⟨h.1.1, h.1.2, h.2⟩) fun _ _ _ _ _ => rint
theorem m_lt : OpM K (rI0 fun i j => .bl (decide (i < j))) ltM := m_int0 fun _ _ _ _ _ => rbl
theorem m_le : OpM K (rI0 fun i j => .bl (decide (i ≤ j))) leM := m_int0 fun _ _ _ _ _ => rbl
theorem m_gt : OpM K (rI0 fun i j => .bl (decide (j < i))) gtM := m_int0 fun _ _ _ _ _ => rbl
theorem m_ge : OpM K (rI0 fun i j => .bl (decide (j ≤ i))) geM := m_int0 fun _ _ _ _ _ => rbl
/-- -x -/
def negM (d : D) : M D := fun S => match d with
  | .int i => some (.int (-i), S)
  | _ => none
theorem m_neg : UnM K (rU fun i => .int (-i)) negM := by
  intro ph S H x dx d S' Q s rx e post
  unfold negM at e
  split at e
  · rename_i i
    cases e
    rw [Rep] at rx
    exact ⟨i, rx, post.now s rint⟩
  · cases e
/-- a * b: numbers; a list times a number -/
def mulM (dx dy : D) : M D := fun S => match dx, dy with
  | .int i, .int j => if (-(2 ^ 64) < i ∧ i < 2 ^ 64) ∨ (-(2 ^ 64) < j ∧ j < 2 ^ 64) then some (.int (i * j), S) else none
  | .lst ds, .int k => if -(2 ^ 63) ≤ k ∧ k < 2 ^ 63 ∧ ds.length * k.toNat ≤ lim then some (.lst (List.replicate k.toNat ds).flatten, S) else none
  | _, _ => none
theorem RepL.rep {ds : List D} {xs : List V} (h : RepL K ph S H ds xs) : ∀ k : Nat, RepL K ph S H (List.replicate k ds).flatten (List.replicate k xs).flatten
  | 0 => .nil
  | k + 1 => by
    rw [List.replicate_succ, List.replicate_succ, List.flatten_cons, List.flatten_cons]
    exact h.app (RepL.rep h k)
def rMulP : R2 := fun x y H Q => rI CMul (fun i j => .int (i * j)) x y H Q ∨ rRep x y H Q
theorem op_mulP : OpR X (binaryOp .Mult) rMulP := op_mul.or op_rep
theorem m_mul : OpM K rMulP mulM := by
  intro ph S H x y dx dy d S' Q s rx ry e post
  unfold mulM at e
  split at e
  · rename_i i j
    split at e
    · cases e
      rw [Rep] at rx ry
      exact .inl ⟨i, j, rx, ry, by assumption, post.now s rint⟩
    · cases e
  · rename_i ds k
    split at e
    · rename_i hc
      cases e
      obtain ⟨a, xs, rfl, h1, h2⟩ := rx.lstE
      exact .inr ⟨a, k, xs, rfl, ry.intE, h1.1, hc.1, hc.2.1, by rw [h2.len]; exact hc.2.2, fun p hp => new_lst s (h2.rep _) post hp⟩
    · cases e
  · cases e

/-! ### a + b -/
def itemsL : D → Sto → Option (List D)
  | .lst ds, _ => some ds
  | .ref n, S => match S.ob n with
    | some (.lst ds) => some ds
    | _ => none
  | _, _ => none
theorem itemsL_of {d : D} {x : V} {ds : List D} (s : Sim K ph S H) (r : Rep K ph S H d x) (h : itemsL d S = some ds) : ∃ a xs, x = .ref a ∧ H a = some (.lst xs) ∧ RepL K ph S H ds xs := by
  cases d with
  | lst es => rw [Rep] at r; obtain ⟨a, xs, rfl, h1, h2⟩ := r; cases h; exact ⟨a, xs, rfl, h1.1, h2⟩
  | ref n =>
    rw [Rep] at r; obtain ⟨_, rfl⟩ := r
    unfold itemsL at h
    simp only at h
    split at h
    · rename_i es e
      obtain ⟨xs, h1, h2⟩ := s.ok n _ e
      cases h
      exact ⟨_, xs, rfl, h1, h2⟩
    · cases h
  | _ => cases h
def addM (dx dy : D) : M D := fun S => match dx, dy with
  | .int i, .int j => some (.int (i + j), S)
  | .str i, .str j => if i.length + j.length ≤ lim then some (.str (i ++ j), S) else none
  | .tup a, .tup b => if a.length + b.length ≤ lim then some (.tup (a ++ b), S) else none
  | _, _ => match itemsL dx S, itemsL dy S with
    | some a, some b => if a.length + b.length ≤ lim then some (.lst (a ++ b), S) else none
    | _, _ => none
def rAddP (K : PySem.W.Frag) : R2 := fun x y H Q => (rI0 (fun i j => .int (i + j)) x y H Q ∨ (∃ i j, x = .str i ∧ y = .str j ∧ i.length + j.length ≤ sizeLine ∧ Q (.str (i ++ j)) H)) ∨ (rCatF K x y H Q ∨ rCat x y H Q)
theorem op_addP : OpR X (binaryOp .Add) (rAddP X.K) := (op_add.or op_add_str).or (op_catF.or op_cat)
theorem m_add : OpM K (rAddP K) addM := by
  intro ph S H x y dx dy d S' Q s rx ry e post
  unfold addM at e
  split at e
  · rename_i i j
    cases e
    rw [Rep] at rx ry
    exact .inl (.inl ⟨i, j, rx, ry, post.now s rint⟩)
  · rename_i i j
    split at e
    · cases e
      rw [Rep] at rx ry
      exact .inl (.inr ⟨i, j, rx, ry, by assumption, post.now s rstr⟩)
    · cases e
  · rename_i as bs
    split at e
    · rename_i hl
      cases e
      have rx0 := rx
      have ry0 := ry
      rw [Rep] at rx ry
      obtain ⟨a, xs, rfl, h1, h2⟩ := rx
      obtain ⟨b, ys, rfl, h3, h4⟩ := ry
      refine .inr (.inl ⟨a, b, xs, ys, rfl, rfl, h1.sq, h3.sq, by rw [h2.len, h4.len]; exact hl, fun e => ?_, fun e1 e2 => ?_, fun e1 e2 => new_tup s (h2.app h4) post⟩)
      · subst e
        have : as = [] := by have := h2.len; simpa using this.symm
        subst this
        exact post.now s ry0
      · subst e2
        have : bs = [] := by have := h4.len; simpa using this.symm
        subst this
        rw [List.append_nil] at post
        exact post.now s rx0
    · cases e
  · split at e
    · rename_i as bs h1 h2
      split at e
      · rename_i hl
        cases e
        obtain ⟨a, xs, rfl, k1, k2⟩ := itemsL_of s rx h1
        obtain ⟨b, ys, rfl, k3, k4⟩ := itemsL_of s ry h2
        exact .inr (.inr ⟨a, b, xs, ys, rfl, rfl, k1, k3, by rw [k2.len, k4.len]; exact hl, fun p hp => new_lst s (k2.app k4) post hp⟩)
      · cases e
    · cases e

/-! ### a[i] -/
def ixM (dx dy : D) : M D := fun S => match dy with
  | .int i => match dx with
    | .str z => if z.length ≤ lim then (atI z.cps.toList i).map fun c => (.str ⟨#[c]⟩, S) else none
    | _ => match items dx S with
      | some ds => (atI ds i).map fun d => (d, S)
      | none => none
  | _ => none
theorem atI_rep {ds : List D} {xs : List V} {i : Int} {d : D} (h : RepL K ph S H ds xs) (e : atI ds i = some d) : ∃ x, atI xs i = some x ∧ Rep K ph S H d x := by
  unfold atI at e ⊢
  rw [h.len]
  cases e1 : ixN ds.length i with
  | none => rw [e1] at e; cases e
  | some j =>
    rw [e1] at e
    exact h.get e
theorem m_ix : OpM K (rIx K) ixM := by
  intro ph S H x y dx dy d S' Q s rx ry e post
  unfold ixM at e
  split at e
  · rename_i i
    rw [Rep] at ry
    split at e
    · rename_i z
      split at e
      · rename_i hz
        rw [Rep] at rx
        cases e1 : atI z.cps.toList i with
        | none => rw [e1] at e; cases e
        | some c => rw [e1] at e; cases e; exact .inr (.inr ⟨z, i, c, rx, ry, hz, e1, post.now s rstr⟩)
      · cases e
    · split at e
      · rename_i ds hd
        cases e1 : atI ds i with
        | none => rw [e1] at e; cases e
        | some c =>
          rw [e1] at e; cases e
          obtain ⟨a, xs, rfl, h1, h2⟩ := items_of s rx hd
          obtain ⟨v, h3, h4⟩ := atI_rep h2 e1
          rcases h1 with h1 | h1
          · exact .inr (.inl ⟨a, xs, i, v, rfl, ry, h1, h3, post.now s h4⟩)
          · exact .inl ⟨a, xs, i, v, rfl, ry, h1, h3, post.now s h4⟩
      · cases e
  · cases e
theorem e_ix {a b : Expr} {ma mb : EM D} {pos : Pos} (ha : PE X a (rdE X.K ma)) (hb : PE X b (rdE X.K mb)) (hs : PlainIx b := by exact fun _ _ => rfl) : PE X (.Subscript a b pos) (rdE X.K (mBin ixM ma mb)) :=
  PE.weak (pe_ix ix_seq ha hb hs) fun _ _ _ h => rd_two m_ix h

/-! ### a[lo:hi] -/
def cutD {α : Type} (xs : List α) (lo hi : Option Int) : List α := (xs.drop (HT.sIx xs.length 0 lo)).take (HT.sIx xs.length xs.length hi - HT.sIx xs.length 0 lo)
theorem RepL.cut {ds : List D} {xs : List V} (h : RepL K ph S H ds xs) (lo hi : Option Int) : RepL K ph S H (cutD ds lo hi) (cutV xs lo hi) := by
  unfold cutD cutV
  rw [h.len]
  exact (h.drop _).take _
theorem o_none : PO X none (rdO X.K fun _ => ret none) := PO.weak po_none fun sg H Q h => by
  obtain ⟨ph, S, rho, d, S', s, en, e, post⟩ := h
  cases e
  exact post ph H Ext.refl s
def asI : D → M Int := fun d S => match d with
  | .int b => some (b, S)
  | _ => none
def mPart (ma : EM D) : EM (Option Int) := fun rho => bnd (ma rho) fun d => bnd (asI d) fun i => ret (some i)
theorem o_some {e : Expr} {ma : EM D} (h : PE X e (rdE X.K ma)) : PO X (some e) (rdO X.K (mPart ma)) := PO.weak (po_some h) fun sg H Q h => by
  obtain ⟨ph, S, rho, o, S', s, en, e, post⟩ := h
  obtain ⟨d, S1, e1, e2⟩ := bnd_inv e
  obtain ⟨i, S2, e3, e4⟩ := bnd_inv e2
  cases e4
  unfold asI at e3
  split at e3
  · cases e3
    exact ⟨ph, S, rho, .int i, _, s, en, e1, fun ph1 H1 x E1 s1 r1 => ⟨i, by rw [Rep] at r1; exact r1, post ph1 H1 E1 s1⟩⟩
  · cases e3
def slM (d : D) (lo hi : Option Int) : M D := fun S => match d with
  | .tup ds => some (.tup (cutD ds lo hi), S)
  | .lst ds => some (.lst (cutD ds lo hi), S)
  | .rol ds => some (.lst (cutD ds lo hi), S)
  | .ref n => match S.ob n with
    | some (.lst ds) => some (.lst (cutD ds lo hi), S)
    | _ => none
  | _ => none
def mSl (ma : EM D) (ml mh : EM (Option Int)) : EM D := fun rho => bnd (ma rho) fun a => bnd (ml rho) fun lo => bnd (mh rho) fun hi => slM a lo hi
theorem e_sl {e : Expr} {lo hi : Option Expr} {ma : EM D} {ml mh : EM (Option Int)} {pos p2 : Pos} (he : PE X e (rdE X.K ma)) (hl : PO X lo (rdO X.K ml)) (hu : PO X hi (rdO X.K mh)) : PE X (.Subscript e (.Slice lo hi none p2) pos) (rdE X.K (mSl ma ml mh)) :=
  PE.weak (pe_slice (sl_tupF.or sl_list) he hl hu) fun sg H Q h => by
    obtain ⟨ph, S, rho, d, S', s, en, e, post⟩ := h
    obtain ⟨a, S1, e1, eb⟩ := bnd_inv e
    obtain ⟨l, S2, e2, ec⟩ := bnd_inv eb
    obtain ⟨u, S3, e3, e4⟩ := bnd_inv ec
    refine ⟨ph, S, rho, a, S1, s, en, e1, fun ph1 H1 x E1 s1 r1 => ⟨ph1, S1, rho, l, S2, s1, en.ext E1, e2, fun ph2 H2 E2 s2 => ⟨ph2, S2, rho, u, S3, s2, (en.ext E1).ext E2, e3, fun ph3 H3 E3 s3 => ?_⟩⟩⟩
    have r := ((r1.ext E2).ext E3)
    have post' := post.of ((E1.trans E2).trans E3)
    unfold slM at e4
    split at e4
    · rename_i ds
      cases e4
      have r0 := r
      rw [Rep] at r
      obtain ⟨b, xs, rfl, h1, h2⟩ := r
      refine .inl ⟨b, xs, rfl, h1.sq, fun hw => ?_, fun hw => new_tup s3 (h2.cut l u) post'⟩
      have : cutD ds l u = ds := by
        unfold cutD
        rw [h2.len] at hw
        rw [hw.1, hw.2, List.drop_zero, Nat.sub_zero, List.take_length]
      rw [this] at post'
      exact post'.now s3 r0
    · cases e4
      rw [Rep] at r
      obtain ⟨b, xs, rfl, h1, h2⟩ := r
      exact .inr ⟨b, xs, rfl, .inl (.inl h1.1), fun p hp => new_lst s3 (h2.cut l u) post' hp⟩
    · cases e4
      rw [Rep] at r
      obtain ⟨b, xs, rfl, h1, h2⟩ := r
      exact .inr ⟨b, xs, rfl, h1.sq, fun p hp => new_lst s3 (h2.cut l u) post' hp⟩
    · rename_i n
      split at e4
      · rename_i ds hd
        cases e4
        rw [Rep] at r
        obtain ⟨_, rfl⟩ := r
        obtain ⟨xs, h1, h2⟩ := s3.ok n _ hd
        exact .inr ⟨_, xs, rfl, .inl (.inl h1), fun p hp => new_lst s3 (h2.cut l u) post' hp⟩
      · cases e4
    · cases e4

/-! ### calls of built-ins -/
def mCall (f : List D → M D) (mas : EM (List D)) : EM D := fun rho => bnd (mas rho) f
theorem rd_call {f : List D → M D} {mas : EM (List D)} {r : List V → Hp → VK → Prop} (hm : CaM K r f) {sg : L2.St} {H : Hp} {Q : VK} (h : rdE K (mCall f mas) sg H Q) : tCB r (rdA K mas) sg H Q := by
  obtain ⟨ph, S, rho, d, S', s, en, e, post⟩ := h
  obtain ⟨as, S1, e1, e2⟩ := bnd_inv e
  exact ⟨ph, S, rho, as, S1, s, en, e1, fun ph1 H1 xs E1 s1 r1 => hm ph1 S1 H1 xs as d S' Q s1 r1 e2 (post.of E1)⟩
theorem e_callB {id : String} {x : Str} {r : List V → Hp → VK → Prop} {f : List D → M D} {mas : EM (List D)} {e : Expr} {es : List Expr} {p pos : Pos} (hc : CallR X (.builtin id) r) (hm0 : CaM X.K r f) (hg : Gl X x) (hm : X.mg x = none) (hv : bootBuiltins x = some (.builtin id)) (ha : PA X (e :: es) (rdA X.K mas)) (hn : x ≠ "__name__" := by decide) (hdb : (x == ("__debug__" : Str)) = false := by decide)
    (he : starEach (e :: es) X.env = (false, eval e X.env) :: starEach es X.env := by rfl) (hpl : (backTo pos (starEach es X.env)).any (·.1) = false := by rfl) : PE X (.Call (.Name x p) (e :: es) [] pos) (rdE X.K (mCall f mas)) :=
  PE.weak (pe_callB hc hg hm hv ha hn hdb he hpl) fun _ _ _ h => rd_call hm0 h
theorem e_callT {T : String} {x : Str} {r : List V → Hp → VK → Prop} {f : List D → M D} {mas : EM (List D)} {e : Expr} {es : List Expr} {p pos : Pos} (hc : CallR X (.type T) r) (hm0 : CaM X.K r f) (hg : Gl X x) (hm : X.mg x = none) (hv : bootBuiltins x = some (.type T)) (ha : PA X (e :: es) (rdA X.K mas)) (hn : x ≠ "__name__" := by decide) (hdb : (x == ("__debug__" : Str)) = false := by decide)
    (he : starEach (e :: es) X.env = (false, eval e X.env) :: starEach es X.env := by rfl) (hpl : (backTo pos (starEach es X.env)).any (·.1) = false := by rfl) : PE X (.Call (.Name x p) (e :: es) [] pos) (rdE X.K (mCall f mas)) :=
  PE.weak (pe_callTy hc hg hm hv ha hn hdb he hpl) fun _ _ _ h => rd_call hm0 h
theorem RepL.one {d : D} {xs : List V} (h : RepL K ph S H [d] xs) : ∃ x, xs = [x] ∧ Rep K ph S H d x := by
  obtain ⟨x, r, rfl, h1, h2⟩ := h.cons_inv
  rw [h2.nil_inv]
  exact ⟨x, rfl, h1⟩
theorem RepL.two {d e : D} {xs : List V} (h : RepL K ph S H [d, e] xs) : ∃ x y, xs = [x, y] ∧ Rep K ph S H d x ∧ Rep K ph S H e y := by
  obtain ⟨x, r, rfl, h1, h2⟩ := h.cons_inv
  obtain ⟨y, rfl, h3⟩ := h2.one
  exact ⟨x, y, rfl, h1, h3⟩
/-- len -/
def lenM (ds : List D) : M D := fun S => match ds with
  | [.str z] => if z.length ≤ lim then some (.int z.length, S) else none
  | [.dic ks _] => some (.int ks.length, S)
  | [d] => match items d S with
    | some es => some (.int es.length, S)
    | none => none
  | _ => none
def rLenP (K : PySem.W.Frag) : List V → Hp → VK → Prop := fun xs H Q =>
  ((∃ p ys, xs = [.ref p] ∧ (SqL K H p ys ∨ SqT K H p ys) ∧ Q (.int ys.length) H) ∨ (∃ z, xs = [.str z] ∧ z.length ≤ sizeLine ∧ Q (.int z.length) H)) ∨ ∃ d kvs, xs = [.ref d] ∧ H d = some (.dK kvs) ∧ Q (.int kvs.length) H
end
end Mn

set_option maxRecDepth 100000
set_option maxHeartbeats 1000000
/-! Mn: built-ins. -/
namespace Mn
open PySem PySem.Spec PyProof.Rows L2
section
variable {K : PySem.W.Frag} {ph : Ph} {S : Sto} {H : Hp} {X : Cx}
theorem cr_len : CallR X (.builtin "len") (rLenP X.K) := (call_len_seq.or call_len_str).or call_lenD
theorem c_len : CaM K (rLenP K) lenM := by
  intro ph S H xs dxs d S' Q s rx e post
  unfold lenM at e
  split at e
  · rename_i z
    split at e
    · cases e
      obtain ⟨x, rfl, r⟩ := rx.one
      exact .inl (.inr ⟨z, by rw [r.strE], by assumption, post.now s rint⟩)
    · cases e
  · rename_i ks ds
    cases e
    obtain ⟨x, rfl, r⟩ := rx.one
    obtain ⟨a, kvs, rfl, h1, h2, h3⟩ := r.dicE
    have : ks.length = kvs.length := by rw [← h2, List.length_map]
    exact .inr ⟨a, kvs, rfl, h1.1, by rw [← this]; exact post.now s rint⟩
  · rename_i dd _ _
    split at e
    · rename_i es he
      cases e
      obtain ⟨x, rfl, r⟩ := rx.one
      obtain ⟨a, xs, rfl, h1, h2⟩ := items_of s r he
      exact .inl (.inl ⟨a, xs, rfl, h1.symm, by rw [h2.len]; exact post.now s rint⟩)
    · cases e
  · cases e
/-- tuple(x), list(x) -/
def tupleM (ds : List D) : M D := fun S => match ds with
  | [.tup es] => some (.tup es, S)
  | [d] => match items d S with
    | some es => some (.tup es, S)
    | none => none
  | _ => none
theorem c_tuple : CaM K (fun xs H Q => ∃ p ys, xs = [.ref p] ∧ ((SqL K H p ys ∧ newT H ys Q) ∨ (SqT K H p ys ∧ Q (.ref p) H))) tupleM := by
  intro ph S H xs dxs d S' Q s rx e post
  unfold tupleM at e
  split at e
  · rename_i es
    cases e
    obtain ⟨x, rfl, r⟩ := rx.one
    have r0 := r
    obtain ⟨a, ys, rfl, h1, h2⟩ := r.tupE
    exact ⟨a, ys, rfl, .inr ⟨h1.sq, post.now s r0⟩⟩
  · rename_i dd hd
    split at e
    · rename_i es he
      cases e
      obtain ⟨x, rfl, r⟩ := rx.one
      cases dd with
      | tup fs => exact absurd rfl (hd fs)
      | lst fs =>
        obtain ⟨a, ys, rfl, h1, h2⟩ := r.lstE
        cases he
        exact ⟨a, ys, rfl, .inl ⟨.inl (.inl h1.1), new_tup s h2 post⟩⟩
      | rol fs =>
        obtain ⟨a, ys, rfl, h1, h2⟩ := r.rolE
        cases he
        exact ⟨a, ys, rfl, .inl ⟨h1.sq, new_tup s h2 post⟩⟩
      | ref n =>
        obtain ⟨_, rfl⟩ := r.refE
        unfold items at he
        simp only at he
        split at he
        · rename_i fs hf
          cases he
          obtain ⟨ys, h1, h2⟩ := s.ok n _ hf
          exact ⟨_, ys, rfl, .inl ⟨.inl (.inl h1), new_tup s h2 post⟩⟩
        · cases he
      | _ => cases he
    · cases e
  · cases e
def listM (ds : List D) : M D := fun S => match ds with
  | [d] => match items d S with
    | some es => some (.lst es, S)
    | none => none
  | _ => none
def listN (ds : List D) : M D := fun S => match ds with
  | [d] => match items d S with
    | some es => some (.ref S.nx, S.new (.lst es))
    | none => none
  | _ => none
theorem c_list : CaM K (fun xs H Q => ∃ p ys, xs = [.ref p] ∧ (SqL K H p ys ∨ SqT K H p ys) ∧ ∀ l, H l = none → Q (.ref l) (upd H l (.lst ys))) listM := by
  intro ph S H xs dxs d S' Q s rx e post
  unfold listM at e
  split at e
  · split at e
    · rename_i es he
      cases e
      obtain ⟨x, rfl, r⟩ := rx.one
      obtain ⟨a, ys, rfl, h1, h2⟩ := items_of s r he
      exact ⟨a, ys, rfl, h1.symm, fun p hp => new_lst s h2 post hp⟩
    · cases e
  · cases e
theorem c_listN : CaM K (fun xs H Q => ∃ p ys, xs = [.ref p] ∧ (SqL K H p ys ∨ SqT K H p ys) ∧ ∀ l, H l = none → Q (.ref l) (upd H l (.lst ys))) listN := by
  intro ph S H xs dxs d S' Q s rx e post
  unfold listN at e
  split at e
  · split at e
    · rename_i es he
      cases e
      obtain ⟨x, rfl, r⟩ := rx.one
      obtain ⟨a, ys, rfl, h1, h2⟩ := items_of s r he
      exact ⟨a, ys, rfl, h1.symm, fun p hp => new_ref s h2 post hp⟩
    · cases e
  · cases e
/-- int(x), abs(x) -/
def toIntM (ds : List D) : M D := fun S => match ds with
  | [.int i] => some (.int i, S)
  | [.bl b] => some (.int (if b then 1 else 0), S)
  | _ => none
theorem c_int : CaM K (fun xs H Q => (∃ i, xs = [.int i] ∧ Q (.int i) H) ∨ ∃ k, xs = [.bl k] ∧ Q (.int (if k then 1 else 0)) H) toIntM := by
  intro ph S H xs dxs d S' Q s rx e post
  unfold toIntM at e
  split at e
  · cases e
    obtain ⟨x, rfl, r⟩ := rx.one
    exact .inl ⟨_, by rw [r.intE], post.now s rint⟩
  · cases e
    obtain ⟨x, rfl, r⟩ := rx.one
    exact .inr ⟨_, by rw [r.blE], post.now s rint⟩
  · cases e
def absM (ds : List D) : M D := fun S => match ds with
  | [.int i] => some (.int (if i < 0 then -i else i), S)
  | _ => none
theorem c_abs : CaM K (fun xs H Q => ∃ i, xs = [.int i] ∧ Q (.int (if i < 0 then -i else i)) H) absM := by
  intro ph S H xs dxs d S' Q s rx e post
  unfold absM at e
  split at e
  · cases e
    obtain ⟨x, rfl, r⟩ := rx.one
    exact ⟨_, by rw [r.intE], post.now s rint⟩
  · cases e
/-- any, all, of truths -/
def bools : List D → Option (List Bool)
  | [] => some []
  | .bl b :: r => (bools r).map (b :: ·)
  | _ => none
theorem bools_rep : ∀ {ds : List D} {bs : List Bool} {xs : List V}, bools ds = some bs → RepL K ph S H ds xs → xs = bs.map V.bl
  | [], bs, xs, h, r => by cases h; exact r.nil_inv
  | d :: ds, bs, xs, h, r => by
    cases d with
    | bl b =>
      rw [bools] at h
      cases e : bools ds with
      | none => rw [e] at h; cases h
      | some cs =>
        rw [e] at h; cases h
        obtain ⟨x, ys, rfl, h1, h2⟩ := r.cons_inv
        rw [h1.blE, bools_rep e h2]; rfl
    | _ => cases h
def anyM (ds : List D) : M D := fun S => match ds with
  | [d] => match itemsL d S with
    | some es => (bools es).map fun bs => (.bl (bs.any id), S)
    | none => none
  | _ => none
def allM (ds : List D) : M D := fun S => match ds with
  | [d] => match itemsL d S with
    | some es => (bools es).map fun bs => (.bl (bs.all id), S)
    | none => none
  | _ => none
theorem c_any : CaM K (rAny K) anyM := by
  intro ph S H xs dxs d S' Q s rx e post
  unfold anyM at e
  split at e
  · split at e
    · rename_i es he
      obtain ⟨x, rfl, r⟩ := rx.one
      obtain ⟨a, ys, rfl, h1, h2⟩ := itemsL_of s r he
      cases hb : bools es with
      | none => rw [hb] at e; cases e
      | some bs =>
        rw [hb] at e; cases e
        rw [bools_rep hb h2] at h1
        exact ⟨a, bs, rfl, .inl (.inl h1), post.now s rbl⟩
    · cases e
  · cases e
theorem c_all : CaM K (rAll K) allM := by
  intro ph S H xs dxs d S' Q s rx e post
  unfold allM at e
  split at e
  · split at e
    · rename_i es he
      obtain ⟨x, rfl, r⟩ := rx.one
      obtain ⟨a, ys, rfl, h1, h2⟩ := itemsL_of s r he
      cases hb : bools es with
      | none => rw [hb] at e; cases e
      | some bs =>
        rw [hb] at e; cases e
        rw [bools_rep hb h2] at h1
        exact ⟨a, bs, rfl, .inl (.inl h1), post.now s rbl⟩
    · cases e
  · cases e

/-! ### repr -/
def rRepr0 (K : PySem.W.Frag) : List V → Hp → VK → Prop := fun xs H Q => ∃ x d, xs = [x] ∧ Dp K H x d ∧ d.showable = true ∧ d.hasDict = false ∧ d.depth ≤ 100 ∧ d.shown.length ≤ sizeLine ∧ Q (.str d.shown) H
theorem cr_repr0 (hg : X.A.guards = some []) (hu : X.A.units + 200 < cLine) : CallR X (.builtin "repr") (rRepr0 X.K) := by
  intro pins s sg H xs us Q I r h
  obtain ⟨x, d, rfl, hd, hs, hn, hp, hz, q⟩ := h
  obtain ⟨u, rfl, ru⟩ := vals1 r
  obtain ⟨as, rd⟩ := Dp.reads I d x u hd ru
  have fin : ∀ h' t tk, (∀ b o, s.heap.get? b = some o → h'.get? b = some o) → EP X pins sg Q (.str d.shown t) { s with heap := h', toks := tk } := fun h' t tk k =>
    ⟨.str d.shown, H, I.kept k, ⟨t, rfl⟩, q⟩
  cases rd with
  | none => exact PySem.P.repr_of_none (by have := fin s.heap s.toks (s.toks + 1) (fun _ _ e => e); rw [PyData.shown] at this; exact this)
  | bool b => exact PySem.P.repr_of_bool (by have := fin s.heap s.toks (s.toks + 1) (fun _ _ e => e); rw [PyData.shown] at this; exact this)
  | int i t =>
    refine PySem.P.repr_of_int ?_ (by have := fin s.heap s.toks (s.toks + 1) (fun _ _ e => e); rw [PyData.shown] at this; exact this)
    rw [PyData.showable] at hs
    exact of_decide_eq_true hs
  | str y t => exact PySem.P.repr_of_str (by have := fin s.heap s.toks (s.toks + 1) (fun _ _ e => e); rw [PyData.shown] at this; exact this) (by rw [PyData.shown] at hz; exact hz)
  | list h1 h2 h3 h4 => exact repr_of_reads' (.list h1 h2 h3 h4) hs (by rw [hn]; intro z; cases z) hg (by omega) (fun _ _ e => e) fin hz
  | tuple h1 h2 h3 h4 => exact repr_of_reads' (.tuple h1 h2 h3 h4) hs (by rw [hn]; intro z; cases z) hg (by omega) (fun _ _ e => e) fin hz
  | dict h1 h2 h3 h4 h5 => rw [PyData.hasDict] at hn; cases hn
/-- what can be shown, and the empty dict -/
def rRepr (K : PySem.W.Frag) : List V → Hp → VK → Prop := fun xs H Q => rRepr0 K xs H Q ∨ ∃ a, xs = [.ref a] ∧ H a = some (.dK []) ∧ Q (.str (PyData.dict []).shown) H
theorem cr_repr (hg : X.A.guards = some []) (hu : X.A.units + 200 < cLine) : CallR X (.builtin "repr") (rRepr X.K) := by
  intro pins s sg H xs us Q I r h
  rcases h with h | ⟨a, rfl, ha, q⟩
  · exact cr_repr0 hg hu pins s sg H xs us Q I r h
  · obtain ⟨u, rfl, ru⟩ := vals1 r
    cases ru
    obtain ⟨_, hsm, vs, hkv, hd⟩ := dk_of I.hok ha
    cases hkv
    obtain ⟨o, es, ep, ho, hx, hdat, _, hp, _⟩ := hd
    have he : es.toList = [] := by
      have := hp.length
      exact List.eq_nil_of_length_eq_zero this
    refine repr_of_reads' (as := a :: [] ++ []) (.dict ho hx.1 hdat (by rw [he]; exact .nil) (by rw [he]; exact .nil)) rfl (fun _ z => ?_) hg (by show X.A.units + (1 + 1) < cLine; omega) (fun _ _ e => e) (fun h' t tk k => ⟨.str _, H, I.kept k, ⟨t, rfl⟩, q⟩) (by decide +kernel)
    have : a = sysModules := by simpa [eq_comm] using z
    rw [this] at hsm
    exact absurd hsm (by decide)
def dic0 : List D → Bool
  | [.dic [] []] => true
  | _ => false
def reprM0 (ds : List D) : M D := fun S => match ds with
  | [d] => match pds S d with
    | some p => if p.showable = true ∧ p.depth ≤ 100 ∧ p.shown.length ≤ lim then some (.str p.shown, S) else none
    | none => none
  | _ => none
def reprM (ds : List D) : M D := fun S => if dic0 ds then some (.str (PyData.dict []).shown, S) else reprM0 ds S
theorem c_repr0 : CaM K (rRepr0 K) reprM0 := by
  intro ph S H xs dxs d S' Q s rx e post
  unfold reprM0 at e
  split at e
  · split at e
    · rename_i p hp
      split at e
      · rename_i hc
        cases e
        obtain ⟨x, rfl, r⟩ := rx.one
        obtain ⟨h1, h2, h3⟩ := pds_of s r hp
        exact ⟨x, p, rfl, h1, hc.1, h3, hc.2.1, hc.2.2, post.now s rstr⟩
      · cases e
    · cases e
  · cases e
theorem c_repr : CaM K (rRepr K) reprM := by
  intro ph S H xs dxs d S' Q s rx e post
  unfold reprM at e
  split at e
  · rename_i hd
    cases e
    unfold dic0 at hd
    split at hd
    · obtain ⟨x, rfl, r⟩ := rx.one
      obtain ⟨a, kvs, rfl, h1, h2, h3⟩ := r.dicE
      cases kvs with
      | nil => exact .inr ⟨a, rfl, h1.1, post.now s rstr⟩
      | cons _ _ => cases h2
    · cases hd
  · exact .inl (c_repr0 _ _ _ _ _ _ _ _ s rx e post)

/-! ### sorted -/
open PySem.W in
theorem reads_lt {h : Heap} : ∀ {v : Value} {d : PyData} {as : List Addr}, Reads h v d as → ∀ a ∈ as, ∃ o, h.get? a = some o := by
  intro v d as r
  refine Reads.rec (motive_1 := fun v d as _ => ∀ a ∈ as, ∃ o, h.get? a = some o) (motive_2 := fun vs ds as _ => ∀ a ∈ as, ∃ o, h.get? a = some o) ?_ ?_ ?_ ?_ ?_ ?_ ?_ ?_ ?_ r
  · intro a ha; cases ha
  · intro b a ha; cases ha
  · intro i t a ha; cases ha
  · intro x t a ha; cases ha
  · intro a o vs n xs as h1 h2 h3 h4 ih b hb
    rcases List.mem_cons.mp hb with e | hb
    · rw [e]; exact ⟨o, h1⟩
    · exact ih b hb
  · intro a o vs n xs as h1 h2 h3 h4 ih b hb
    exact ih b hb
  · intro a o es n kvs as bs h1 h2 h3 h4 h5 ih1 ih2 b hb
    rcases List.mem_cons.mp hb with e | hb
    · rw [e]; exact ⟨o, h1⟩
    · rcases List.mem_append.mp hb with hb | hb
      · exact ih1 b hb
      · exact ih2 b hb
  · intro a ha; cases ha
  · intro v vs d ds as bs h1 h2 ih1 ih2 b hb
    rcases List.mem_append.mp hb with hb | hb
    · exact ih1 b hb
    · exact ih2 b hb
def sortBy {α : Type} (ps : List (α × PyData)) : List α := (ps.mergeSort (PySem.W.dataLe false (·.2))).map (·.1)
theorem eachIs_of {α : Type} (R : Value → α × PyData → Prop) : ∀ {vs : List Value} {xs : List α} {ps : List PyData}, vs.length = xs.length → xs.length = ps.length → (∀ (i : Nat) v x p, vs[i]? = some v → xs[i]? = some x → ps[i]? = some p → R v (x, p)) → PySem.W.EachIs R vs (xs.zip ps)
  | [], [], [], _, _, _ => .nil
  | v :: vs, x :: xs, p :: ps, h1, h2, k => .cons (k 0 v x p rfl rfl rfl) (eachIs_of R (by simpa using h1) (by simpa using h2) fun i v x p a b c => k (i + 1) v x p (by simpa using a) (by simpa using b) (by simpa using c))
  | [], _ :: _, _, h, _, _ => by simp at h
  | _ :: _, [], _, h, _, _ => by simp at h
  | [], [], _ :: _, _, h, _ => by simp at h
  | _ :: _, _ :: _, [], _, h, _ => by simp at h
theorem eachIs_vals {R : Value → V × PyData → Prop} (hR : ∀ v b, R v b → RelV b.1 v) : ∀ {vs : List Value} {bs : List (V × PyData)}, PySem.W.EachIs R vs bs → Vals (bs.map (·.1)) vs
  | _, _, .nil => .nil
  | _, _, .cons h t => .cons (hR _ _ h) (eachIs_vals hR t)
theorem readsAll_get {h : Heap} : ∀ {vs : List Value} {ps : List PyData} {as : List Addr}, ReadsAll h vs ps as → ∀ (i : Nat) v p, vs[i]? = some v → ps[i]? = some p → ∃ bs, Reads h v p bs
  | _, _, _, .nil, i, v, p, h1, _ => by simp at h1
  | _, _, _, .cons r rs, 0, v, p, h1, h2 => by
    simp at h1 h2
    subst h1; subst h2
    exact ⟨_, r⟩
  | _, _, _, .cons r rs, i + 1, v, p, h1, h2 => readsAll_get rs i v p (by simpa using h1) (by simpa using h2)
def rSortP (K : PySem.W.Frag) : List V → Hp → VK → Prop := fun vs H Q => ∃ (a : Addr) (xs : List V) (ps : List PyData), vs = [V.ref a] ∧ (SqT K H a xs ∨ SqL K H a xs) ∧ DpAll K H xs ps ∧ PySem.W.AllAlike ps ∧ PySem.W.Sortable ps ∧ (∀ p ∈ ps, p.depth ≤ 100) ∧
  ∀ p, H p = none → Q (.ref p) (upd H p (.lst (sortBy (xs.zip ps))))
theorem dpAll_len {xs : List V} {ps : List PyData} (h : DpAll K H xs ps) : xs.length = ps.length :=
  DpAll.rec (motive_1 := fun _ _ _ => True) (motive_2 := fun xs ps _ => xs.length = ps.length) trivial (fun _ => trivial) (fun _ => trivial) (fun _ => trivial) (fun _ _ _ => trivial) (fun _ _ _ => trivial) rfl (fun _ _ _ ih => by rw [List.length_cons, List.length_cons, ih]) h
theorem cr_sortP (hu : X.A.units + 200 < cLine) : CallR X (.builtin "sorted") (rSortP X.K) := by
  intro pins s sg H vs us Q I r h
  obtain ⟨a, xs, ps, rfl, hq, hd, hal, hk, hdep, q⟩ := h
  rw [Vals.ref1 r]
  -- the items, as they stand
  have it : ∃ (T : String) (o : Obj) (its : List Value) (n : Nat), (T = "list" ∨ T = "tuple") ∧ s.heap.get? a = some o ∧ o.cls = .type T ∧ o.data = .seq its.toArray n ∧ Vals xs its ∧ xs.length ≤ sizeLine := by
    rcases hq with hq | hq
    · obtain ⟨its, rv, ⟨o, ho, hc, n, hdt⟩, hz⟩ := I.tuple hq
      exact ⟨"tuple", o, its, n, .inr rfl, ho, hc, hdt, rv, hz⟩
    · obtain ⟨its, rv, pl, hz⟩ := I.list hq
      obtain ⟨o, ho, hc, n, hdt⟩ := pl.isList
      exact ⟨"list", o, its, n, .inl rfl, ho, hc, hdt, rv, hz⟩
  obtain ⟨T, o, its, n, hT, ho, hc, hdt, rv, hz⟩ := it
  obtain ⟨as, rds⟩ := Dp.readsAll I ps xs its hd rv
  have hlx : xs.length = ps.length := dpAll_len hd
  have hli : its.length = xs.length := rv.length.symm
  refine Calls.call_function_entry kind_sorted plain_sorted entry_sorted (args_sorted1 _) ?_
  unfold Builtin.«sorted»
  refine wpAny_bind (m := checkCount "sorted" 1 1 _) (wpAny_pure ?_)
  refine wpAny_bind (wpAny_collect_seq a hT ho hc hdt (fun h' k1 => ?_) (by rw [List.size_toArray]; omega))
  refine wpAny_bind (wpAny_newList ?_ (by simp only [List.toList_toArray]; omega))
  have e0 : (its.toArray).toList = its := by simp
  rw [e0]
  have hoL : (h'.push (seqObj "list" its.toArray 0)).get? h'.objs.size = some (seqObj "list" its.toArray 0) := Heap.get?_push_size _ rfl
  have k2 : ∀ b u, s.heap.get? b = some u → (h'.push (seqObj "list" its.toArray 0)).get? b = some u := fun b u e => Heap.get?_push_of_some _ (k1 b u e)
  have I1 : Inv X pins sg H { s with heap := h' } := I.kept (t' := s.toks) k1
  have hp : H h'.objs.size = none := I1.hok.fresh (Nat.le_refl _)
  have e : PySem.W.EachIs (fun v (b : V × PyData) => RelV b.1 v) its (xs.zip ps) := eachIs_of _ hli hlx fun i v x p h1 h2 _ => by
    obtain ⟨u, hu', ru⟩ := rv.get h2
    rw [h1] at hu'; cases hu'
    exact ru
  have er : PySem.W.EachIs (fun v (b : V × PyData) => ∃ as, Reads (h'.push (seqObj "list" its.toArray 0)) v b.2 as ∧ h'.objs.size ∉ as) its (xs.zip ps) := eachIs_of _ hli hlx fun i v x p h1 _ h3 => by
    obtain ⟨bs, hb⟩ := readsAll_get rds i v p h1 h3
    refine ⟨bs, PyProof.Rows.Reads.keeps k2 hb, fun hm => ?_⟩
    obtain ⟨u, hu'⟩ := reads_lt hb _ hm
    exact absurd (Heap.lt_size (k1 _ _ hu')) (Nat.lt_irrefl _)
  have emap : (xs.zip ps).map (·.2) = ps := List.map_snd_zip (by omega)
  have hzl : (xs.zip ps).length = xs.length := by rw [List.length_zip]; omega
  refine wpAny_bind (wpAny_holding (PySem.W.list_sort_data (s := { s with heap := h'.push (seqObj "list" its.toArray 0) }) (enc := fun b : V × PyData => b.2) (R := fun v (b : V × PyData) => RelV b.1 v) hoL e er (by rw [emap]; exact hal) (by rw [emap]; exact hk) (by omega) (fun b hb => ?_) fun out hlen hout => ?_))
  · have hb2 : b.2 ∈ ps := (List.of_mem_zip (a := b.1) (b := b.2) hb).2
    have := hdep _ hb2
    show X.A.units + 1 + 1 + _ < cLine
    omega
  · obtain ⟨c, hc'⟩ := sortedHeap_at (vs := its) (out := out.toArray) hoL
    have hv : Vals (sortBy (xs.zip ps)) out := by
      have := eachIs_vals (fun v b hb => hb) hout
      exact this
    have k3 : ∀ b u, h'.get? b = some u → (sortedHeap (h'.push (seqObj "list" its.toArray 0)) h'.objs.size its out.toArray).get? b = some u := fun b u eb => by
      have hlt := Heap.lt_size eb
      rw [sortedHeap_old (Nat.ne_of_lt hlt) (by rw [size_push']; exact Nat.lt_succ_of_lt hlt)]
      exact Heap.get?_push_of_some _ eb
    refine wpAny_pure ⟨_, rfl, .ref h'.objs.size, upd H h'.objs.size (.lst (sortBy (xs.zip ps))), I1.laid (t' := s.toks) k3 (Nat.le_refl _) ⟨?_, out, c, hv, hc'⟩, rfl, q _ hp⟩
    have : (sortBy (xs.zip ps)).length = out.length := hv.length
    omega
end
end Mn

set_option maxRecDepth 100000
set_option maxHeartbeats 3200000
/-! Mn: sorted(set(a list)). -/
namespace Mn
open PySem PySem.Spec PyProof.Rows L2
section
variable {P : Program} {w : World} {A : Around} {E : Value → Shared → Prop} {s : Shared}
/-- the set that set(..) begins with -/
abbrev noSet (w : World) : Obj := { cls := .type "set", dict := none, data := .set #[] 0 (.fresh 0 0 (!w.params.followText "set-order")) }
/-- set(l) of a list: what is made of the items is told by the update's loop alone -/
theorem set_of_list {l : Addr} {items : Array Value} {Z : Heap → Nat → Prop} {Q : Value → Shared → Prop} (hl : s.heap.IsList l items)
    (loop : ∀ R : Result → Shared → Prop, (∀ h' tk, Z h' tk → R (.ok (.ret .none)) { s with heap := h', toks := tk }) →
      codeAny (model P w) A.in1.in1 (.builtin "set.update.loop" ⟨[.ref s.heap.objs.size, .ref (s.heap.push (noSet w)).objs.size], []⟩) R
        { s with heap := (s.heap.push (noSet w)).push { cls := .type "list_iterator", data := .fields #[.ref l, .int 0 0] } })
    (h : ∀ h' tk, Z h' tk → Q (.ref s.heap.objs.size) { s with heap := h', toks := tk }) : wpAny (model P w) A (call (.type "set") [.ref l]) Q E s := by
  obtain ⟨c, tl, hmro⟩ := PySem.F.called_set.mro
  have made := PySem.F.called_set.made
  have sub := PySem.F.called_set.sub
  have nt := PySem.F.called_set.notType
  have cc := PySem.F.called_set.canCreate
  have tc := PySem.F.typeCall_set_1 (.ref l)
  refine wpAny_call (codeAny_of_tree ?_)
  show wpAny _ _ (callAny (.type "set") _) _ _ _
  refine wpAny_pure ⟨Code.quiet_builtin _ (by decide +kernel), codeAny_builtin PySem.F.entry_type_call ?_⟩
  rw [Around.under_plain (weight_type_call_type "set" [.ref l] []) rfl]
  repeat (any_goals (first | assumption | wp_step))
  refine codeAny_mono (code_set_led1 (.ref l) (E := E) (Q₁ := fun o t => o = .ref s.heap.objs.size ∧ t = { s with heap := s.heap.push (noSet w) }) ⟨rfl, rfl⟩) fun r t hr => ?_
  cases r with
  | error e => exact hr
  | ok fl =>
    cases fl with
    | next => exact hr.elim
    | brk => exact hr.elim
    | cont => exact hr.elim
    | ret o =>
      obtain ⟨rfl, rfl⟩ := hr
      have hS : (s.heap.push (noSet w)).get? s.heap.objs.size = some (noSet w) := Heap.get?_push_size _ rfl
      have hT : Shared.TypeIs { s with heap := s.heap.push (noSet w) } (.ref s.heap.objs.size) "set" := ⟨_, hS, rfl⟩
      have il := PySem.F.called_set.init.lookup
      have ib := PySem.F.called_set.init.bind (.ref s.heap.objs.size)
      repeat (any_goals (first | assumption | wp_step))
      refine codeAny_mono (codeAny_call_builtin (R := wants (fun r t => r = .none ∧ ∃ h' tk, t = { s with heap := h', toks := tk } ∧ Z h' tk) E) PySem.F.called_set.init.plain PySem.F.entry_set_init (check_set_init_1 hT ?_)) fun r2 t2 hr2 => ?_
      · obtain ⟨ol, hol, hcl, nl, hdl⟩ := hl
        obtain ⟨ocls, odict, odata, oslots⟩ := ol
        simp only at hcl hdl
        subst hcl; subst hdl
        have hol2 : (s.heap.push (noSet w)).get? l = some { cls := .type "list", dict := odict, data := .seq items nl, slots := oslots } := Heap.get?_push_of_some _ hol
        have s1 := PySem.F.sub_list_set
        have s2 := PySem.F.sub_list_frozenset
        have ne : (Value.type "list" == Value.type "dict") = false := by decide
        have hl2 : (s.heap.push (noSet w)).IsList l items := ⟨_, hol2, rfl, nl, rfl⟩
        unfold Builtin.«set.__init__» noKeywords Builtin.Frozenset.updateFrom
        generalize hPI : pyIter = PI
        wp_walk
        subst hPI
        refine wpAny_pyIter_list hl2 (wpAny_bind (wpAny_runValue ?_))
        refine loop _ fun h' tk z => ?_
        show wpAny _ _ _ _ _ _
        refine wpAny_pure ?_
        show wpAny _ _ (PySem.ret Value.none) _ _ _
        exact wpAny_pure ⟨rfl, h', tk, rfl, z⟩
      · cases r2 with
        | error e => exact hr2
        | ok fl2 =>
          cases fl2 with
          | next => exact hr2.elim
          | brk => exact hr2.elim
          | cont => exact hr2.elim
          | ret r =>
            obtain ⟨rfl, h', tk, rfl, z⟩ := hr2
            repeat (any_goals (first | assumption | wp_step))
            exact h _ _ z
end
end Mn

set_option maxRecDepth 100000
set_option maxHeartbeats 1000000
/-! Mn: sorted(set(a list)), of ints, of tuples of ints. -/
namespace Mn
open PySem PySem.Spec PyProof.Rows L2
section
variable {P : Program} {w : World} {A : Around} {E : Value → Shared → Prop} {s : Shared}
theorem set_ints {l : Addr} {items : Array Value} (ns : List Int) {Q : Value → Shared → Prop} (hh : A.handled = none) (hl : s.heap.IsList l items) (hi : IntsAre items.toList ns) (hb : ns.length + 1 < scanBound)
    (h : ∀ (h' : Heap) (tk c : Nat), SetR w h' s.heap.objs.size (fun j => decide (j ∈ ns)) c → c ≤ ns.length → (∀ b o, s.heap.get? b = some o → h'.get? b = some o) → Q (.ref s.heap.objs.size) { s with heap := h', toks := tk }) :
    wpAny (model P w) A (call (.type "set") [.ref l]) Q E s := by
  have hsz : items.size = ns.length := by
    have := hi.length
    rwa [Array.length_toList] at this
  have hlS : l < s.heap.objs.size := by
    obtain ⟨o, ho, _⟩ := hl
    exact Heap.lt_size ho
  have hz : (s.heap.push (noSet w)).objs.size = s.heap.objs.size + 1 := Heap.size_push ..
  refine set_of_list (Z := fun h' tk => ∃ c, SetR w h' s.heap.objs.size (fun j => decide (j ∈ ns)) c ∧ c ≤ ns.length ∧ ∀ b o, s.heap.get? b = some o → h'.get? b = some o) hl (fun R hR => ?_) fun h' tk ⟨c, z1, z2, z3⟩ => h h' tk c z1 z2 z3
  have hS : (s.heap.push (noSet w)).get? s.heap.objs.size = some (noSet w) := Heap.get?_push_size _ rfl
  have hne : l ≠ (s.heap.push (noSet w)).objs.size := by rw [hz]; exact Nat.ne_of_lt (Nat.lt_succ_of_lt hlS)
  have hSf : s.heap.objs.size ∉ [(s.heap.push (noSet w)).objs.size, l] := by
    rw [hz]
    intro hm
    rcases List.mem_cons.mp hm with e | hm
    · exact absurd e (Nat.ne_of_lt (Nat.lt_succ_self _))
    · exact absurd (List.mem_singleton.mp hm) (Nat.ne_of_gt hlS)
  have hv : ∀ (i : Nat) (v : Value), items[i]? = some v → ∃ k t, ns[i]? = some k ∧ v = .int k t := fun i v e => by
    have hlt : i < ns.length := by rw [← hsz]; exact (Array.getElem?_eq_some_iff.mp e).1
    obtain ⟨t, e2⟩ := IntsAre.int_at hi i v (by rw [Array.getElem?_toList]; exact e)
    refine ⟨ns[i], t, List.getElem?_eq_getElem hlt, ?_⟩
    rw [e2, List.getD_eq_getElem?_getD, List.getElem?_eq_getElem hlt]; rfl
  have hh3 : A.in1.in1.in1.handled = none := hh
  have hl2 : (s.heap.push (noSet w)).IsList l items := by
    obtain ⟨o, ho, r⟩ := hl
    exact ⟨o, Heap.get?_push_of_some _ ho, r⟩
  refine set_update_ints ((Walks.list hh3 _ l hne items).toS) s.heap.objs.size hSf ns hsz hb hv (items.size - 0) 0 _ (by omega) (Nat.zero_le _) ⟨⟨_, Heap.get?_push_size _ rfl, rfl, rfl⟩, ?_⟩ ⟨0, Nat.le_refl 0, setR_new_at (Heap.get?_push_of_some _ hS)⟩ fun s' c hm hc hS' => ?_
  · obtain ⟨o, ho, r⟩ := hl2
    exact ⟨o, Heap.get?_push_of_some _ ho, r⟩
  · obtain ⟨h', g2, d', tk', os'⟩ := s'
    have eg : g2 = s.gens := hm.gens
    have ed : d' = s.drawn := hm.drawn
    have eo : os' = s.os := hm.os
    subst eg; subst ed; subst eo
    refine hR h' tk' ⟨c, hS', by rw [← hsz]; exact hc, fun b o e => ?_⟩
    have hb0 : b < s.heap.objs.size := Heap.lt_size e
    refine hm.heap b o (fun hx => ?_) (Heap.get?_push_of_some _ (Heap.get?_push_of_some _ e))
    rcases List.mem_cons.mp hx with q | hx
    · exact absurd q (Nat.ne_of_lt hb0)
    · have q := List.mem_singleton.mp hx
      rw [hz] at q
      exact absurd q (Nat.ne_of_lt (Nat.lt_succ_of_lt hb0))
end
section
variable {X : Cx} {K : PySem.W.Frag}
def rSetI (K : PySem.W.Frag) (w : World) : List V → Hp → VK → Prop := fun xs H Q => ∃ (l : Addr) (ns : List Int), xs = [V.ref l] ∧ SqL K H l (ns.map V.int) ∧ ns.length < 64 ∧ ∀ a c, H a = none → c < 64 → Q (.ref a) (upd H a (SetO w a (fun j => decide (j ∈ ns)) c))
theorem cr_setI (hc : X.calm = true) : CallR X (.type "set") (rSetI X.K X.w) := by
  intro pins s sg H xs us Q I r h
  obtain ⟨l, ns, rfl, hl, hf, q⟩ := h
  rw [Vals.ref1 r]
  obtain ⟨its, rv, pl, hz⟩ := I.list hl
  refine set_ints ns (I.ok.hd hc) pl.isList (by simpa using rv.ints) (by unfold scanBound; omega) fun h' tk c R hcn k => ?_
  exact ⟨.ref s.heap.objs.size, upd H s.heap.objs.size (SetO X.w s.heap.objs.size (fun j => decide (j ∈ ns)) c), I.laid (t' := tk) k (Nat.le_refl _) (setO_new R), rfl, q _ c (I.hok.fresh (Nat.le_refl _)) (by omega)⟩

/-! ### rows -/
def rowP (r : List Int) : PyData := .tuple (r.map .int)
def rowLe (x y : List Int) : Bool := PySem.W.dataLe false rowP x y
theorem rowLe_iff (x y : List Int) : rowLe x y = decide (x ≤ y) := by
  have h := PySem.W.dataLt_ints y x
  have e : PySem.W.dataLt (rowP y) (rowP x) = decide (y < x) := by
    unfold rowP PySem.W.dataLt
    rw [PySem.W.keyToks, PySem.W.keyToks]
    exact h
  unfold rowLe
  rw [PySem.W.dataLe_eq]
  show (!PySem.W.dataLt (rowP y) (rowP x)) = _
  rw [e]
  by_cases hx : y < x
  · have : ¬ x ≤ y := fun q => q hx
    simp [hx, this]
  · have : x ≤ y := hx
    simp [hx, this]
theorem rowLe_tr (a b c : List Int) (h1 : rowLe a b = true) (h2 : rowLe b c = true) : rowLe a c = true := by
  rw [rowLe_iff, decide_eq_true_eq] at *
  exact List.le_trans h1 h2
theorem rowLe_tot (a b : List Int) : (rowLe a b || rowLe b a) = true := by
  rw [rowLe_iff, rowLe_iff, Bool.or_eq_true, decide_eq_true_eq, decide_eq_true_eq]
  exact List.le_total a b
theorem rowLe_anti (a b : List Int) (h1 : rowLe a b = true) (h2 : rowLe b a = true) : a = b := by
  rw [rowLe_iff, decide_eq_true_eq] at h1 h2
  exact List.le_antisymm h1 h2
def sortRows (l : List (List Int)) : List (List Int) := l.mergeSort rowLe
theorem sortRows_perm (l : List (List Int)) : (sortRows l).Perm l := List.mergeSort_perm _ _
theorem sortRows_pw (l : List (List Int)) : (sortRows l).Pairwise (fun a b => rowLe a b = true) := List.pairwise_mergeSort rowLe_tr rowLe_tot l
theorem rows_one {l m : List (List Int)} (h1 : l.Pairwise (fun a b => rowLe a b = true)) (h2 : m.Pairwise (fun a b => rowLe a b = true)) (p : l.Perm m) : l = m :=
  List.Perm.eq_of_pairwise (fun a b _ _ => rowLe_anti a b) h1 h2 p
def dedup {α : Type} [DecidableEq α] : List α → List α
  | [] => []
  | x :: r => if x ∈ r then dedup r else x :: dedup r
theorem mem_dedup {α : Type} [DecidableEq α] {x : α} : ∀ {l : List α}, x ∈ dedup l ↔ x ∈ l
  | [] => Iff.rfl
  | y :: r => by
    unfold dedup
    split
    · rw [mem_dedup, List.mem_cons]
      constructor
      · exact .inr
      · rintro (rfl | h)
        · assumption
        · exact h
    · rw [List.mem_cons, List.mem_cons, mem_dedup]
theorem nodup_dedup {α : Type} [DecidableEq α] : ∀ l : List α, (dedup l).Nodup
  | [] => List.Pairwise.nil
  | y :: r => by
    unfold dedup
    split
    · exact nodup_dedup r
    · rename_i h
      exact List.nodup_cons.mpr ⟨fun q => h (mem_dedup.mp q), nodup_dedup r⟩
theorem nodup_perm {α : Type} [DecidableEq α] {l m : List α} (h1 : l.Nodup) (h2 : m.Nodup) (h : ∀ x, x ∈ l ↔ x ∈ m) : l.Perm m := (List.perm_ext_iff_of_nodup h1 h2).mpr h
/-- sorted(set), of rows of ints -/
def rSortTS (K : PySem.W.Frag) (P : Program) (w : World) : List V → Hp → VK → Prop := fun vs H Q => ∃ (a : Addr) (L : List (Addr × List Int)), vs = [V.ref a] ∧ H a = some (SetTO P w a L) ∧ (∀ p ∈ L, SqT K H p.1 (p.2.map V.int)) ∧ (∀ p ∈ L, p.2 ≠ []) ∧
  ∀ (L' : List (Addr × List Int)) (p : Addr), L'.Perm L → (L.map (·.2)).Nodup → L'.Pairwise (fun q r => rowLe q.2 r.2 = true) → H p = none → Q (.ref p) (upd H p (.lst (L'.map fun q => V.ref q.1)))
theorem refs_perm {L : List (Addr × List Int)} : ∀ {vs : List Value}, vs.Perm (L.map fun q => Value.ref q.1) → ∃ L1 : List (Addr × List Int), vs = L1.map (fun q => Value.ref q.1) ∧ L1.Perm L := by
  intro vs h
  generalize hm : L.map (fun q => Value.ref q.1) = m at h
  induction h generalizing L with
  | nil =>
    cases L with
    | nil => exact ⟨[], rfl, .refl _⟩
    | cons q L => cases hm
  | cons x _ ih =>
    cases L with
    | nil => cases hm
    | cons q L =>
      rw [List.map_cons] at hm
      injection hm with e1 e2
      obtain ⟨L1, h1, h2⟩ := ih e2
      exact ⟨q :: L1, by rw [h1, ← e1]; rfl, h2.cons q⟩
  | swap x y l =>
    match L, hm with
    | q :: r :: L, hm =>
      rw [List.map_cons, List.map_cons] at hm
      injection hm with e1 e2
      injection e2 with e3 e4
      exact ⟨r :: q :: L, by rw [← e1, ← e3, ← e4]; rfl, List.Perm.swap q r L⟩
  | trans _ _ ih1 ih2 =>
    obtain ⟨L2, h1, h2⟩ := ih2 hm
    obtain ⟨L1, h3, h4⟩ := ih1 h1.symm
    exact ⟨L1, h3, h4.trans h2⟩
theorem cr_sortTS (hc : X.calm = true) (hu : X.A.units + 200 < cLine) : CallR X (.builtin "sorted") (rSortTS X.K X.prog X.w) := by
  intro pins s sg H vs us Q I r h
  obtain ⟨a, L, rfl, ha, hk, hne, q⟩ := h
  have R0 : SetT0 X.prog X.w s.heap a L := (I.hok a _ ha).1
  obtain ⟨es, ep, t, R⟩ := R0.full fun p hp => I.isT (hk p hp)
  rw [Vals.ref1 r]
  obtain ⟨o, ho, hex, hd⟩ := R.ob
  have hsz := R.size
  have few := R.few
  refine Calls.call_function_entry kind_sorted plain_sorted entry_sorted (args_sorted1 _) ?_
  unfold Builtin.«sorted»
  refine wpAny_bind (m := checkCount "sorted" 1 1 _) (wpAny_pure ?_)
  refine wpAny_bind (collect_set (A := X.A.in1) (I.ok.hd hc) ⟨o, ho, hex.1, hd⟩ R.fits (by unfold scanBound; omega) R.tab.ris R.led fun s1 vs k1 z1 g1 o1 pm => ?_)
  have hes : es.toList.map (·.2) = L.map fun q => Value.ref q.1 := by
    rw [R.rows]; unfold rowsOf; rw [List.map_map]; rfl
  rw [hes] at pm
  obtain ⟨L1, rfl, p1⟩ := refs_perm pm
  have hl1 : L1.length < 64 := by rw [p1.length_eq]; exact few
  refine wpAny_bind (wpAny_newList ?_ (by rw [List.length_map, sizeLine_eq]; omega))
  have hoL : (s1.heap.push (seqObj "list" (L1.map fun q => Value.ref q.1).toArray 0)).get? s1.heap.objs.size = some (seqObj "list" (L1.map fun q => Value.ref q.1).toArray 0) := Heap.get?_push_size _ rfl
  have rd : ∀ p ∈ L1, ∃ bs, Reads s.heap (.ref p.1) (rowP p.2) bs := fun p hp => by
    obtain ⟨o2, its, n2, h1, h2, h3, h4⟩ := R.tup p (p1.mem_iff.mp hp)
    have hi := ints_of_items h4
    have : ∃ bs, ReadsAll s.heap its.toList (p.2.map PyData.int) bs := by
      clear h4 h3
      generalize its.toList = vs at hi
      generalize p.2 = k at hi
      induction hi with
      | nil => exact ⟨_, .nil⟩
      | cons n t _ ih => obtain ⟨bs, hb⟩ := ih; exact ⟨_, .cons (.int n t) hb⟩
    obtain ⟨bs, hb⟩ := this
    exact ⟨bs, .tuple h1 h2 h3 hb⟩
  have e : PySem.W.EachIs (fun v (b : Addr × List Int) => v = Value.ref b.1) (L1.map fun q => Value.ref q.1) L1 := by
    clear rd hoL hl1 p1 pm
    induction L1 with
    | nil => exact .nil
    | cons b L1 ih => exact .cons rfl ih
  have er : PySem.W.EachIs (fun v (b : Addr × List Int) => ∃ as, Reads (s1.heap.push (seqObj "list" (L1.map fun q => Value.ref q.1).toArray 0)) v (rowP b.2) as ∧ s1.heap.objs.size ∉ as) (L1.map fun q => Value.ref q.1) L1 := by
    have key : ∀ M : List (Addr × List Int), (∀ p ∈ M, p ∈ L1) → PySem.W.EachIs (fun v (b : Addr × List Int) => ∃ as, Reads (s1.heap.push (seqObj "list" (L1.map fun q => Value.ref q.1).toArray 0)) v (rowP b.2) as ∧ s1.heap.objs.size ∉ as) (M.map fun q => Value.ref q.1) M := by
      intro M
      induction M with
      | nil => intro _; exact .nil
      | cons b M ih =>
        intro hs
        refine .cons ?_ (ih fun p hp => hs p (List.mem_cons_of_mem _ hp))
        obtain ⟨bs, hb⟩ := rd b (hs b List.mem_cons_self)
        refine ⟨bs, PyProof.Rows.Reads.keeps (fun c u eu => Heap.get?_push_of_some _ (k1 c u eu)) hb, fun hm => ?_⟩
        obtain ⟨u, hu'⟩ := reads_lt hb _ hm
        exact absurd (Heap.lt_size (k1 _ _ hu')) (Nat.lt_irrefl _)
    exact key L1 fun _ h => h
  have hal : PySem.W.AllAlike (L1.map fun b => rowP b.2) := PySem.W.AllAlike.of fun b b' => by
    show PySem.W.alike (rowP b.2) (rowP b'.2) = true
    unfold rowP
    rw [PySem.W.alike]
    exact PySem.W.alike_ints _ _
  have hsr : PySem.W.Sortable (L1.map fun b => rowP b.2) := .inl fun d hd => by
    obtain ⟨b, hb, rfl⟩ := List.mem_map.mp hd
    have nb := hne b (p1.mem_iff.mp hb)
    cases hb2 : b.2 with
    | nil => exact absurd hb2 nb
    | cons x r => exact ⟨.int x, r.map .int, by unfold rowP; rfl⟩
  refine wpAny_bind (wpAny_holding (PySem.W.list_sort_data (s := { s1 with heap := s1.heap.push (seqObj "list" (L1.map fun q => Value.ref q.1).toArray 0) }) (enc := fun b : Addr × List Int => rowP b.2) (R := fun v (b : Addr × List Int) => v = Value.ref b.1) hoL e er hal hsr (by rw [sizeLine_eq]; omega) (fun b hb => ?_) fun out hlen hout => ?_))
  · show X.A.units + 1 + 1 + PyData.depth (rowP b.2) < cLine
    have : PyData.depth (rowP b.2) = 1 := by unfold rowP; rw [PyData.depth, PySem.W.depth_ints]
    omega
  · obtain ⟨c, hc'⟩ := sortedHeap_at (vs := L1.map fun q => Value.ref q.1) (out := out.toArray) hoL
    have hout2 : out = (L1.mergeSort (PySem.W.dataLe false fun b : Addr × List Int => rowP b.2)).map fun q => Value.ref q.1 := by
      clear hc' hlen
      generalize L1.mergeSort (PySem.W.dataLe false fun b : Addr × List Int => rowP b.2) = M at hout
      induction hout with
      | nil => rfl
      | cons h _ ih => rw [h, ih]; rfl
    have pL : (L1.mergeSort (PySem.W.dataLe false fun b : Addr × List Int => rowP b.2)).Perm L := (List.mergeSort_perm _ _).trans p1
    have pw : (L1.mergeSort (PySem.W.dataLe false fun b : Addr × List Int => rowP b.2)).Pairwise (fun q r => rowLe q.2 r.2 = true) :=
      List.pairwise_mergeSort (le := PySem.W.dataLe false fun b : Addr × List Int => rowP b.2) (fun a b c h1 h2 => rowLe_tr a.2 b.2 c.2 h1 h2) (fun a b => rowLe_tot a.2 b.2) L1
    generalize L1.mergeSort (PySem.W.dataLe false fun b : Addr × List Int => rowP b.2) = M at hout2 pL pw
    have hn : H s1.heap.objs.size = none := I.hok.fresh z1
    have k3 : ∀ b u, s.heap.get? b = some u → (sortedHeap (s1.heap.push (seqObj "list" (L1.map fun q => Value.ref q.1).toArray 0)) s1.heap.objs.size (L1.map fun q => Value.ref q.1) out.toArray).get? b = some u := fun b u eb => by
      have q := k1 b u eb
      have hlt := Heap.lt_size q
      rw [sortedHeap_old (Nat.ne_of_lt hlt) (by rw [size_push']; exact Nat.lt_succ_of_lt hlt)]
      exact Heap.get?_push_of_some _ q
    have hlM : (M.map fun q => V.ref q.1).length ≤ sizeLine := by rw [List.length_map, pL.length_eq, sizeLine_eq]; omega
    have hv : Vals (M.map fun q => V.ref q.1) out := by rw [hout2]; exact vals_of_refs M
    have J : Inv X pins sg (upd H s1.heap.objs.size (.lst (M.map fun q => V.ref q.1))) { s with heap := sortedHeap (s1.heap.push (seqObj "list" (L1.map fun q => Value.ref q.1).toArray 0)) s1.heap.objs.size (L1.map fun q => Value.ref q.1) out.toArray, gens := s1.gens, drawn := s1.drawn, toks := s1.toks } :=
      I.call (ch := []) (Un.laid k3 z1 hn) (I.hok.laid k3 z1 ⟨hlM, out, c, hv, hc'⟩) (by rw [g1]; exact I.bare) (fun _ z => nomatch z)
    refine wpAny_pure ⟨_, rfl, ?_⟩
    have es1 : s1.os = s.os := o1
    refine ⟨.ref s1.heap.objs.size, _, ?_, rfl, q M s1.heap.objs.size pL R.nd pw hn⟩
    rw [← es1] at J
    exact J
end
end Mn

set_option maxRecDepth 100000
set_option maxHeartbeats 1000000
/-! Mn: sorted(x), sorted(set(x)) over data. -/
namespace Mn
open PySem PySem.Spec PyProof.Rows L2
section
variable {K : PySem.W.Frag} {ph : Ph} {S : Sto} {H : Hp} {X : Cx}
theorem RepL.maps {α : Type} {f : α → D} {g : α → V} : ∀ {l : List α}, (∀ x ∈ l, Rep K ph S H (f x) (g x)) → RepL K ph S H (l.map f) (l.map g)
  | [], _ => .nil
  | x :: l, h => .cons (h x List.mem_cons_self) (RepL.maps fun y hy => h y (List.mem_cons_of_mem _ hy))
theorem RepL.zip {ds : List D} {xs : List V} (h : RepL K ph S H ds xs) : ∀ p ∈ ds.zip xs, Rep K ph S H p.1 p.2 := by
  induction ds generalizing xs with
  | nil => intro p hp; simp at hp
  | cons d ds ih =>
    obtain ⟨x, r, rfl, h1, h2⟩ := h.cons_inv
    intro p hp
    rw [List.zip_cons_cons] at hp
    rcases List.mem_cons.mp hp with rfl | hp
    · exact h1
    · exact ih h2 p hp
theorem sortBy_rep {ds : List D} {xs : List V} {ps : List PyData} (h : RepL K ph S H ds xs) (hl : xs.length = ps.length) : RepL K ph S H (sortBy (ds.zip ps)) (sortBy (xs.zip ps)) := by
  have hd : ds.length = xs.length := h.len.symm
  let T : List ((D × V) × PyData) := (ds.zip xs).zip ps
  have e1 : T.map (fun t => (t.1.1, t.2)) = ds.zip ps := by
    show ((ds.zip xs).zip ps).map (fun t => (t.1.1, t.2)) = ds.zip ps
    have : (fun t : (D × V) × PyData => (t.1.1, t.2)) = Prod.map Prod.fst id := rfl
    rw [this, ← List.zip_map, List.map_fst_zip (by omega), List.map_id]
  have e2 : T.map (fun t => (t.1.2, t.2)) = xs.zip ps := by
    show ((ds.zip xs).zip ps).map (fun t => (t.1.2, t.2)) = xs.zip ps
    have : (fun t : (D × V) × PyData => (t.1.2, t.2)) = Prod.map Prod.snd id := rfl
    rw [this, ← List.zip_map, List.map_snd_zip (by omega), List.map_id]
  have k1 : sortBy (ds.zip ps) = (T.mergeSort (PySem.W.dataLe false (·.2))).map (fun t => t.1.1) := by
    unfold sortBy
    rw [← e1, ← List.map_mergeSort (l := T) (f := fun t : (D × V) × PyData => (t.1.1, t.2)) (r := PySem.W.dataLe false (fun t : (D × V) × PyData => t.2)) (fun a _ b _ => rfl), List.map_map]; rfl
  have k2 : sortBy (xs.zip ps) = (T.mergeSort (PySem.W.dataLe false (·.2))).map (fun t => t.1.2) := by
    unfold sortBy
    rw [← e2, ← List.map_mergeSort (l := T) (f := fun t : (D × V) × PyData => (t.1.2, t.2)) (r := PySem.W.dataLe false (fun t : (D × V) × PyData => t.2)) (fun a _ b _ => rfl), List.map_map]; rfl
  rw [k1, k2]
  refine RepL.maps fun t ht => ?_
  have ht2 : t ∈ (ds.zip xs).zip ps := (List.mergeSort_perm _ _).mem_iff.mp ht
  exact h.zip t.1 (List.of_mem_zip (a := t.1) (b := t.2) ht2).1
def alikeB (ps : List PyData) : Bool := ps.all fun p => ps.all fun q => PySem.W.alike p q
def sortB (ps : List PyData) : Bool := (ps.all fun p => match p with | .tuple (_ :: _) => true | _ => false) || (ps.all fun p => match p with | .none => false | .tuple _ => false | _ => true)
theorem alikeB_of {ps : List PyData} (h : alikeB ps = true) : PySem.W.AllAlike ps := fun d hd d' hd' => List.all_eq_true.mp (List.all_eq_true.mp h d hd) d' hd'
theorem sortB_of {ps : List PyData} (h : sortB ps = true) : PySem.W.Sortable ps := by
  unfold sortB at h
  rw [Bool.or_eq_true] at h
  rcases h with h | h
  · refine .inl fun d hd => ?_
    have := List.all_eq_true.mp h d hd
    split at this
    · exact ⟨_, _, rfl⟩
    · cases this
  · refine .inr fun d hd => ?_
    have := List.all_eq_true.mp h d hd
    split at this
    · cases this
    · cases this
    · rename_i h1 h2
      exact ⟨h1, h2⟩
def sortL (es : List D) : Option (List D) := match pdL es with
  | some ps => if alikeB ps && sortB ps && ps.all (fun p => decide (p.depth ≤ 100)) then some (sortBy (es.zip ps)) else none
  | none => none
def sortM (ds : List D) : M D := fun S => match ds with
  | [d] => match items d S with
    | some es => (sortL es).map fun r => (.lst r, S)
    | none => none
  | _ => none
def sortN (ds : List D) : M D := fun S => match ds with
  | [d] => match items d S with
    | some es => (sortL es).map fun r => (.ref S.nx, S.new (.lst r))
    | none => none
  | _ => none
theorem c_sort : CaM K (rSortP K) sortM := by
  intro ph S H xs dxs d S' Q s rx e post
  unfold sortM at e
  split at e
  · split at e
    · rename_i es he
      obtain ⟨x, rfl, r⟩ := rx.one
      obtain ⟨a, ys, rfl, h1, h2⟩ := items_of s r he
      unfold sortL at e
      split at e
      · rename_i ps hps
        split at e
        · rename_i hc
          cases e
          simp only [Bool.and_eq_true] at hc
          have dp := dps_of es ys ps h2 hps
          refine ⟨a, ys, ps, rfl, h1, dp, alikeB_of hc.1.1, sortB_of hc.1.2, fun p hp => of_decide_eq_true (List.all_eq_true.mp hc.2 p hp), fun p hp => new_lst s (sortBy_rep h2 (dpAll_len dp)) post hp⟩
        · cases e
      · cases e
    · cases e
  · cases e
theorem c_sortN : CaM K (rSortP K) sortN := by
  intro ph S H xs dxs d S' Q s rx e post
  unfold sortN at e
  split at e
  · split at e
    · rename_i es he
      obtain ⟨x, rfl, r⟩ := rx.one
      obtain ⟨a, ys, rfl, h1, h2⟩ := items_of s r he
      unfold sortL at e
      split at e
      · rename_i ps hps
        split at e
        · rename_i hc
          cases e
          simp only [Bool.and_eq_true] at hc
          have dp := dps_of es ys ps h2 hps
          refine ⟨a, ys, ps, rfl, h1, dp, alikeB_of hc.1.1, sortB_of hc.1.2, fun p hp => of_decide_eq_true (List.all_eq_true.mp hc.2 p hp), fun p hp => new_ref s (sortBy_rep h2 (dpAll_len dp)) post hp⟩
        · cases e
      · cases e
    · cases e
  · cases e

/-! ### sorted(set(..)) -/
def intsD : List D → Option (List Int)
  | [] => some []
  | .int i :: r => (intsD r).map (i :: ·)
  | _ => none
def rowsD : List D → Option (List (List Int))
  | [] => some []
  | .tup es :: r => match intsD es, rowsD r with
    | some k, some ks => some (k :: ks)
    | _, _ => none
  | _ => none
theorem intsD_map : ∀ ns : List Int, intsD (ns.map D.int) = some ns
  | [] => rfl
  | n :: ns => by rw [List.map_cons, intsD, intsD_map ns]; rfl
theorem intsD_inv : ∀ {es : List D} {ns : List Int}, intsD es = some ns → es = ns.map D.int
  | [], ns, h => by cases h; rfl
  | e :: es, ns, h => by
    cases e with
    | int i =>
      rw [intsD] at h
      cases q : intsD es with
      | none => rw [q] at h; cases h
      | some ks => rw [q] at h; cases h; rw [intsD_inv q]; rfl
    | _ => cases h
def rowD (r : List Int) : D := .tup (r.map D.int)
theorem rowsD_map : ∀ rs : List (List Int), rowsD (rs.map rowD) = some rs
  | [] => rfl
  | r :: rs => by
    rw [List.map_cons]
    unfold rowD
    rw [rowsD, intsD_map]
    have := rowsD_map rs
    unfold rowD at this
    rw [this]
theorem rowsD_inv : ∀ {es : List D} {rs : List (List Int)}, rowsD es = some rs → es = rs.map rowD
  | [], ns, h => by cases h; rfl
  | e :: es, ns, h => by
    cases e with
    | tup fs =>
      rw [rowsD] at h
      cases q1 : intsD fs with
      | none => rw [q1] at h; cases h
      | some k =>
        cases q : rowsD es with
        | none => rw [q1, q] at h; cases h
        | some ks => rw [q1, q] at h; cases h; rw [rowsD_inv q, intsD_inv q1]; rfl
    | _ => cases h
theorem RepL.intsV : ∀ {ns : List Int} {xs : List V}, RepL K ph S H (ns.map D.int) xs → xs = ns.map V.int
  | [], xs, h => h.nil_inv
  | n :: ns, xs, h => by
    obtain ⟨x, r, rfl, h1, h2⟩ := h.cons_inv
    rw [h1.intE, h2.intsV]; rfl
theorem repL_ints : ∀ ns : List Int, RepL K ph S H (ns.map D.int) (ns.map V.int)
  | [] => .nil
  | n :: ns => .cons rint (repL_ints ns)
theorem RepL.rowsV : ∀ {rs : List (List Int)} {xs : List V}, RepL K ph S H (rs.map rowD) xs → ∃ L : List (Addr × List Int), xs = L.map (fun p => V.ref p.1) ∧ L.map (·.2) = rs ∧ ∀ p ∈ L, TAt K ph S H p.1 (p.2.map V.int)
  | [], xs, h => ⟨[], h.nil_inv, rfl, fun p hp => by cases hp⟩
  | r :: rs, xs, h => by
    obtain ⟨x, t, rfl, h1, h2⟩ := h.cons_inv
    obtain ⟨L, e1, e2, e3⟩ := h2.rowsV
    unfold rowD at h1
    obtain ⟨a, ys, rfl, k1, k2⟩ := h1.tupE
    rw [k2.intsV] at k1
    exact ⟨(a, r) :: L, by rw [e1]; rfl, by rw [← e2]; rfl, fun p hp => by
      rcases List.mem_cons.mp hp with rfl | hp
      · exact k1
      · exact e3 p hp⟩
def intLe (a b : Int) : Bool := decide (a ≤ b)
def sortInts (l : List Int) : List Int := l.mergeSort intLe
theorem sortInts_perm (l : List Int) : (sortInts l).Perm l := List.mergeSort_perm _ _
theorem sortInts_pw (l : List Int) : (sortInts l).Pairwise (· ≤ ·) := by
  have := List.pairwise_mergeSort (le := intLe) (fun a b c h1 h2 => by unfold intLe at *; rw [decide_eq_true_eq] at *; omega) (fun a b => by unfold intLe; rw [Bool.or_eq_true, decide_eq_true_eq, decide_eq_true_eq]; omega) l
  exact this.imp fun h => by unfold intLe at h; exact of_decide_eq_true h
theorem ints_uniq {l m : List Int} (h1 : l.Pairwise (· ≤ ·)) (h2 : m.Pairwise (· ≤ ·)) (p : l.Perm m) : l = m :=
  List.Perm.eq_of_pairwise (le := fun a b : Int => a ≤ b) (fun a b _ _ x y => Int.le_antisymm x y) h1 h2 p
def ssetL (es : List D) : Option (List D) := match intsD es with
  | some ns => if ns.length < 64 then some ((sortInts (dedup ns)).map D.int) else none
  | none => match rowsD es with
    | some rs => if rs.length < 64 ∧ rs.all (fun r => !r.isEmpty) = true then some ((sortRows (dedup rs)).map rowD) else none
    | none => none
def ssetM (d : D) : M D := fun S => match itemsL d S with
  | some es => (ssetL es).map fun r => (.lst r, S)
  | none => none
theorem e_sset {a : Expr} {ma : EM D} {p p2 q pos : Pos} (hc : X.calm = true) (hu : X.A.units + 200 < cLine) (hg : Gl X "sorted") (hm : X.mg "sorted" = none) (hg2 : Gl X "set") (hm2 : X.mg "set" = none) (ha : PE X a (rdE X.K ma))
    (na : starEach [a] X.env = (false, eval a X.env) :: starEach [] X.env := by rfl) :
    PE X (.Call (.Name "sorted" p) [.Call (.Name "set" p2) [a] [] q] [] pos) (rdE X.K (mUn ssetM ma)) := by
  refine PE.weak (pe_callB (id := "sorted") ((cr_sortedSet hc).or (cr_sortTS hc hu)) hg hm (by decide +kernel) (pa_cons (pe_callTy (T := "set") ((cr_setI hc).or (cr_setOfT hc (by omega))) hg2 hm2 (by decide +kernel) (pa_cons ha pa_nil na) (by decide) (by decide) na (by rfl)) pa_nil) (by decide) (by decide) (by rfl) (by rfl)) fun sg H Q h => ?_
  obtain ⟨ph, S, rho, d, S', s, en, e, post⟩ := h
  obtain ⟨dd, S1, e1, e2⟩ := bnd_inv e
  refine ⟨ph, S, rho, dd, S1, s, en, e1, fun ph1 H1 x E1 s1 r1 => ?_⟩
  unfold ssetM at e2
  split at e2
  · rename_i es he
    obtain ⟨b, xs, rfl, k1, k2⟩ := itemsL_of s1 r1 he
    unfold ssetL at e2
    split at e2
    · rename_i ns hns
      split at e2
      · rename_i hlt
        cases e2
        rw [intsD_inv hns] at k2
        rw [k2.intsV] at k1
        refine .inl ⟨b, ns, rfl, .inl (.inl k1), hlt, fun a' c hna hc64 => ?_⟩
        refine .inl ⟨a', _, c, rfl, upd_same, hc64, fun ms p' pw mem ml hp => ?_⟩
        have eq : ms = sortInts (dedup ns) := by
          refine ints_uniq (pw.imp fun h => Int.le_of_lt h) (sortInts_pw _) ?_
          refine (nodup_perm (pw.imp fun h => Int.ne_of_lt h) (nodup_dedup ns) fun k => ?_).trans (sortInts_perm _).symm
          rw [mem k, mem_dedup, decide_eq_true_eq]
        rw [eq]
        have E2 := Ext.tree (o := SetO X.w a' (fun j => decide (j ∈ ns)) c) s1 hna
        exact new_lst (s1.tree hna) (repL_ints _) (post.of (E1.trans E2)) hp
      · cases e2
    · split at e2
      · rename_i rs hrs
        split at e2
        · rename_i hlt
          cases e2
          rw [rowsD_inv hrs] at k2
          obtain ⟨L, rfl, f2, f3⟩ := k2.rowsV
          have hL : L.length < 64 := by
            have := congrArg List.length f2
            rw [List.length_map] at this
            omega
          refine .inr ⟨b, L, rfl, .inl (.inl k1), fun p hp => (f3 p hp).sq, hL, fun a' L2 hna sub all => ?_⟩
          have E2 := Ext.tree (o := SetTO X.prog X.w a' L2) s1 hna
          refine .inr ⟨a', L2, rfl, upd_same, fun p hp => ((f3 p (sub p hp)).ext E2).sq, fun p hp => ?_, fun L' p' pm nd pw hp => ?_⟩
          · have hm : p.2 ∈ rs := by rw [← f2]; exact List.mem_map.mpr ⟨p, sub p hp, rfl⟩
            have := List.all_eq_true.mp hlt.2 _ hm
            intro q
            rw [q] at this
            cases this
          · have eq : L'.map (·.2) = sortRows (dedup rs) := by
              refine rows_one (List.pairwise_map.mpr pw) (sortRows_pw _) ?_
              refine (pm.map (·.2)).trans ((nodup_perm nd (nodup_dedup rs) fun k => ?_).trans (sortRows_perm _).symm)
              rw [mem_dedup, ← f2]
              constructor
              · intro hk
                obtain ⟨p, hp, rfl⟩ := List.mem_map.mp hk
                exact List.mem_map.mpr ⟨p, sub p hp, rfl⟩
              · intro hk
                obtain ⟨p, hp, rfl⟩ := List.mem_map.mp hk
                exact all p hp
            have rl : RepL X.K ph1 S' (upd H1 a' (SetTO X.prog X.w a' L2)) ((sortRows (dedup rs)).map rowD) (L'.map fun q => V.ref q.1) := by
              rw [← eq, List.map_map]
              refine RepL.maps fun p hp => ?_
              show Rep X.K ph1 S' _ (rowD p.2) (V.ref p.1)
              unfold rowD
              rw [Rep]
              exact ⟨p.1, p.2.map V.int, rfl, (f3 p (sub p (pm.mem_iff.mp hp))).ext E2, repL_ints _⟩
            exact new_lst (s1.tree hna) rl (post.of (E1.trans E2)) hp
        · cases e2
      · cases e2
  · cases e2
end
end Mn

set_option maxRecDepth 100000
set_option maxHeartbeats 1000000
/-! Mn: what a loop walks, targets, comprehensions, statements. -/
namespace Mn
open PySem PySem.Spec PyProof.Rows L2

/-- what is walked: its items, and the object whose list they are -/
structure Src where
  ds : List D
  n : List (Nat × List D)
def srcOk (src : Src) (S : Sto) : Prop := ∀ p ∈ src.n, S.ob p.1 = some (.lst p.2)
theorem srcOk_nil {ds : List D} {S : Sto} : srcOk ⟨ds, []⟩ S := fun p h => nomatch h
theorem srcOk_one {ds es : List D} {n : Nat} {S : Sto} : srcOk ⟨ds, [(n, es)]⟩ S ↔ S.ob n = some (.lst es) := ⟨fun h => h (n, es) (List.mem_singleton.mpr rfl), fun h p hp => by rw [List.mem_singleton.mp hp]; exact h⟩

structure ItOk (K : PySem.W.Frag) (ph : Ph) (S : Sto) (H : Hp) (J : It) (src : Src) : Prop where
  go : ∀ ph1 S1 H1, Ext0 ph S H ph1 S1 H1 → Sim K ph1 S1 H1 → srcOk src S1 → ∀ i d, src.ds[i]? = some d → J.go i H1 ∧ ∀ x H2, J.yld i H1 x H2 → Ext ph1 S1 H1 ph1 S1 H2 ∧ Sim K ph1 S1 H2 ∧ Rep K ph1 S1 H2 d x
  stop : ∀ ph1 S1 H1, Ext0 ph S H ph1 S1 H1 → Sim K ph1 S1 H1 → srcOk src S1 → ∀ i, src.ds.length ≤ i → J.stop i H1

def rdI (K : PySem.W.Frag) (m : EM Src) : TI := fun sg H R => ∃ ph S rho src S', Sim K ph S H ∧ REnv K ph S H rho sg ∧ m rho S = some (src, S') ∧
  ∀ ph1 H1 J, Ext ph S H ph1 S' H1 → Sim K ph1 S' H1 → ItOk K ph1 S' H1 J src → R J H1

theorem PI.weak {X : Cx} {tg e : Expr} {t t' : TI} (h : PI X tg e t) (k : ∀ sg H R, t' sg H R → t sg H R) : PI X tg e t' := ⟨fun pins s sg H R I q => h.run pins s sg H R I (k sg H R q)⟩

/-! ### lists and tuples -/
def Itb (K : PySem.W.Frag) (a : Addr) : It := Itl K a
/-- a list, or a tuple -/
def iSeq (K : PySem.W.Frag) (tl : TE) : TI := fun σ H R => tl σ H fun x H1 => ∃ a, x = .ref a ∧ (((∃ xs, SqL K H1 a xs) ∧ R (Itl K a) H1) ∨ ((∃ xs, SqT K H1 a xs) ∧ R (Itt K a) H1))
section
variable {X : Cx} {tg : Expr}
theorem pi_seq {l : Expr} {tl : TE} (hl : PE X l tl) : PI X tg l (iSeq X.K tl) := by
  refine ⟨fun pins s σ H R I h => ?_⟩
  refine thn (hl.run pins s σ H _ I h) fun v s1 ⟨x, H1, I1, r1, q1⟩ => ?_
  obtain ⟨a, e, q⟩ := q1
  subst e
  cases r1
  rcases q with ⟨⟨xs, hq⟩, q⟩ | ⟨⟨xs, hq⟩, q⟩
  · obtain ⟨its, rv, p, hz⟩ := I1.list hq
    refine wpAny_pyIter_list p.isList ?_
    refine ⟨s1.heap.objs.size, [s1.heap.objs.size], _, _, H1, rfl, I1.kept (t' := s1.toks) fun b o e => Heap.get?_push_of_some _ e, turn_list a _, ⟨_, Heap.get?_push_size _ rfl, rfl, rfl⟩, fun b hb => ?_, q⟩
    have e : b = s1.heap.objs.size := by simpa using hb
    subst e
    exact I1.fpOk (Nat.le_refl _) (I1.hok.fresh (Nat.le_refl _))
  · obtain ⟨its, rv, p, hz⟩ := I1.tuple hq
    refine wpAny_pyIter_tuple (show s1.heap.IsTuple a its.toArray from p) ?_
    refine ⟨s1.heap.objs.size, [s1.heap.objs.size], _, _, H1, rfl, I1.kept (t' := s1.toks) fun b o e => Heap.get?_push_of_some _ e, turn_tuple a _, ⟨_, Heap.get?_push_size _ rfl, rfl, rfl⟩, fun b hb => ?_, q⟩
    have e : b = s1.heap.objs.size := by simpa using hb
    subst e
    exact I1.fpOk (Nat.le_refl _) (I1.hok.fresh (Nat.le_refl _))
end

/-- the items of a value -/
def srcOf (d : D) (S : Sto) : Option Src := match d with
  | .tup ds => some ⟨ds, []⟩
  | .lst ds => some ⟨ds, []⟩
  | .rol ds => some ⟨ds, []⟩
  | .ref n => match S.ob n with
    | some (.lst ds) => some ⟨ds, [(n, ds)]⟩
    | _ => none
  | _ => none
def mISeq (m : EM D) : EM Src := fun rho => bnd (m rho) fun d S => (srcOf d S).map fun s => (s, S)

section
variable {K : PySem.W.Frag} {ph : Ph} {S : Sto} {H : Hp}
theorem itok_list {a : Addr} {src : Src} (h : ∀ ph1 S1 H1, Ext0 ph S H ph1 S1 H1 → Sim K ph1 S1 H1 → srcOk src S1 → ∃ xs, SqL K H1 a xs ∧ RepL K ph1 S1 H1 src.ds xs)
    (inj : ∀ H1 xs ys, SqL K H1 a xs → SqL K H1 a ys → True := by intros; trivial) :
    ItOk K ph S H ⟨fun i H => ∃ xs x, SqL K H a xs ∧ xs[i]? = some x, fun i H x H' => H' = H ∧ ∀ xs, SqL K H a xs → xs[i]? = some x, fun i H => ∃ xs, SqL K H a xs ∧ xs.length ≤ i⟩ src where
  go := fun ph1 S1 H1 E s ok i d hd => by
    obtain ⟨xs, hq, r⟩ := h ph1 S1 H1 E s ok
    obtain ⟨x, hx, rx⟩ := r.get hd
    refine ⟨⟨xs, x, hq, hx⟩, fun y H2 ⟨e, k⟩ => ?_⟩
    subst e
    have := k xs hq
    rw [hx] at this; cases this
    exact ⟨Ext.refl, s, rx⟩
  stop := fun ph1 S1 H1 E s ok i hi => by
    obtain ⟨xs, hq, r⟩ := h ph1 S1 H1 E s ok
    exact ⟨xs, hq, by rw [r.len]; exact hi⟩
theorem itok_tup {a : Addr} {src : Src} (h : ∀ ph1 S1 H1, Ext0 ph S H ph1 S1 H1 → Sim K ph1 S1 H1 → srcOk src S1 → ∃ xs, SqT K H1 a xs ∧ RepL K ph1 S1 H1 src.ds xs) : ItOk K ph S H (Itt K a) src where
  go := fun ph1 S1 H1 E s ok i d hd => by
    obtain ⟨xs, hq, r⟩ := h ph1 S1 H1 E s ok
    obtain ⟨x, hx, rx⟩ := r.get hd
    refine ⟨⟨xs, x, hq, hx⟩, fun y H2 ⟨e, k⟩ => ?_⟩
    subst e
    have := k xs hq
    rw [hx] at this; cases this
    exact ⟨Ext.refl, s, rx⟩
  stop := fun ph1 S1 H1 E s ok i hi => by
    obtain ⟨xs, hq, r⟩ := h ph1 S1 H1 E s ok
    exact ⟨xs, hq, by rw [r.len]; exact hi⟩
/-- a list stands at a, whatever comes -/
theorem listAt {d : D} {src : Src} {v : V} (s : Sim K ph S H) (r : Rep K ph S H d v) (e : srcOf d S = some src) :
    ∃ a, v = .ref a ∧ ((∀ ph1 S1 H1, Ext0 ph S H ph1 S1 H1 → Sim K ph1 S1 H1 → srcOk src S1 → ∃ xs, SqL K H1 a xs ∧ RepL K ph1 S1 H1 src.ds xs) ∨
      (∀ ph1 S1 H1, Ext0 ph S H ph1 S1 H1 → Sim K ph1 S1 H1 → srcOk src S1 → ∃ xs, SqT K H1 a xs ∧ RepL K ph1 S1 H1 src.ds xs)) ∧ srcOk src S := by
  unfold srcOf at e
  split at e
  · cases e
    obtain ⟨a, xs, h1, h2, h3⟩ := r.tupE
    exact ⟨a, h1, .inr fun ph1 S1 H1 E _ _ => ⟨xs, (h2.ext0 E).sq, RepL.ext0 E _ _ h3⟩, srcOk_nil⟩
  · cases e
    obtain ⟨a, xs, h1, h2, h3⟩ := r.lstE
    exact ⟨a, h1, .inl fun ph1 S1 H1 E _ _ => ⟨xs, .inl (.inl (E.kp _ _ h2.1 h2.2).1), RepL.ext0 E _ _ h3⟩, srcOk_nil⟩
  · cases e
    obtain ⟨a, xs, h1, h2, h3⟩ := r.rolE
    exact ⟨a, h1, .inl fun ph1 S1 H1 E _ _ => ⟨xs, (h2.ext0 E).sq, RepL.ext0 E _ _ h3⟩, srcOk_nil⟩
  · rename_i n
    obtain ⟨hn, rfl⟩ := r.refE
    split at e
    · rename_i ds hd
      cases e
      refine ⟨ph.f n, rfl, .inl fun ph1 S1 H1 E s1 ok => ?_, srcOk_one.mpr hd⟩
      obtain ⟨xs, h1, h2⟩ := s1.ok n _ (srcOk_one.mp ok)
      rw [E.pe n hn] at h1
      exact ⟨xs, .inl (.inl h1), h2⟩
    · cases e
  · cases e
end
section
variable {X : Cx} {tg : Expr}
theorem i_seq {l : Expr} {m : EM D} (hl : PE X l (rdE X.K m)) : PI X tg l (rdI X.K (mISeq m)) := PI.weak (pi_seq hl) fun sg H R h => by
  obtain ⟨ph, S, rho, src, S', s, en, e, post⟩ := h
  obtain ⟨d, S1, e1, e2⟩ := bnd_inv e
  cases e3 : srcOf d S1 with
  | none => rw [e3] at e2; cases e2
  | some sr =>
    rw [e3] at e2; cases e2
    refine ⟨ph, S, rho, d, _, s, en, e1, fun ph1 H1 x E1 s1 r1 => ?_⟩
    obtain ⟨a, rfl, k, ok⟩ := listAt s1 r1 e3
    refine ⟨a, rfl, ?_⟩
    rcases k with k | k
    · obtain ⟨xs, hq, _⟩ := k ph1 _ H1 Ext.refl.toExt0 s1 ok
      exact .inl ⟨⟨xs, hq⟩, post ph1 H1 _ E1 s1 (itok_list k)⟩
    · obtain ⟨xs, hq, _⟩ := k ph1 _ H1 Ext.refl.toExt0 s1 ok
      exact .inr ⟨⟨xs, hq⟩, post ph1 H1 _ E1 s1 (itok_tup k)⟩

/-! ### range -/
def rngD (lo : Int) (n : Nat) : List D := (List.range n).map fun (i : Nat) => D.int (lo + i)
theorem itok_rng {K : PySem.W.Frag} {ph : Ph} {S : Sto} {H : Hp} {lo : Int} {n : Nat} : ItOk K ph S H (Itr lo n) ⟨rngD lo n, []⟩ where
  go := fun ph1 S1 H1 E s ok i d hd => by
    unfold rngD at hd
    rw [List.getElem?_map] at hd
    by_cases hi : i < n
    · rw [List.getElem?_range hi] at hd
      cases hd
      exact ⟨hi, fun x H2 ⟨e1, e2⟩ => by subst e1 e2; exact ⟨Ext.refl, s, by rw [Rep]⟩⟩
    · rw [List.getElem?_eq_none (by rw [List.length_range]; omega)] at hd; cases hd
  stop := fun ph1 S1 H1 E s ok i hi => by
    have : (rngD lo n).length = n := by unfold rngD; rw [List.length_map, List.length_range]
    have hi' : (rngD lo n).length ≤ i := hi
    show n ≤ i
    omega
def rngOk (j : Int) : Bool := decide (-(2 ^ 62) ≤ j) && decide (j < 2 ^ 62)
def rng1M (ds : List D) : Option Src := match ds with
  | [.int j] => if rngOk j then some ⟨rngD 0 j.toNat, []⟩ else none
  | _ => none
def rng2M (ds : List D) : Option Src := match ds with
  | [.int i, .int j] => if rngOk i && rngOk j then some ⟨rngD i (j - i).toNat, []⟩ else none
  | _ => none
def mIR (f : List D → Option Src) (m : EM (List D)) : EM Src := fun rho => bnd (m rho) fun ds S => (f ds).map fun s => (s, S)
theorem rngOk_iff {j : Int} (h : rngOk j = true) : -(2 ^ 62) ≤ j ∧ j < 2 ^ 62 := by
  unfold rngOk at h
  simpa using h
theorem i_rng1 {a : Expr} {m : EM (List D)} {p pos : Pos} (hm : X.mg "range" = none) (ha : PA X [a] (rdA X.K m)) (hg : Gl X "range" := by rfl) (hs : starEach [a] X.env = [(false, eval a X.env)] := by rfl) : PI X tg (.Call (.Name "range" p) [a] [] pos) (rdI X.K (mIR rng1M m)) :=
  PI.weak (pi_range1 hg hm ha hs) fun sg H R h => by
    obtain ⟨ph, S, rho, src, S', s, en, e, post⟩ := h
    obtain ⟨ds, S1, e1, e2⟩ := bnd_inv e
    refine ⟨ph, S, rho, ds, S1, s, en, e1, fun ph1 H1 xs E1 s1 r1 => ?_⟩
    unfold rng1M at e2
    split at e2
    · rename_i j
      obtain ⟨x, rfl, rx⟩ := RepL.one r1
      obtain rfl := rx.intE
      split at e2
      · rename_i hj
        obtain ⟨h1, h2⟩ := rngOk_iff hj
        cases e2
        exact ⟨j, rfl, h1, h2, post ph1 H1 _ E1 s1 itok_rng⟩
      · cases e2
    · cases e2
theorem i_rng2 {a b : Expr} {m : EM (List D)} {p pos : Pos} (hm : X.mg "range" = none) (ha : PA X [a, b] (rdA X.K m)) (hg : Gl X "range" := by rfl) (hs : starEach [a, b] X.env = [(false, eval a X.env), (false, eval b X.env)] := by rfl) (hs2 : starEach [b] X.env = [(false, eval b X.env)] := by rfl) :
    PI X tg (.Call (.Name "range" p) [a, b] [] pos) (rdI X.K (mIR rng2M m)) :=
  PI.weak (pi_range2 hg hm ha hs hs2) fun sg H R h => by
    obtain ⟨ph, S, rho, src, S', s, en, e, post⟩ := h
    obtain ⟨ds, S1, e1, e2⟩ := bnd_inv e
    refine ⟨ph, S, rho, ds, S1, s, en, e1, fun ph1 H1 xs E1 s1 r1 => ?_⟩
    unfold rng2M at e2
    split at e2
    · rename_i i j
      obtain ⟨x, y, rfl, rx, ry⟩ := RepL.two r1
      obtain rfl := rx.intE
      obtain rfl := ry.intE
      split at e2
      · rename_i hj
        rw [Bool.and_eq_true] at hj
        obtain ⟨h1, h2⟩ := rngOk_iff hj.1
        obtain ⟨h3, h4⟩ := rngOk_iff hj.2
        cases e2
        exact ⟨i, j, rfl, ⟨h1, h2, h3, h4⟩, post ph1 H1 _ E1 s1 itok_rng⟩
      · cases e2
    · cases e2

end

/-! ### targets -/
abbrev GM := D → Env → Option Env
def rdG (K : PySem.W.Frag) (vs : List Nat) (m : GM) : TG := fun v sg H Q => ∃ ph S rho d rho', Sim K ph S H ∧ REnv K ph S H rho sg ∧ Rep K ph S H d v ∧ m d rho = some rho' ∧
  ∀ sg', REnv K ph S H rho' sg' → wipe sg' vs = wipe sg vs → Q sg' H
abbrev GLM := List D → Env → Option Env
def rdGs (K : PySem.W.Frag) (vs : List Nat) (m : GLM) : TGs := fun xs sg H Q => ∃ ph S rho ds rho', Sim K ph S H ∧ REnv K ph S H rho sg ∧ RepL K ph S H ds xs ∧ m ds rho = some rho' ∧
  ∀ sg', REnv K ph S H rho' sg' → wipe sg' vs = wipe sg vs → Q sg' H
theorem PG.weak {X : Cx} {tg : Expr} {t t' : TG} (h : PG X tg t) (k : ∀ v sg H Q, t' v sg H Q → t v sg H Q) : PG X tg t' := ⟨fun pins s sg H v u Q I r q => h.run pins s sg H v u Q I r (k v sg H Q q)⟩
theorem PGs.weak {X : Cx} {tg : List Expr} {t t' : TGs} (h : PGs X tg t) (k : ∀ v sg H Q, t' v sg H Q → t v sg H Q) : PGs X tg t' := ⟨fun pins s sg H v u Q I r q => h.run pins s sg H v u Q I r (k v sg H Q q)⟩
theorem wipe_set {sg : L2.St} {i : Nat} {o : Option V} : ∀ {vs : List Nat}, i ∈ vs → wipe (sg.set i o) vs = wipe sg vs
  | [], h => by simp at h
  | v :: vs, h => by
    by_cases hv : i ∈ vs
    · show (wipe (sg.set i o) vs).set v none = (wipe sg vs).set v none
      rw [wipe_set hv]
    · have e : i = v := by
        rcases List.mem_cons.mp h with q | q
        · exact q
        · exact absurd q hv
      subst e
      have comm : ∀ vs : List Nat, i ∉ vs → wipe (sg.set i o) vs = (wipe sg vs).set i o := by
        intro vs
        induction vs with
        | nil => intro _; rfl
        | cons w ws ih =>
          intro hw
          show (wipe (sg.set i o) ws).set w none = ((wipe sg ws).set w none).set i o
          rw [ih (fun q => hw (List.mem_cons_of_mem _ q)), List.set_comm _ _ (fun q => hw (by rw [q]; exact List.mem_cons_self))]
      show (wipe (sg.set i o) vs).set i none = (wipe sg vs).set i none
      rw [comm vs hv, List.set_set]
section
variable {X : Cx} {pos : Pos} {vs : List Nat}
def gV (i : Nat) : GM := fun d rho => some (rho.set i (some d))
theorem g_v {i : Nat} {x : Str} (hN : X.N.Nodup) (hi : X.N[i]? = some x := by rfl) (hx : Loc X.env.scope x := by first | exact .inl rfl | exact .inr rfl) (hm : i ∈ vs := by decide) (hf : X.fn x = true ∨ X.env.scope.names.lookup x = some .local := by first | exact .inl rfl | exact .inr rfl | assumption) : PG X (.Name x pos) (rdG X.K vs (gV i)) :=
  PG.weak (pg_name hN hi hx hf) fun v sg H Q h => by
    obtain ⟨ph, S, rho, d, rho', s, en, r, e, post⟩ := h
    cases e
    exact post _ (en.set i r) (wipe_set hm)
def gsNil : GLM := fun ds rho => match ds with
  | [] => some rho
  | _ => none
def gsCons (g : GM) (gs : GLM) : GLM := fun ds rho => match ds with
  | d :: ds => (g d rho).bind fun rho1 => gs ds rho1
  | [] => none
theorem gs_nil : PGs X [] (rdGs X.K vs gsNil) := PGs.weak pgs_nil fun xs sg H Q h => by
  obtain ⟨ph, S, rho, ds, rho', s, en, r, e, post⟩ := h
  unfold gsNil at e
  split at e
  · cases e
    exact ⟨r.nil_inv, post sg en rfl⟩
  · cases e
theorem gs_cons {e : Expr} {es : List Expr} {g : GM} {gs : GLM} (h1 : PG X e (rdG X.K vs g)) (h2 : PGs X es (rdGs X.K vs gs))
    (hs : (assignEach (e :: es) X.env).map (·.2) = assign e X.env :: (assignEach es X.env).map (·.2) := by rfl) : PGs X (e :: es) (rdGs X.K vs (gsCons g gs)) := PGs.weak (pgs_cons h1 h2 hs) fun xs sg H Q h => by
  obtain ⟨ph, S, rho, ds, rho', s, en, r, e, post⟩ := h
  unfold gsCons at e
  split at e
  · rename_i d ds
    obtain ⟨x, xr, rfl, rx, rr⟩ := r.cons_inv
    cases e1 : g d rho with
    | none => rw [e1] at e; cases e
    | some rho1 =>
      rw [e1] at e
      exact ⟨x, xr, rfl, ph, S, rho, d, rho1, s, en, rx, e1, fun sg1 en1 w1 => ⟨ph, S, rho1, ds, rho', s, en1, rr, e, fun sg2 en2 w2 => post sg2 en2 (w2.trans w1)⟩⟩
  · cases e
def gT (n : Nat) (gs : GLM) : GM := fun d rho => match d with
  | .tup ds => if ds.length = n then gs ds rho else none
  | _ => none
theorem g_tup {es : List Expr} {k : Nat} {gs : GLM} {n : Nat} (h : PGs X es (rdGs X.K vs gs)) (hc : X.calm = true := by rfl)
    (hn : (assignEach es X.env).length = n := by rfl) (hst : (assignEach es X.env).findIdx? (·.1) = none := by rfl) : PG X (.Tuple es k pos) (rdG X.K vs (gT n gs)) := PG.weak (pg_tup hc h hn hst) fun v sg H Q h => by
  obtain ⟨ph, S, rho, d, rho', s, en, r, e, post⟩ := h
  unfold gT at e
  split at e
  · rename_i ds
    split at e
    · rename_i hl
      obtain ⟨a, xs, rfl, h1, h2⟩ := r.tupE
      exact ⟨a, xs, rfl, h1.sq, by rw [h2.len]; exact hl, ph, S, rho, ds, rho', s, en, h2, e, post⟩
    · cases e
  · cases e
end

/-! ### list comprehensions -/
open Classical in
noncomputable def lcGo (src : Src) (mg : GM) (mt : EM Bool) (me : EM D) (rho : Env) : List D → M (List D)
  | [], S => if srcOk src S then some ([], S) else none
  | d :: ds, S => if srcOk src S then (mg d rho).bind fun rho1 => bnd (mt rho1) (fun b => if b = true then bnd (me rho1) fun y => bnd (lcGo src mg mt me rho ds) fun r => ret (y :: r) else lcGo src mg mt me rho ds) S else none
/-- what a comprehension makes: a tree, or an object -/
noncomputable def mLc (mi : EM Src) (own : List Nat) (mg : GM) (mt : EM Bool) (me : EM D) : EM D := fun rho => bnd (mi rho) fun src => bnd (lcGo src mg mt me (wipeR rho own) src.ds) fun r S => if r.length ≤ lim then some (.lst r, S) else none
noncomputable def mLcN (mi : EM Src) (own : List Nat) (mg : GM) (mt : EM Bool) (me : EM D) : EM D := fun rho => bnd (mi rho) fun src => bnd (lcGo src mg mt me (wipeR rho own) src.ds) fun r S => if r.length ≤ lim then some (.ref S.nx, S.new (.lst r)) else none

section
variable {K : PySem.W.Frag}
/-- from the begin of a comprehension to one of its turns; Dd is its list -/
structure LcAt (K : PySem.W.Frag) (Dd : Addr) (ph0 : Ph) (S0 : Sto) (H0 : Hp) (ph : Ph) (S : Sto) (H : Hp) (xs : List V) : Prop where
  ex : Ext0 ph0 S0 H0 ph S H
  rs : ph.rs = Dd :: ph0.rs
  kp : ∀ q ∈ ph0.rs, H q = H0 q
  s : Sim K ph S H
  at_ : H Dd = some (.lst xs)
section
variable {Dd : Addr} {ph0 ph ph1 : Ph} {S0 S S1 : Sto} {H0 H H1 : Hp} {xs : List V}
theorem LcAt.start (s : Sim K ph0 S0 H0) (h : H0 Dd = none) : LcAt K Dd ph0 S0 H0 (ph0.res Dd) S0 (upd H0 Dd (.lst [])) [] :=
  ⟨Ext0.res h, rfl, fun q hq => upd_ne (s.rs_ne h hq), s.res h, upd_same⟩
theorem LcAt.ext (a : LcAt K Dd ph0 S0 H0 ph S H xs) (E : Ext ph S H ph1 S1 H1) (s : Sim K ph1 S1 H1) : LcAt K Dd ph0 S0 H0 ph1 S1 H1 xs :=
  ⟨a.ex.trans E.toExt0, E.rs.1.trans a.rs, fun q hq => (E.rs.2 q (by rw [a.rs]; exact List.mem_cons_of_mem _ hq)).trans (a.kp q hq), s, (E.rs.2 Dd (by rw [a.rs]; exact List.mem_cons_self)).trans a.at_⟩
theorem LcAt.mem (a : LcAt K Dd ph0 S0 H0 ph S H xs) : Dd ∈ ph.rs := by rw [a.rs]; exact List.mem_cons_self
theorem LcAt.put (a : LcAt K Dd ph0 S0 H0 ph S H xs) (s0 : Sim K ph0 S0 H0) (h0 : H0 Dd = none) (ys : List V) : LcAt K Dd ph0 S0 H0 ph S (upd H Dd (.lst ys)) ys :=
  ⟨a.ex.trans (Ext0.wr a.mem), a.rs, fun q hq => by rw [upd_ne (s0.rs_ne h0 hq)]; exact a.kp q hq, a.s.wr a.mem, upd_same⟩
theorem LcAt.fin (a : LcAt K Dd ph0 S0 H0 ph S H xs) : Ext ph0 S0 H0 (ph.free ph0.rs) S H ∧ Sim K (ph.free ph0.rs) S H :=
  ⟨⟨a.ex.trans (Ext0.free a.rs), rfl, a.kp⟩, a.s.free a.rs⟩
theorem LcAt.not_own (a : LcAt K Dd ph0 S0 H0 ph S H xs) (s0 : Sim K ph0 S0 H0) (h0 : H0 Dd = none) : ¬ Own (ph.free ph0.rs) S Dd := by
  rintro (q | ⟨n, h1, h2⟩)
  · exact s0.rs_ne h0 q rfl
  · exact (a.s.rsv Dd a.mem).2 n h1 h2
/-- a tree that stands at Dd becomes an object: nothing else stands there -/
theorem LcAt.finN (a : LcAt K Dd ph0 S0 H0 ph S H xs) (s0 : Sim K ph0 S0 H0) (h0 : H0 Dd = none) {ds : List D} (r : RepL K ph S H ds xs) :
    ∃ ph', Ext ph0 S0 H0 ph' (S.new (.lst ds)) H ∧ Sim K ph' (S.new (.lst ds)) H ∧ ph'.f S.nx = Dd := by
  have mp : ∀ b, Own ph S b ∨ b = Dd → Own ph S b := fun b h => h.elim id fun h => .inl (by rw [h]; exact a.mem)
  have E1 : Ext0 ph S H (phN (ph.free ph0.rs) S Dd) (S.new (.lst ds)) H :=
    ⟨Nat.le_succ _, fun n hn => phN_old (S := S) (ph := ph.free ph0.rs) (Nat.ne_of_lt hn), fun b v e n => ⟨e, by
      rintro (q | ⟨m, h1, h2⟩)
      · exact n (.inl (by rw [a.rs]; exact List.mem_cons_of_mem _ q))
      · rw [Sto.new_ob] at h1
        by_cases hm : m = S.nx
        · subst hm
          rw [phN_new] at h2
          exact n (.inl (by rw [← h2]; exact a.mem))
        · rw [if_neg hm] at h1
          rw [phN_old hm] at h2
          exact n (.inr ⟨m, h1, h2⟩)⟩⟩
  refine ⟨phN (ph.free ph0.rs) S Dd, ⟨a.ex.trans E1, rfl, a.kp⟩, ⟨fun n v e => ?_, fun m n h1 h2 e => ?_, fun n v e => ?_, fun q hq => ⟨(a.s.rsv q (by rw [a.rs]; exact List.mem_cons_of_mem _ hq)).1, fun n hn => ?_⟩⟩, phN_new⟩
  · rw [Sto.new_ob] at e
    by_cases hn : n = S.nx
    · rw [hn]; exact Nat.lt_succ_self _
    · rw [if_neg hn] at e; exact Nat.lt_succ_of_lt (a.s.lt n v e)
  · rw [Sto.new_ob] at h1 h2
    by_cases hm : m = S.nx <;> by_cases hn : n = S.nx
    · rw [hm, hn]
    · exfalso
      rw [hm, phN_new, phN_old hn] at e
      rw [if_neg hn] at h2
      exact (a.s.rsv Dd a.mem).2 n h2 e.symm
    · exfalso
      rw [hn, phN_new, phN_old hm] at e
      rw [if_neg hm] at h1
      exact (a.s.rsv Dd a.mem).2 m h1 e
    · rw [phN_old hm, phN_old hn] at e
      rw [if_neg hm] at h1
      rw [if_neg hn] at h2
      exact a.s.inj m n h1 h2 e
  · rw [Sto.new_ob] at e
    by_cases hn : n = S.nx
    · rw [if_pos hn] at e; cases e
      rw [hn, phN_new]
      exact ⟨xs, a.at_, RepL.ext0 E1 _ _ r⟩
    · rw [if_neg hn] at e
      rw [phN_old hn]
      exact (a.s.ok n v e).ext0 E1 rfl
  · rw [Sto.new_ob] at hn
    by_cases hm : n = S.nx
    · rw [hm, phN_new]; exact (s0.rs_ne h0 hq).symm
    · rw [if_neg hm] at hn
      rw [phN_old hm]; exact (a.s.rsv q (by rw [a.rs]; exact List.mem_cons_of_mem _ hq)).2 n hn
end
/-- the loop of a comprehension over any iterator -/
theorem lc_run {J : It} {src : Src} {mg : GM} {mt : EM Bool} {me : EM D} {g : TG} {tt : TT} {te : TE} {own : List Nat} {ph0 : Ph} {S0 S' : Sto} {H0 : Hp} {rho : Env} {sg : L2.St} {r : List D} {Dd : Addr} {Qd : Hp → Prop}
    (gw : ∀ v sg H Q, rdG K own mg v sg H Q → g v sg H Q) (tw : ∀ sg H Q, rdT K mt sg H Q → tt sg H Q) (ew : ∀ sg H Q, rdE K me sg H Q → te sg H Q)
    (s0 : Sim K ph0 S0 H0) (en0 : REnv K ph0 S0 H0 rho sg) (ok : ItOk K ph0 S0 H0 J src) (h0 : H0 Dd = none)
    (e : lcGo src mg mt me (wipeR rho own) src.ds S0 = some (r, S')) (hl : r.length ≤ lim)
    (fin : ∀ ph H xs, LcAt K Dd ph0 S0 H0 ph S' H xs → RepL K ph S' H r xs → Qd H) :
    ∃ W : Nat → Nat → Hp → Prop, (∃ m, W 0 m (upd H0 Dd (.lst []))) ∧ ∀ i m H, W i m H →
      (J.stop i H ∧ Qd H) ∨ (J.go i H ∧ ∃ Nx : Hp → Prop, (∀ H', Nx H' → ∃ m', m' < m ∧ W (i + 1) m' H') ∧ ∀ x H', J.yld i H x H' → g x (wipe sg own) H' fun sg2 H2 => wipe sg2 own = wipe sg own ∧ tt sg2 H2 fun b H3 =>
        if b = true then te sg2 H3 fun y H4 => ∃ acc, H4 Dd = some (.lst acc) ∧ acc.length < sizeLine ∧ Nx (upd H4 Dd (.lst (acc ++ [y]))) else Nx H3) := by
  let R : Nat → Hp → Prop := fun i H => ∃ ph S xs ds r', LcAt K Dd ph0 S0 H0 ph S H xs ∧ RepL K ph S H ds xs ∧ lcGo src mg mt me (wipeR rho own) (src.ds.drop i) S = some (r', S') ∧ r = ds ++ r'
  refine ⟨fun i m H => m = src.ds.length - i ∧ R i H, ⟨src.ds.length, rfl, ph0.res Dd, S0, [], [], r, .start s0 h0, .nil, e, rfl⟩, ?_⟩
  rintro i m H ⟨rfl, ph, S, xs, ds, r', a, rr, eg, rfl⟩
  by_cases hi : i < src.ds.length
  · have hd : src.ds[i]? = some src.ds[i] := List.getElem?_eq_getElem hi
    generalize hdd : src.ds[i] = d at hd
    rw [List.drop_eq_getElem_cons hi, hdd] at eg
    unfold lcGo at eg
    split at eg
    · rename_i hok
      obtain ⟨hgo, hy⟩ := ok.go ph S H a.ex a.s hok i d hd
      refine .inr ⟨hgo, R (i + 1), fun H' q => ⟨src.ds.length - (i + 1), by omega, rfl, q⟩, fun x H' y => gw _ _ _ _ ?_⟩
      obtain ⟨E1, s1, rx⟩ := hy x H' y
      cases eG : mg d (wipeR rho own) with
      | none => rw [eG] at eg; cases eg
      | some rho1 =>
        rw [eG, Option.bind_some] at eg
        obtain ⟨b, S2, eT, eg⟩ := bnd_inv eg
        have a1 := a.ext E1 s1
        refine ⟨ph, S, _, d, rho1, s1, (en0.wipe own).ext0 a1.ex, rx, eG, fun sg2 en2 w2 => ⟨?_, tw _ _ _ ⟨ph, S, rho1, b, S2, s1, en2, eT, fun ph3 H3 E3 s3 => ?_⟩⟩⟩
        · rw [w2]
          have idem : ∀ vs : List Nat, wipe (wipe sg own) vs = wipe (wipe sg own) vs := fun _ => rfl
          have sub : ∀ vs : List Nat, (∀ v ∈ vs, v ∈ own) → wipe (wipe sg own) vs = wipe sg own := by
            intro vs
            induction vs with
            | nil => intro _; rfl
            | cons v vs ih =>
              intro hv
              show (wipe (wipe sg own) vs).set v none = _
              rw [ih fun u hu => hv u (List.mem_cons_of_mem _ hu)]
              have hm := hv v List.mem_cons_self
              have key : ∀ ws : List Nat, v ∈ ws → (wipe sg ws).set v none = wipe sg ws := by
                intro ws
                induction ws with
                | nil => intro h; simp at h
                | cons w ws ih2 =>
                  intro h
                  show ((wipe sg ws).set w none).set v none = (wipe sg ws).set w none
                  by_cases hw : v = w
                  · rw [hw, List.set_set]
                  · rw [List.set_comm _ _ (Ne.symm hw), ih2 ((List.mem_cons.mp h).resolve_left hw)]
              exact key own hm
          exact sub own fun _ h => h
        · have a3 := a1.ext E3 s3
          cases b with
          | false =>
            rw [if_neg Bool.false_ne_true] at eg
            show R (i + 1) H3
            exact ⟨ph3, S2, xs, ds, r', a3, (rr.ext E1).ext E3, eg, rfl⟩
          | true =>
            rw [if_pos rfl] at eg
            show te sg2 H3 _
            obtain ⟨y, S4, eE, eg⟩ := bnd_inv eg
            obtain ⟨r2, S5, eR, eg⟩ := bnd_inv eg
            cases eg
            refine ew _ _ _ ⟨ph3, S2, rho1, y, S4, s3, en2.ext E3, eE, fun ph4 H4 v E4 s4 r4 => ?_⟩
            have a4 := a3.ext E4 s4
            have r5 : RepL K ph4 S4 H4 ds xs := ((rr.ext E1).ext E3).ext E4
            refine ⟨xs, a4.at_, ?_, ph4, S4, xs ++ [v], ds ++ [y], r2, a4.put s0 h0 _, ?_, eR, by simp⟩
            · rw [r5.len]
              have hl' : (ds ++ y :: r2).length ≤ sizeLine := hl
              rw [List.length_append, List.length_cons] at hl'
              omega
            · exact RepL.ext0 (Ext0.wr a4.mem) _ _ (r5.app (.cons r4 .nil))
    · cases eg
  · rw [List.drop_eq_nil_of_le (by omega)] at eg
    unfold lcGo at eg
    split at eg
    · rename_i hok
      obtain ⟨rfl, rfl⟩ : [] = r' ∧ S = S' := by simpa using eg
      refine .inl ⟨ok.stop _ _ H a.ex a.s hok i (by omega), fin ph H xs a (by rw [List.append_nil]; exact rr)⟩
    · cases eg
end

/-! ### comprehensions as expressions -/
section
variable {X : Cx}
/-- what a comprehension's block asks -/
theorem tLc_tree {wi : TI} {g : TG} {tt : TT} {te : TE} {own : List Nat} {mi : EM Src} {mg : GM} {mt : EM Bool} {me : EM D} {K : PySem.W.Frag} (iw : ∀ sg H R, rdI K mi sg H R → wi sg H R)
    (gw : ∀ v sg H Q, rdG K own mg v sg H Q → g v sg H Q) (tw : ∀ sg H Q, rdT K mt sg H Q → tt sg H Q) (ew : ∀ sg H Q, rdE K me sg H Q → te sg H Q) (sg : L2.St) (H : Hp) (Q : VK) (h : rdE K (mLc mi own mg mt me) sg H Q) : tLc wi g tt te own sg H Q := by
  obtain ⟨ph, S, rho, d, S', s, en, e, post⟩ := h
  obtain ⟨src, S1, e1, e⟩ := bnd_inv e
  obtain ⟨r, S2, e2, e⟩ := bnd_inv e
  split at e
  · rename_i hl
    cases e
    refine iw _ _ _ ⟨ph, S, rho, src, S1, s, en, e1, fun ph1 H1 J E1 s1 ok Dd hD => lc_run gw tw ew s1 (en.ext E1) ok hD e2 hl fun ph2 H2 xs a rr => ?_⟩
    obtain ⟨E2, s2⟩ := a.fin
    refine post _ _ _ (E1.trans E2) s2 ?_
    rw [Rep]
    exact ⟨Dd, xs, rfl, ⟨a.at_, a.not_own s1 hD⟩, RepL.ext0 (Ext0.free a.rs) _ _ rr⟩
  · cases e
theorem tLc_obj {wi : TI} {g : TG} {tt : TT} {te : TE} {own : List Nat} {mi : EM Src} {mg : GM} {mt : EM Bool} {me : EM D} {K : PySem.W.Frag} (iw : ∀ sg H R, rdI K mi sg H R → wi sg H R)
    (gw : ∀ v sg H Q, rdG K own mg v sg H Q → g v sg H Q) (tw : ∀ sg H Q, rdT K mt sg H Q → tt sg H Q) (ew : ∀ sg H Q, rdE K me sg H Q → te sg H Q) (sg : L2.St) (H : Hp) (Q : VK) (h : rdE K (mLcN mi own mg mt me) sg H Q) : tLc wi g tt te own sg H Q := by
  obtain ⟨ph, S, rho, d, S', s, en, e, post⟩ := h
  obtain ⟨src, S1, e1, e⟩ := bnd_inv e
  obtain ⟨r, S2, e2, e⟩ := bnd_inv e
  split at e
  · rename_i hl
    cases e
    refine iw _ _ _ ⟨ph, S, rho, src, S1, s, en, e1, fun ph1 H1 J E1 s1 ok Dd hD => lc_run gw tw ew s1 (en.ext E1) ok hD e2 hl fun ph2 H2 xs a rr => ?_⟩
    obtain ⟨ph3, E2, s2, hn⟩ := a.finN s1 hD rr
    refine post _ _ _ (E1.trans E2) s2 ?_
    rw [Rep]
    exact ⟨Nat.lt_succ_self _, by rw [hn]⟩
  · cases e
def mYes : EM Bool := fun _ => ret true
theorem tYes_w {K : PySem.W.Frag} (sg : L2.St) (H : Hp) (Q : Bool → Hp → Prop) (h : rdT K mYes sg H Q) : tYes sg H Q := by
  obtain ⟨ph, S, rho, b, S', s, en, e, post⟩ := h
  cases e
  exact post ph H Ext.refl s
theorem PTs.weak {e : List Expr} {t t' : TT} (h : PTs X e t) (k : ∀ sg H Q, t' sg H Q → t sg H Q) : PTs X e t' := ⟨fun pins s sg H Q I q => h.run pins s sg H Q I (k sg H Q q)⟩
theorem ts_nil : PTs X [] (rdT X.K mYes) := PTs.weak pts_nil tYes_w
theorem ts_one {c : Expr} {m : EM Bool} (h : PT X c (rdT X.K m)) : PTs X [c] (rdT X.K m) := pts_one h
theorem e_lc {elt tg iter : Expr} {ifs : List Expr} {scope : Scope} {own : List (Str × Nat)} {pos : Pos} {mi : EM Src} {mg : GM} {mt : EM Bool} {me : EM D} (hc : X.calm = true) (hN : X.N.Nodup) (ok : BlkOk X.N X.env.scope scope own) (hi : PI X tg iter (rdI X.K mi))
    (hg : ∀ (s : Shared) (H : Hp) (C : Addr) (cl : List (Str × Addr)) (fp : List Addr), PG (X.blk s H scope (compEnvC scope cl C X.env) fp) tg (rdG X.K (own.map (·.2)) mg))
    (ht : ∀ (s : Shared) (H : Hp) (C : Addr) (cl : List (Str × Addr)) (fp : List Addr), PTs (X.blk s H scope (compEnvC scope cl C X.env) fp) ifs (rdT X.K mt))
    (he : ∀ (s : Shared) (H : Hp) (C : Addr) (cl : List (Str × Addr)) (fp : List Addr), PE (X.blk s H scope (compEnvC scope cl C X.env) fp) elt (rdE X.K me)) (hs : ∀ x, foldedSetIterable iter X.env x = pure x := by intro _; rfl) :
    PE X (.ListComp elt [⟨tg, iter, ifs, 0⟩] scope pos) (rdE X.K (mLc mi (own.map (·.2)) mg mt me)) :=
  PE.weak (pe_lc hc hN hi ok hg ht he hs) (tLc_tree (fun _ _ _ h => h) (fun _ _ _ _ h => h) (fun _ _ _ h => h) fun _ _ _ h => h)
theorem e_lcN {elt tg iter : Expr} {ifs : List Expr} {scope : Scope} {own : List (Str × Nat)} {pos : Pos} {mi : EM Src} {mg : GM} {mt : EM Bool} {me : EM D} (hc : X.calm = true) (hN : X.N.Nodup) (ok : BlkOk X.N X.env.scope scope own) (hi : PI X tg iter (rdI X.K mi))
    (hg : ∀ (s : Shared) (H : Hp) (C : Addr) (cl : List (Str × Addr)) (fp : List Addr), PG (X.blk s H scope (compEnvC scope cl C X.env) fp) tg (rdG X.K (own.map (·.2)) mg))
    (ht : ∀ (s : Shared) (H : Hp) (C : Addr) (cl : List (Str × Addr)) (fp : List Addr), PTs (X.blk s H scope (compEnvC scope cl C X.env) fp) ifs (rdT X.K mt))
    (he : ∀ (s : Shared) (H : Hp) (C : Addr) (cl : List (Str × Addr)) (fp : List Addr), PE (X.blk s H scope (compEnvC scope cl C X.env) fp) elt (rdE X.K me)) (hs : ∀ x, foldedSetIterable iter X.env x = pure x := by intro _; rfl) :
    PE X (.ListComp elt [⟨tg, iter, ifs, 0⟩] scope pos) (rdE X.K (mLcN mi (own.map (·.2)) mg mt me)) :=
  PE.weak (pe_lc hc hN hi ok hg ht he hs) (tLc_obj (fun _ _ _ h => h) (fun _ _ _ _ h => h) (fun _ _ _ h => h) fun _ _ _ h => h)
end
end Mn

set_option maxRecDepth 100000
set_option maxHeartbeats 1000000
/-! Mn: statements. -/
namespace Mn
open PySem PySem.Spec PyProof.Rows L2

inductive Fl where
  | nx | bk | ct | rt (d : D)
abbrev SM := Env → M (Fl × Env)
def PostS (K : PySem.W.Frag) (ph : Ph) (S : Sto) (H : Hp) (N : Ends) (fl : Fl) (rho : Env) (S' : Sto) : Prop := match fl with
  | .nx => ∀ ph' H' sg', Ext ph S H ph' S' H' → Sim K ph' S' H' → REnv K ph' S' H' rho sg' → N.nx sg' H'
  | .bk => ∀ ph' H' sg', Ext ph S H ph' S' H' → Sim K ph' S' H' → REnv K ph' S' H' rho sg' → N.bk sg' H'
  | .ct => ∀ ph' H' sg', Ext ph S H ph' S' H' → Sim K ph' S' H' → REnv K ph' S' H' rho sg' → N.ct sg' H'
  | .rt d => ∀ ph' H' v, Ext ph S H ph' S' H' → Sim K ph' S' H' → Rep K ph' S' H' d v → N.rt v H'
def rdS (K : PySem.W.Frag) (m : SM) : TS := fun N sg H => ∃ ph S rho fl rho' S', Sim K ph S H ∧ REnv K ph S H rho sg ∧ m rho S = some ((fl, rho'), S') ∧ PostS K ph S H N fl rho' S'
theorem PostS.of {K : PySem.W.Frag} {ph ph1 : Ph} {S S1 S' : Sto} {H H1 : Hp} {N : Ends} {fl : Fl} {rho : Env} (p : PostS K ph S H N fl rho S') (E : Ext ph S H ph1 S1 H1) : PostS K ph1 S1 H1 N fl rho S' := by
  cases fl with
  | nx => exact fun a b c e => p a b c (E.trans e)
  | bk => exact fun a b c e => p a b c (E.trans e)
  | ct => exact fun a b c e => p a b c (E.trans e)
  | rt d => exact fun a b c e => p a b c (E.trans e)
section
variable {X : Cx}
theorem PS.weak {st : Stmt} {t t' : TS} (h : PS X st t) (k : ∀ N sg H, t' N sg H → t N sg H) : PS X st t' := ⟨fun pins s sg H N I q => h.run pins s sg H N I (k N sg H q)⟩
theorem PSs.weak {st : List Stmt} {t t' : TS} (h : PSs X st t) (k : ∀ N sg H, t' N sg H → t N sg H) : PSs X st t' := ⟨fun pins s sg H N I q => h.run pins s sg H N I (k N sg H q)⟩

/-! ### blocks -/
def mNx : SM := fun rho => ret (.nx, rho)
def mSeq (a b : SM) : SM := fun rho => bnd (a rho) fun p => match p.1 with
  | .nx => b p.2
  | _ => ret p
theorem seq_w {K : PySem.W.Frag} {a b : SM} (N : Ends) (sg : L2.St) (H : Hp) (h : rdS K (mSeq a b) N sg H) : tSeq (rdS K a) (rdS K b) N sg H := by
  obtain ⟨ph, S, rho, fl, rho', S', s, en, e, post⟩ := h
  obtain ⟨⟨f1, r1⟩, S1, e1, e2⟩ := bnd_inv e
  refine ⟨ph, S, rho, f1, r1, S1, s, en, e1, ?_⟩
  cases f1 with
  | nx => exact fun ph1 H1 sg1 E1 s1 en1 => ⟨ph1, S1, r1, fl, rho', S', s1, en1, e2, post.of E1⟩
  | bk => cases e2; exact post
  | ct => cases e2; exact post
  | rt d => cases e2; exact post
theorem s_nil : PSs X [] (rdS X.K mNx) := PSs.weak pss_nil fun N sg H h => by
  obtain ⟨ph, S, rho, fl, rho', S', s, en, e, post⟩ := h
  cases e
  exact post ph H sg Ext.refl s en
theorem s_cons {st : Stmt} {rest : List Stmt} {a b : SM} (h1 : PS X st (rdS X.K a)) (h2 : PSs X rest (rdS X.K b)) : PSs X (st :: rest) (rdS X.K (mSeq a b)) := PSs.weak (pss_cons h1 h2) seq_w
theorem s_one {st : Stmt} {a : SM} (h1 : PS X st (rdS X.K a)) : PSs X [st] (rdS X.K a) := pss_one h1
variable {pos : Pos}
theorem s_pass : PS X (.Pass pos) (rdS X.K mNx) := PS.weak ps_pass fun N sg H h => by
  obtain ⟨ph, S, rho, fl, rho', S', s, en, e, post⟩ := h
  cases e
  exact post ph H sg Ext.refl s en
theorem s_doc {x j pos pos'} : PS X (.Expr (.Constant (.str x) j pos) pos') (rdS X.K mNx) := PS.weak ps_doc fun N sg H h => by
  obtain ⟨ph, S, rho, fl, rho', S', s, en, e, post⟩ := h
  cases e
  exact post ph H sg Ext.refl s en
def mBk : SM := fun rho => ret (.bk, rho)
def mCt : SM := fun rho => ret (.ct, rho)
theorem s_break : PS X (.Break pos) (rdS X.K mBk) := PS.weak ps_break fun N sg H h => by
  obtain ⟨ph, S, rho, fl, rho', S', s, en, e, post⟩ := h
  cases e
  exact post ph H sg Ext.refl s en
theorem s_cont : PS X (.Continue pos) (rdS X.K mCt) := PS.weak ps_continue fun N sg H h => by
  obtain ⟨ph, S, rho, fl, rho', S', s, en, e, post⟩ := h
  cases e
  exact post ph H sg Ext.refl s en
def mRet (me : EM D) : SM := fun rho => bnd (me rho) fun d => ret (.rt d, rho)
theorem s_ret {e : Expr} {me : EM D} (he : PE X e (rdE X.K me)) : PS X (.Return (some e) pos) (rdS X.K (mRet me)) := PS.weak (ps_ret he) fun N sg H h => by
  obtain ⟨ph, S, rho, fl, rho', S', s, en, e, post⟩ := h
  obtain ⟨d, S1, e1, e2⟩ := bnd_inv e
  cases e2
  exact ⟨ph, S, rho, d, _, s, en, e1, fun ph1 H1 v E1 s1 r1 => post ph1 H1 v E1 s1 r1⟩
def mRetN : SM := fun rho => ret (.rt .non, rho)
theorem s_retN : PS X (.Return none pos) (rdS X.K mRetN) := PS.weak ps_retN fun N sg H h => by
  obtain ⟨ph, S, rho, fl, rho', S', s, en, e, post⟩ := h
  cases e
  exact post ph H .non Ext.refl s (by rw [Rep])
def mDrop (me : EM D) : SM := fun rho => bnd (me rho) fun _ => ret (.nx, rho)
theorem s_expr {e : Expr} {me : EM D} (he : PE X e (rdE X.K me)) (hs : swapsWith e none pos.line X.env = pure false := by rfl) : PS X (.Expr e pos) (rdS X.K (mDrop me)) := PS.weak (ps_expr he hs) fun N sg H h => by
  obtain ⟨ph, S, rho, fl, rho', S', s, en, e, post⟩ := h
  obtain ⟨d, S1, e1, e2⟩ := bnd_inv e
  cases e2
  exact ⟨ph, S, rho, d, _, s, en, e1, fun ph1 H1 v E1 s1 r1 => post ph1 H1 sg E1 s1 (en.ext E1)⟩
def mIfS (c : EM Bool) (a b : SM) : SM := fun rho => bnd (c rho) fun t => if t = true then a rho else b rho
theorem s_if {c : Expr} {a b : List Stmt} {mc : EM Bool} {ma mb : SM} (hc : PT X c (rdT X.K mc)) (ha : PSs X a (rdS X.K ma)) (hb : PSs X b (rdS X.K mb)) : PS X (.If c a b pos) (rdS X.K (mIfS mc ma mb)) := PS.weak (ps_if hc ha hb) fun N sg H h => by
  obtain ⟨ph, S, rho, fl, rho', S', s, en, e, post⟩ := h
  obtain ⟨t, S1, e1, e2⟩ := bnd_inv e
  refine ⟨ph, S, rho, t, S1, s, en, e1, fun ph1 H1 E1 s1 => ?_⟩
  cases t with
  | true => exact ⟨ph1, S1, rho, fl, rho', S', s1, en.ext E1, e2, post.of E1⟩
  | false => exact ⟨ph1, S1, rho, fl, rho', S', s1, en.ext E1, e2, post.of E1⟩

/-! ### assignments -/
def mSet (i : Nat) (me : EM D) : SM := fun rho => bnd (me rho) fun d => ret (.nx, rho.set i (some d))
theorem set_w {K : PySem.W.Frag} {i : Nat} {me : EM D} {te : TE} (ew : ∀ sg H Q, rdE K me sg H Q → te sg H Q) (N : Ends) (sg : L2.St) (H : Hp) (h : rdS K (mSet i me) N sg H) : tAsg te (gName i) N sg H := by
  obtain ⟨ph, S, rho, fl, rho', S', s, en, e, post⟩ := h
  obtain ⟨d, S1, e1, e2⟩ := bnd_inv e
  cases e2
  exact ew _ _ _ ⟨ph, S, rho, d, _, s, en, e1, fun ph1 H1 v E1 s1 r1 => post ph1 H1 _ E1 s1 ((en.ext E1).set i r1)⟩
theorem s_set {i : Nat} {x : Str} {e : Expr} {me : EM D} {pos' : Pos} (hN : X.N.Nodup) (he : PE X e (rdE X.K me)) (hi : X.N[i]? = some x := by rfl) (hx : Loc X.env.scope x := by first | exact .inl rfl | exact .inr rfl) (hs : swapsWith e (some (.Name x pos')) pos.line X.env = pure false := by rfl) (hf : X.fn x = true ∨ X.env.scope.names.lookup x = some .local := by first | exact .inl rfl | exact .inr rfl | assumption) :
    PS X (.Assign [.Name x pos'] e pos) (rdS X.K (mSet i me)) := PS.weak (ps_set hN hi hx he hs hf) (set_w fun _ _ _ h => h)
/-- name = [..] on one line -/
theorem s_setLc {i : Nat} {y : Str} {py : Pos} {elt tg iter : Expr} {ifs : List Expr} {scope : Scope} {own : List (Str × Nat)} {pos spos : Pos} {mi : EM Src} {mg : GM} {mt : EM Bool} {me : EM D} (hc : X.calm = true) (hN : X.N.Nodup) (ok : BlkOk X.N X.env.scope scope own) (hi : PI X tg iter (rdI X.K mi))
    (hg : ∀ (s : Shared) (H : Hp) (C : Addr) (cl : List (Str × Addr)) (fp : List Addr), PG (X.blk s H scope (compEnvC scope cl C X.env) fp) tg (rdG X.K (own.map (·.2)) mg))
    (ht : ∀ (s : Shared) (H : Hp) (C : Addr) (cl : List (Str × Addr)) (fp : List Addr), PTs (X.blk s H scope (compEnvC scope cl C X.env) fp) ifs (rdT X.K mt))
    (he : ∀ (s : Shared) (H : Hp) (C : Addr) (cl : List (Str × Addr)) (fp : List Addr), PE (X.blk s H scope (compEnvC scope cl C X.env) fp) elt (rdE X.K me))
    (hsw : swapsWith (.ListComp elt [⟨tg, iter, ifs, 0⟩] scope pos) (some (.Name y py)) spos.line X.env = pure true) (hy : X.N[i]? = some y := by rfl) (hyl : X.env.scope.names.lookup y = some .local := by rfl) (hs : ∀ x, foldedSetIterable iter X.env x = pure x := by intro _; rfl) :
    PS X (.Assign [.Name y py] (.ListComp elt [⟨tg, iter, ifs, 0⟩] scope pos) spos) (rdS X.K (mSet i (mLc mi (own.map (·.2)) mg mt me))) :=
  PS.weak (ps_setLc hc hN hy hyl hsw hi ok hg ht he hs) (set_w (tLc_tree (fun _ _ _ h => h) (fun _ _ _ _ h => h) (fun _ _ _ h => h) fun _ _ _ h => h))
theorem s_setLcN {i : Nat} {y : Str} {py : Pos} {elt tg iter : Expr} {ifs : List Expr} {scope : Scope} {own : List (Str × Nat)} {pos spos : Pos} {mi : EM Src} {mg : GM} {mt : EM Bool} {me : EM D} (hc : X.calm = true) (hN : X.N.Nodup) (ok : BlkOk X.N X.env.scope scope own) (hi : PI X tg iter (rdI X.K mi))
    (hg : ∀ (s : Shared) (H : Hp) (C : Addr) (cl : List (Str × Addr)) (fp : List Addr), PG (X.blk s H scope (compEnvC scope cl C X.env) fp) tg (rdG X.K (own.map (·.2)) mg))
    (ht : ∀ (s : Shared) (H : Hp) (C : Addr) (cl : List (Str × Addr)) (fp : List Addr), PTs (X.blk s H scope (compEnvC scope cl C X.env) fp) ifs (rdT X.K mt))
    (he : ∀ (s : Shared) (H : Hp) (C : Addr) (cl : List (Str × Addr)) (fp : List Addr), PE (X.blk s H scope (compEnvC scope cl C X.env) fp) elt (rdE X.K me))
    (hsw : swapsWith (.ListComp elt [⟨tg, iter, ifs, 0⟩] scope pos) (some (.Name y py)) spos.line X.env = pure true) (hy : X.N[i]? = some y := by rfl) (hyl : X.env.scope.names.lookup y = some .local := by rfl) (hs : ∀ x, foldedSetIterable iter X.env x = pure x := by intro _; rfl) :
    PS X (.Assign [.Name y py] (.ListComp elt [⟨tg, iter, ifs, 0⟩] scope pos) spos) (rdS X.K (mSet i (mLcN mi (own.map (·.2)) mg mt me))) :=
  PS.weak (ps_setLc hc hN hy hyl hsw hi ok hg ht he hs) (set_w (tLc_obj (fun _ _ _ h => h) (fun _ _ _ _ h => h) (fun _ _ _ h => h) fun _ _ _ h => h))
/-- a target of names = a value -/
def mAsg (me : EM D) (mg : GM) : SM := fun rho => bnd (me rho) fun d S => (mg d rho).map fun rho' => ((.nx, rho'), S)
theorem s_asg {vs : List Nat} {tg e : Expr} {me : EM D} {mg : GM} (he : PE X e (rdE X.K me)) (hg : PG X tg (rdG X.K vs mg)) (hs : swapsWithSole [tg] e pos.line X.env = pure false := by rfl) (hw : swappedStores [tg] e X.env = pure none := by rfl)
    (h1 : (assignEach [tg] X.env).map (·.2) = [assign tg X.env] := by rfl) : PS X (.Assign [tg] e pos) (rdS X.K (mAsg me mg)) := PS.weak (ps_asg he hg hs hw h1) fun N sg H h => by
  obtain ⟨ph, S, rho, fl, rho', S', s, en, e, post⟩ := h
  obtain ⟨d, S1, e1, e2⟩ := bnd_inv e
  cases e3 : mg d rho with
  | none => rw [e3] at e2; cases e2
  | some r =>
    rw [e3] at e2; cases e2
    exact ⟨ph, S, rho, d, _, s, en, e1, fun ph1 H1 v E1 s1 r1 => ⟨ph1, _, rho, d, rho', s1, en.ext E1, r1, e3, fun sg' en' _ => post ph1 H1 sg' E1 s1 en'⟩⟩
/-- a, b = x, y -/
def parF (i j : Nat) (rho : Env) (ds : List D) : M (Fl × Env) := fun S => match ds with
  | [c, d] => some ((.nx, (rho.set i (some c)).set j (some d)), S)
  | _ => none
def mPar (i j : Nat) (ma : EM (List D)) : SM := fun rho => bnd (ma rho) (parF i j rho)
theorem s_par {i j : Nat} {x y : Str} {a b : Expr} {ma : EM (List D)} {px py pt : Pos} {kt k2 pt2} (hN : X.N.Nodup) (ha : PA X [a, b] (rdA X.K ma)) (hw : swappedStores [.Tuple [.Name x px, .Name y py] kt pt] (.Tuple [a, b] k2 pt2) X.env = pure (some [x, y]))
    (hc : X.calm = true := by rfl) (hi : X.N[i]? = some x := by rfl) (hj : X.N[j]? = some y := by rfl) (hij : i ≠ j := by decide) (hx : X.env.scope.names.lookup x = some .local := by rfl) (hy : X.env.scope.names.lookup y = some .local := by rfl)
    (hs : swapsWithSole [.Tuple [.Name x px, .Name y py] kt pt] (.Tuple [a, b] k2 pt2) pos.line X.env = pure false := by rfl) :
    PS X (.Assign [.Tuple [.Name x px, .Name y py] kt pt] (.Tuple [a, b] k2 pt2) pos) (rdS X.K (mPar i j ma)) := PS.weak (ps_par hc hN hi hj hij hx hy ha hw hs) fun N sg H h => by
  obtain ⟨ph, S, rho, fl, rho', S', s, en, e, post⟩ := h
  obtain ⟨ds, S1, e1, e2⟩ := bnd_inv e
  unfold parF at e2
  split at e2
  · rename_i c d
    cases e2
    refine ⟨ph, S, rho, _, _, s, en, e1, fun ph1 H1 vs E1 s1 r1 => ?_⟩
    obtain ⟨v, w, rfl, rv, rw'⟩ := RepL.two r1
    exact ⟨v, w, rfl, post ph1 H1 _ E1 s1 (((en.ext E1).set i rv).set j rw')⟩
  · cases e2

/-! ### augmented assignments -/
def IpM (K : PySem.W.Frag) (r : TIp) (f : D → D → M D) : Prop := OpM K r f
def intF (f : Int → Int → Int) : D → D → M D := fun a b S => match a, b with
  | .int i, .int j => some (.int (f i j), S)
  | _, _ => none
theorem ip_int {K : PySem.W.Frag} {f : Int → Int → Int} : OpM K (ipI f) (intF f) := by
  intro ph S H x y dx dy d S' Q s rx ry e post
  unfold intF at e
  split at e
  · cases e
    obtain rfl := rx.intE
    obtain rfl := ry.intE
    exact ⟨_, _, rfl, rfl, post.now s (by rw [Rep])⟩
  · cases e
def mAug (i : Nat) (me : EM D) (f : D → D → M D) : SM := fun rho => match rho[i]? with
  | some (some a) => bnd (me rho) fun b => bnd (f a b) fun c => ret (.nx, rho.set i (some c))
  | _ => fail
theorem s_aug {i : Nat} {x : Str} {e : Expr} {me : EM D} {op : Operator} {ti : TIp} {f : D → D → M D} {pos' : Pos} (hN : X.N.Nodup) (ho : PIp X op ti) (hf' : OpM X.K ti f) (he : PE X e (rdE X.K me)) (hi : X.N[i]? = some x := by rfl) (hx : Loc X.env.scope x := by first | exact .inl rfl | exact .inr rfl) (hf : X.fn x = true ∨ X.env.scope.names.lookup x = some .local := by first | exact .inl rfl | exact .inr rfl | assumption) :
    PS X (.AugAssign (.Name x pos') op e pos) (rdS X.K (mAug i me f)) := PS.weak (ps_aug hN hi hx he ho hf) fun N sg H h => by
  obtain ⟨ph, S, rho, fl, rho', S', s, en, e, post⟩ := h
  unfold mAug at e
  rcases ha : rho[i]? with _ | (_ | a)
  · rw [ha] at e; cases e
  · rw [ha] at e; cases e
  · rw [ha] at e
    obtain ⟨b, S1, e1, e2⟩ := bnd_inv e
    obtain ⟨c, S2, e2, e3⟩ := bnd_inv e2
    cases e3
    obtain ⟨x, hx1, rx⟩ := en.2 i a ha
    exact ⟨x, hx1, ph, S, rho, b, S1, s, en, e1, fun ph1 H1 y E1 s1 r1 => hf' ph1 S1 H1 x y a b c _ _ s1 (rx.ext E1) r1 e2 fun ph2 H2 v E2 s2 r2 => post ph2 H2 _ (E1.trans E2) s2 (((en.ext E1).ext E2).set i r2)⟩
/-- o[i] op= e, of a list that may be changed -/
def putM (a i c : D) : M Unit := fun S => match a, i with
  | .ref n, .int k => match S.ob n with
    | some (.lst ds) => match ixN ds.length k with
      | some j => some ((), S.set n (.lst (ds.set j c)))
      | none => none
    | _ => none
  | _, _ => none
def getM (a i : D) : M D := fun S => match a, i with
  | .ref n, .int k => match S.ob n with
    | some (.lst ds) => match ixN ds.length k with
      | some j => (ds[j]?).map fun d => (d, S)
      | none => none
    | _ => none
  | _, _ => none
def rGetL : V → V → Hp → VK → Prop := fun o i H Q => ∃ p xs k j x, o = .ref p ∧ i = .int k ∧ H p = some (.lst xs) ∧ ixN xs.length k = some j ∧ xs[j]? = some x ∧ Q x H
theorem set_ref {K : PySem.W.Frag} {ph : Ph} {S S' : Sto} {H : Hp} {o i v : V} {da di dv : D} {Q : Hp → Prop} {u : Unit} (s : Sim K ph S H) (ra : Rep K ph S H da o) (ri : Rep K ph S H di i) (rv : Rep K ph S H dv v) (e : putM da di dv S = some (u, S'))
    (post : ∀ H', Ext ph S H ph S' H' → Sim K ph S' H' → Q H') : rSetL o i v H Q := by
  unfold putM at e
  split at e
  · rename_i n k
    split at e
    · rename_i ds hd
      split at e
      · rename_i j hj
        cases e
        obtain ⟨hn, rfl⟩ := ra.refE
        obtain rfl := ri.intE
        obtain ⟨xs, h1, h2⟩ := s.ok n _ hd
        have hs : (S.ob n).isSome = true := by rw [hd]; rfl
        have E : Ext ph S H ph (S.set n (.lst (ds.set j dv))) (upd H (ph.f n) (.lst (xs.set j v))) := Ext.setO s hs
        exact ⟨ph.f n, xs, k, j, rfl, rfl, h1, by rw [h2.len]; exact hj, post _ E (s.setO hs ⟨_, upd_same, (h2.ext E).set j (rv.ext E)⟩)⟩
      · cases e
    · cases e
  · cases e
theorem get_ref {K : PySem.W.Frag} {ph : Ph} {S S' : Sto} {H : Hp} {o i : V} {da di d : D} {Q : VK} (s : Sim K ph S H) (ra : Rep K ph S H da o) (ri : Rep K ph S H di i) (e : getM da di S = some (d, S'))
    (post : ∀ v, S' = S → Rep K ph S H d v → Q v H) : rGetL o i H Q := by
  unfold getM at e
  split at e
  · rename_i n k
    split at e
    · rename_i ds hd
      split at e
      · rename_i j hj
        cases hx : ds[j]? with
        | none => rw [hx] at e; cases e
        | some c =>
          rw [hx] at e; cases e
          obtain ⟨hn, rfl⟩ := ra.refE
          obtain rfl := ri.intE
          obtain ⟨xs, h1, h2⟩ := s.ok n _ hd
          obtain ⟨x, h3, h4⟩ := h2.get hx
          exact ⟨ph.f n, xs, k, j, x, rfl, rfl, h1, by rw [h2.len]; exact hj, h3, post x rfl h4⟩
      · cases e
    · cases e
  · cases e
theorem get_listG : PGet X rGetL := by
  intro pins s sg H o i ov iv Q I ro ri h
  obtain ⟨p, xs, k, j, x, rfl, rfl, hp, hj, hx, q⟩ := h
  cases ro
  obtain ⟨t, rfl⟩ := ri
  obtain ⟨its, r, pl, hz⟩ := I.list (.inl (.inl hp))
  obtain ⟨h1, h2, h3, h4⟩ := ixN_seq hj
  obtain ⟨w, ew, rw'⟩ := r.get hx
  have hl := r.length
  have hn := line63
  have fin : EP X pins sg Q w s := ⟨x, H, I, rw', q⟩
  by_cases h0 : 0 ≤ k
  · have hk : k.toNat = j := by
      rw [seqIndex_of h0 h4] at h1
      exact Option.some.inj h1
    exact wpAny_getItem_list pl.isList h0 (by omega) (by rw [hk]; simpa using ew) fin
  · have hk : (k + (its.toArray.size : Int)).toNat = j := by
      rw [seqIndex_neg (by omega) h3] at h1
      rw [List.size_toArray, ← hl]
      exact Option.some.inj h1
    exact wpAny_getItem_list_neg pl.isList (by omega) (by rw [List.size_toArray] <;> omega) (by omega) (by rw [hk]; simpa using ew) fin
/-- o[i] = v -/
def mPut (mo mi mv : EM D) : SM := fun rho => bnd (mv rho) fun v => bnd (mo rho) fun o => bnd (mi rho) fun i => bnd (putM o i v) fun _ => ret (.nx, rho)
theorem s_put {o i e : Expr} {mo mi mv : EM D} {spos : Pos} (he : PE X e (rdE X.K mv)) (ho : PE X o (rdE X.K mo)) (hi : PE X i (rdE X.K mi))
    (ha : ∀ v, assign (.Subscript o i pos) X.env v = (do
      let ov ← holding [v] (eval o X.env)
      let iv ← holding [v, ov] (eval i X.env)
      standAt pos
      holding [v, ov, iv] (setItem ov iv v)
      release [v, ov, iv] []) := by intro _; rfl)
    (hs : swapsWithSole [.Subscript o i pos] e spos.line X.env = pure false := by rfl) (hw : swappedStores [.Subscript o i pos] e X.env = pure none := by rfl)
    (h1 : (assignEach [.Subscript o i pos] X.env).map (·.2) = [assign (.Subscript o i pos) X.env] := by rfl) :
    PS X (.Assign [.Subscript o i pos] e spos) (rdS X.K (mPut mo mi mv)) := PS.weak (ps_asg he (pg_sub ho hi set_list ha) hs hw h1) fun N sg H h => by
  obtain ⟨ph, S, rho, fl, rho', S', s, en, e, post⟩ := h
  obtain ⟨dv, S1, e1, q2⟩ := bnd_inv e
  obtain ⟨da, S2, e2, q3⟩ := bnd_inv q2
  obtain ⟨di, S3, e3, q4⟩ := bnd_inv q3
  obtain ⟨u, S4, e4, q5⟩ := bnd_inv q4
  cases q5
  exact ⟨ph, S, rho, dv, S1, s, en, e1, fun ph1 H1 v E1 s1 r1 => ⟨ph1, S1, rho, da, S2, s1, en.ext E1, e2, fun ph2 H2 o E2 s2 r2 => ⟨ph2, S2, rho, di, S3, s2, (en.ext E1).ext E2, e3, fun ph3 H3 i E3 s3 r3 =>
    set_ref s3 (r2.ext E3) r3 ((r1.ext E2).ext E3) e4 fun H4 E4 s4 => post ph3 H4 sg (((E1.trans E2).trans E3).trans E4) s4 ((((en.ext E1).ext E2).ext E3).ext E4)⟩⟩⟩
/-- o[i] op= e -/
def mAugS (mo mi me : EM D) (f : D → D → M D) : SM := fun rho => bnd (mo rho) fun o => bnd (mi rho) fun i => bnd (getM o i) fun x => bnd (me rho) fun y => bnd (f x y) fun z => bnd (putM o i z) fun _ => ret (.nx, rho)
theorem s_augS {o i e : Expr} {mo mi me : EM D} {op : Operator} {ti : TIp} {f : D → D → M D} {tpos : Pos} (hp : PIp X op ti) (hf : OpM X.K ti f) (ho : PE X o (rdE X.K mo)) (hi : PE X i (rdE X.K mi)) (he : PE X e (rdE X.K me))
    (ha : ∀ ov iv new, augStore i ov iv new = (do holding [new, ov, iv] (setItem ov iv new); release [new, ov, iv] []; pure .next) := by intros; rfl) : PS X (.AugAssign (.Subscript o i tpos) op e pos) (rdS X.K (mAugS mo mi me f)) :=
  PS.weak (ps_augS ho hi get_listG he hp set_list ha) fun N sg H h => by
  obtain ⟨ph, S, rho, fl, rho', S', s, en, e, post⟩ := h
  obtain ⟨da, S2, e2, q3⟩ := bnd_inv e
  obtain ⟨di, S3, e3, q4⟩ := bnd_inv q3
  obtain ⟨dx, S4, e4, q5⟩ := bnd_inv q4
  obtain ⟨dy, S5, e5, q6⟩ := bnd_inv q5
  obtain ⟨dz, S6, e6, q7⟩ := bnd_inv q6
  obtain ⟨u, S7, e7, q8⟩ := bnd_inv q7
  cases q8
  refine ⟨ph, S, rho, da, S2, s, en, e2, fun ph2 H2 o E2 s2 r2 => ⟨ph2, S2, rho, di, S3, s2, en.ext E2, e3, fun ph3 H3 i E3 s3 r3 => get_ref s3 (r2.ext E3) r3 e4 fun x hS rx => ?_⟩⟩
  subst hS
  refine ⟨ph3, _, rho, dy, S5, s3, (en.ext E2).ext E3, e5, fun ph5 H5 y E5 s5 r5 => hf ph5 S5 H5 x y dx dy dz _ _ s5 (rx.ext E5) r5 e6 fun ph6 H6 z E6 s6 r6 => ?_⟩
  exact set_ref s6 (((r2.ext E3).ext E5).ext E6) ((r3.ext E5).ext E6) r6 e7 fun H7 E7 s7 => post ph6 H7 sg ((((E2.trans E3).trans E5).trans E6).trans E7) s7 (((((en.ext E2).ext E3).ext E5).ext E6).ext E7)

/-! ### for -/
open Classical in
noncomputable def loopGo (src : Src) (mg : GM) (mb : SM) : List D → Env → M (Fl × Env)
  | [], rho, S => if srcOk src S then some ((.nx, rho), S) else none
  | d :: ds, rho, S => if srcOk src S then (mg d rho).bind fun rho1 => bnd (mb rho1) (fun p => match p.1 with
    | .nx => loopGo src mg mb ds p.2
    | .ct => loopGo src mg mb ds p.2
    | .bk => ret (.nx, p.2)
    | .rt r => ret (.rt r, p.2)) S else none
noncomputable def mFor (mi : EM Src) (mg : GM) (mb : SM) : SM := fun rho => bnd (mi rho) fun src => loopGo src mg mb src.ds rho
theorem s_for {vs : List Nat} {tg iter : Expr} {body : List Stmt} {mi : EM Src} {mg : GM} {mb : SM} (hp : PassesOwn (model X.prog X.w) X.A X.env X.xe) (hi : PI X tg iter (rdI X.K mi)) (hg : PG X tg (rdG X.K vs mg)) (hb : PSs X body (rdS X.K mb)) (hc : X.calm = true := by rfl)
    (hs : ∀ x, foldedSetIterable iter X.env x = pure x := by intro _; rfl) : PS X (.For tg iter body [] pos) (rdS X.K (mFor mi mg mb)) := PS.weak (ps_for hp hc hi hg hb hs) fun N sg H h => by
  obtain ⟨ph, S, rho, fl, rho', S', s, en, e, post⟩ := h
  obtain ⟨src, S1, e1, e2⟩ := bnd_inv e
  refine ⟨ph, S, rho, src, S1, s, en, e1, fun ph1 H1 J E1 s1 ok => ?_⟩
  let W : Nat → L2.St → Hp → Prop := fun i sg H => ∃ ph2 S2 rho2, Ext ph1 S1 H1 ph2 S2 H ∧ Sim X.K ph2 S2 H ∧ REnv X.K ph2 S2 H rho2 sg ∧ loopGo src mg mb (src.ds.drop i) rho2 S2 = some ((fl, rho'), S')
  refine ⟨fun i m sg H => m = src.ds.length - i ∧ W i sg H, ⟨_, rfl, ph1, S1, rho, Ext.refl, s1, en.ext E1, e2⟩, ?_⟩
  rintro i m sg2 H2 ⟨rfl, ph2, S2, rho2, E2, s2, en2, eg⟩
  by_cases hlt : i < src.ds.length
  · have hd : src.ds[i]? = some src.ds[i] := List.getElem?_eq_getElem hlt
    generalize hdd : src.ds[i] = d at hd
    rw [List.drop_eq_getElem_cons hlt, hdd] at eg
    unfold loopGo at eg
    split at eg
    · rename_i hok
      obtain ⟨hgo, hy⟩ := ok.go ph2 S2 H2 E2.toExt0 s2 hok i d hd
      refine .inr ⟨hgo, W (i + 1), fun sg' H' w => ⟨_, by omega, rfl, w⟩, fun x H3 y => ?_⟩
      obtain ⟨E3, s3, rx⟩ := hy x H3 y
      cases eG : mg d rho2 with
      | none => rw [eG] at eg; cases eg
      | some rho3 =>
        rw [eG, Option.bind_some] at eg
        obtain ⟨⟨f4, rho4⟩, S4, e4, eg⟩ := bnd_inv eg
        refine ⟨ph2, S2, rho2, d, rho3, s3, en2.ext E3, rx, eG, fun sg3 en3 _ => ⟨ph2, S2, rho3, f4, rho4, S4, s3, en3, e4, ?_⟩⟩
        cases f4 with
        | nx => exact fun ph4 H4 sg4 E4 s4 en4 => ⟨ph4, S4, rho4, (E2.trans E3).trans E4, s4, en4, eg⟩
        | ct => exact fun ph4 H4 sg4 E4 s4 en4 => ⟨ph4, S4, rho4, (E2.trans E3).trans E4, s4, en4, eg⟩
        | bk =>
          cases eg
          exact fun ph4 H4 sg4 E4 s4 en4 => post ph4 H4 sg4 (((E1.trans E2).trans E3).trans E4) s4 en4
        | rt r =>
          cases eg
          exact fun ph4 H4 v E4 s4 r4 => post ph4 H4 v (((E1.trans E2).trans E3).trans E4) s4 r4
    · cases eg
  · rw [List.drop_eq_nil_of_le (by omega)] at eg
    unfold loopGo at eg
    split at eg
    · rename_i hok
      cases eg
      exact .inl ⟨ok.stop _ _ H2 E2.toExt0 s2 hok i (by omega), post ph2 H2 sg2 (E1.trans E2) s2 en2⟩
    · cases eg

/-! ### while -/
def whileN (c : EM Bool) (b : SM) : Nat → Env → M (Fl × Env)
  | 0, _, _ => none
  | n + 1, rho, S => bnd (c rho) (fun t => if t = true then bnd (b rho) fun p => match p.1 with
    | .nx => whileN c b n p.2
    | .ct => whileN c b n p.2
    | .bk => ret (.nx, p.2)
    | .rt r => ret (.rt r, p.2) else ret (.nx, rho)) S
open Classical in
noncomputable def mWhile (c : EM Bool) (b : SM) : SM := fun rho S => if h : ∃ n r, whileN c b n rho S = some r then some (Classical.choose (Classical.choose_spec h)) else none
theorem s_while {c : Expr} {body : List Stmt} {mc : EM Bool} {mb : SM} (hp : PassesOwn (model X.prog X.w) X.A X.env X.xe) (hc : PT X c (rdT X.K mc)) (hb : PSs X body (rdS X.K mb)) : PS X (.While c body [] pos) (rdS X.K (mWhile mc mb)) := PS.weak (ps_while hp hc hb) fun N sg H h => by
  obtain ⟨ph, S, rho, fl, rho', S', s, en, e, post⟩ := h
  unfold mWhile at e
  split at e
  · rename_i hex
    have hn := Classical.choose_spec (Classical.choose_spec hex)
    have e' : Classical.choose (Classical.choose_spec hex) = ((fl, rho'), S') := Option.some.inj e
    rw [e'] at hn
    refine ⟨fun m sg H => ∃ ph2 S2 rho2, Ext ph S _ ph2 S2 H ∧ Sim X.K ph2 S2 H ∧ REnv X.K ph2 S2 H rho2 sg ∧ whileN mc mb m rho2 S2 = some ((fl, rho'), S'), ⟨_, ph, S, rho, Ext.refl, s, en, hn⟩, ?_⟩
    rintro m sg2 H2 ⟨ph2, S2, rho2, E2, s2, en2, eg⟩
    cases m with
    | zero => cases eg
    | succ m =>
      unfold whileN at eg
      obtain ⟨t, S3, e3, eg⟩ := bnd_inv eg
      refine ⟨ph2, S2, rho2, t, S3, s2, en2, e3, fun ph3 H3 E3 s3 => ?_⟩
      cases t with
      | false =>
        cases eg
        exact post ph3 H3 sg2 (E2.trans E3) s3 (en2.ext E3)
      | true =>
        rw [if_pos rfl] at eg
        obtain ⟨⟨f4, rho4⟩, S4, e4, eg⟩ := bnd_inv eg
        refine ⟨fun sg H => ∃ ph2 S2 rho2, Ext ph S _ ph2 S2 H ∧ Sim X.K ph2 S2 H ∧ REnv X.K ph2 S2 H rho2 sg ∧ whileN mc mb m rho2 S2 = some ((fl, rho'), S'), fun sg' H' w => ⟨m, by omega, w⟩, ph3, S3, rho2, f4, rho4, S4, s3, en2.ext E3, e4, ?_⟩
        cases f4 with
        | nx => exact fun ph4 H4 sg4 E4 s4 en4 => ⟨ph4, S4, rho4, (E2.trans E3).trans E4, s4, en4, eg⟩
        | ct => exact fun ph4 H4 sg4 E4 s4 en4 => ⟨ph4, S4, rho4, (E2.trans E3).trans E4, s4, en4, eg⟩
        | bk =>
          cases eg
          exact fun ph4 H4 sg4 E4 s4 en4 => post ph4 H4 sg4 ((E2.trans E3).trans E4) s4 en4
        | rt r =>
          cases eg
          exact fun ph4 H4 v E4 s4 r4 => post ph4 H4 v ((E2.trans E3).trans E4) s4 r4
  · cases e
end
end Mn

set_option maxRecDepth 100000
set_option maxHeartbeats 1000000
/-! Mn: defs. -/
namespace Mn
open PySem PySem.Spec PyProof.Rows L2

/-- a def's promise, told by a plain function of its arguments; no representation of a value is going on around it -/
def spM (K : PySem.W.Frag) (n : Nat) (f : List D → M D) : Sp := fun vs H Q _ => vs.length = n ∧ ∃ ph S ds d S', Sim K ph S H ∧ RepL K ph S H ds vs ∧ f ds S = some (d, S') ∧ PostE K ph S H Q d S'
structure FnG (P : Program) (w : World) (K : PySem.W.Frag) (mg : Str → Option Value) (base : Heap) (k : Nat) (f : Addr) (fd : FuncData) (ps : List Str) (m : List D → M D) : Prop where
  run : ∀ (A : Around) (outer : List PySem.Env) (s : Shared) (H : Hp) (args : Args) (us : List Value) (vs : List V) (Q : VK), Room k A → A.guards = some [] → Env0 P w K mg base A outer s H → BindsTo s fd args (ps.zip us) → Vals vs us → spM K ps.length m vs H Q E0 →
    codeAny (model P w) A (.call (.ref f) args) (CR CX0 outer P w H s Q E0) s
theorem FnG.mono {P : Program} {w : World} {K : PySem.W.Frag} {mg : Str → Option Value} {base : Heap} {j k : Nat} {f : Addr} {fd : FuncData} {ps : List Str} {m : List D → M D} (F : FnG P w K mg base j f fd ps m) (h : j ≤ k) : FnG P w K mg base k f fd ps m :=
  ⟨fun A outer s H args us vs Q hr => F.run A outer s H args us vs Q (hr.mono h)⟩

def startR (n : Nat) (ds : List D) : Mn.Env := ds.map some ++ List.replicate (n - ds.length) none
theorem REnv.start {K : PySem.W.Frag} {ph : Ph} {S : Sto} {H : Hp} {ds : List D} {vs : List V} (N : List Str) (r : RepL K ph S H ds vs) : REnv K ph S H (startR N.length ds) (L2.start N vs) := by
  have hl := r.len
  unfold startR L2.start
  refine ⟨by simp [hl], fun i d h => ?_⟩
  by_cases hi : i < ds.length
  · rw [List.getElem?_append_left (by simpa using hi), List.getElem?_map] at h
    cases e : ds[i]? with
    | none => rw [e] at h; cases h
    | some c =>
      rw [e] at h
      obtain rfl : c = d := by simpa using h
      obtain ⟨x, h1, h2⟩ := r.get e
      exact ⟨x, by rw [List.getElem?_append_left (by simp [hl, hi]), List.getElem?_map, h1]; rfl, h2⟩
  · rw [List.getElem?_append_right (by simpa using hi), List.getElem?_replicate] at h
    split at h <;> cases h
/-- a def by its body -/
def mDef (n : Nat) (m : SM) : List D → M D := fun ds => bnd (m (startR n ds)) fun p => match p.1 with
  | .rt d => ret d
  | .nx => ret .non
  | _ => fail
section
variable {P : Program} {w : World} {K : PySem.W.Frag} {mg : Str → Option Value} {base : Heap} {k : Nat} {f : Addr} {fd : FuncData} {ps N : List Str}
theorem body_w {m : SM} {ds : List D} {d : D} {vs : List V} {ph : Ph} {S S' : Sto} {H : Hp} {Q : VK} (s : Sim K ph S H) (r : RepL K ph S H ds vs) (e : mDef N.length m ds S = some (d, S')) (post : PostE K ph S H Q d S') :
    rdS K m { nx := fun _ H' => Q .non H', rt := Q } (L2.start N vs) H := by
  obtain ⟨⟨fl, rho⟩, S1, e1, e2⟩ := bnd_inv e
  refine ⟨ph, S, _, fl, rho, S1, s, REnv.start N r, e1, ?_⟩
  cases fl with
  | rt c => cases e2; exact fun ph1 H1 v E1 s1 r1 => post ph1 H1 v E1 s1 r1
  | nx => cases e2; exact fun ph1 H1 sg E1 s1 _ => post ph1 H1 .non E1 s1 (by rw [Rep])
  | bk => cases e2
  | ct => cases e2
theorem fnG_of {x qual : Str} {st : Stmt} (m : SM) (F : Fun K x qual st f fd) (Sc : FnScope N ps (defScope st))
    (hbody : ∀ (cdv : Value) (A : Around) (outer : List PySem.Env) (s : Shared) (H : Hp) (E : XK), Room k (A.deeper (envOfC qual (defScope st) s.heap.objs.size f cdv)) → A.guards = some [] →
      PSs (cxOf CX0 P w K mg base N qual (defScope st) f cdv A outer s H E).nox (defBody st) (rdS K m)) : FnG P w K mg base (k + 1) f fd ps (mDef N.length m) := by
  obtain ⟨oc, od, kV, doc, pm, an, cdv, ct, osl, rfl, lk, hcd⟩ := F.ex
  refine ⟨fun A outer s H args us vs Q hr hg e0 hb r hsp => ?_⟩
  obtain ⟨hl, ph, S, ds, d, S', sim, rl, e, post⟩ := hsp
  have KX : K.In s.heap := e0.mod.kin.keeps fun b o z => (e0.bs b o z).1
  have lims : s.heap.NoLimit := e0.mod.nolimit.keeps fun b o z => (e0.bs b o z).1
  refine codeAny_call_function hr.depth (KX _ _ lk) rfl Sc.co Sc.gen rfl (PySem.W.codeRec_of KX hcd) (hb _ _ _ _ ?_)
  refine wpAny_newFunctionEnv_cells Sc.kind (fun ⟨n, v⟩ hy => (Sc.par n (List.of_mem_zip hy).1).imp id fun q => ⟨q, PySem.W.cellsFrom_some _ _ _ (.inl q)⟩) fun env he s1 x => ?_
  subst he
  refine ⟨lims.keeps x.toInCall.keep, codeAny_func ?_⟩
  have I : Inv (cxOf CX0 P w K mg base N qual (defScope st) f cdv A outer s H E0) [] (L2.start N vs) H s1 := inv_start Sc hr.hd e0 hl r x
  refine wpAny_mono ((hbody cdv A outer s H E0 (hr.deeper _) hg).nox.run [] s1 (L2.start N vs) H _ I (body_w sim rl e post)) (fun fl s' hs => ?_) fun _ _ z => z
  cases fl with
  | ret u =>
    obtain ⟨v, _, H', J, rv, q⟩ := hs
    exact ⟨v, H', J.os, J.bare, J.base, J.hok, rv, q⟩
  | next =>
    obtain ⟨_, H', J, q⟩ := hs
    exact ⟨.non, H', J.os, J.bare, J.base, J.hok, rfl, q⟩
  | brk =>
    obtain ⟨_, _, _, q⟩ := hs
    exact False.elim q
  | cont =>
    obtain ⟨_, _, _, q⟩ := hs
    exact False.elim q
end

/-! ### calls -/
section
variable {X : Cx} {k : Nat} {f : Addr} {fd : FuncData} {ps : List Str}
def mFn (n : Nat) (g : List D → M D) (ma : EM (List D)) : EM D := fun rho => bnd (ma rho) fun ds => if ds.length = n then g ds else fail
theorem runG {m : List D → M D} {pins : List (Addr × Obj)} {sg : L2.St} {H : Hp} {s : Shared} {Q : VK} {us : List Value} {vs : List V} (F : FnG X.prog X.w X.K X.mg X.base k f fd ps m) (hr : Room k X.A) (hg : X.A.guards = some []) (hb : Binds X.K fd ps []) (I : Inv X pins sg H s) (r : Vals vs us)
    (h : spM X.K ps.length m vs H Q E0) : wpAny (model X.prog X.w) X.A (call (.ref f) us) (EP X pins sg Q) X.xe s := by
  have hl : (us ++ []).length = ps.length := by rw [List.append_nil, ← r.length]; exact h.1
  have hb' := hb s us I.kIn hl
  rw [List.append_nil] at hb'
  refine wpAny_call (codeAny_mono (F.run X.A X.stack s H ⟨us, []⟩ us vs Q hr hg I.env0 hb' r h) fun q s' hq => ?_)
  cases q with
  | error e => exact False.elim hq
  | ok fl =>
    cases fl with
    | ret u => exact I.after hq
    | next => exact False.elim hq
    | brk => exact False.elim hq
    | cont => exact False.elim hq
theorem call_w {K : PySem.W.Frag} {n : Nat} {g : List D → M D} {ma : EM (List D)} {sg : L2.St} {H : Hp} {Q : VK} (h : rdE K (mFn n g ma) sg H Q) : tCB (fun vs H Q => spM K n g vs H Q E0) (rdA K ma) sg H Q := by
  obtain ⟨ph, S, rho, d, S', s, en, e, post⟩ := h
  obtain ⟨ds, S1, e1, e2⟩ := bnd_inv e
  split at e2
  · rename_i hl
    exact ⟨ph, S, rho, ds, S1, s, en, e1, fun ph1 H1 vs E1 s1 r1 => ⟨by rw [r1.len]; exact hl, ph1, S1, ds, d, S', s1, r1, e2, post.of E1⟩⟩
  · cases e2
theorem e_call {x : Str} {p pos : Pos} {e : Expr} {es : List Expr} {m : List D → M D} {ma : EM (List D)} (F : FnG X.prog X.w X.K X.mg X.base k f fd ps m) (hr : Room k X.A) (hG : X.A.guards = some []) (hm : X.mg x = some (.ref f)) (hk : PySem.W.keepIn X.K (.ref f) = true) (hb : Binds X.K fd ps [])
    (ha : PA X (e :: es) (rdA X.K ma)) (hg : Gl X x := by rfl) (hdb : (x == ("__debug__" : Str)) = false := by decide) (he : starEach (e :: es) X.env = (false, eval e X.env) :: starEach es X.env := by rfl) (hpl : (backTo pos (starEach es X.env)).any (·.1) = false := by rfl) :
    PE X (.Call (.Name x p) (e :: es) [] pos) (rdE X.K (mFn ps.length m ma)) := by
  refine ⟨fun pins s sg H Q I h => ?_⟩
  refine wpAny_Call_Name_kw (ld_glob I hg hm ?_ hdb)
  refine PySem.W.callWith_K (h₀ := X.base) I.ok.mod.kin hk (thn (ha.run pos pins s sg H _ I (call_w h)) fun us s1 ⟨vs, H1, I1, r, q⟩ => ⟨I1.kIn, ?_⟩) he hpl
  exact runG F hr hG hb I1 r q

/-! ### methods of lists that may be changed -/
theorem ref_ty {K : PySem.W.Frag} {ph : Ph} {S : Sto} {H : Hp} {n : Nat} {ds : List D} {v : V} (s : Sim K ph S H) (r : Rep K ph S H (.ref n) v) (h : S.ob n = some (.lst ds)) : tyV K "list" v H := by
  obtain ⟨_, rfl⟩ := r.refE
  obtain ⟨xs, h1, _⟩ := s.ok n _ h
  exact .inl ⟨rfl, xs, .inl (.inl h1)⟩
def mMet (mo : EM D) (ma : EM (List D)) (f : D → List D → M D) : EM D := fun rho => bnd (mo rho) fun o S => match o with
  | .ref n => match S.ob n with
    | some (.lst _) => bnd (ma rho) (fun ds => f o ds) S
    | _ => none
  | _ => none
theorem e_met {o e : Expr} {es : List Expr} {name : Str} {apos cpos : Pos} {id : String} {r : V → List V → Hp → VK → Prop} {f : D → List D → M D} {mo : EM D} {ma : EM (List D)} (hm : MtR X id r)
    (hf : ∀ ph S H x xs dx dxs d S' (Q : VK), Sim X.K ph S H → Rep X.K ph S H dx x → RepL X.K ph S H dxs xs → f dx dxs S = some (d, S') → PostE X.K ph S H Q d S' → r x xs H Q) (slot : Slot "list" name id) (ho : PE X o (rdE X.K mo)) (ha : PA X (e :: es) (rdA X.K ma))
    (hty : typeOf (.builtin id) = pure (.type "method_descriptor") := by first | exact PySem.F.type_list_append | exact PySem.F.type_list_insert | exact PySem.F.type_list_extend | exact PySem.F.type_list_pop | exact PySem.F.type_list_index | exact PySem.F.type_list_count | exact PySem.F.type_list_remove)
    (hbase : attributeBase o name X.env (eval o X.env) = eval o X.env := by rfl)
    (hfew : ((backTo cpos (starEach (e :: es) X.env)).all (fun x => !x.1) && (backToKw cpos (keywordEach [] X.env)).all (fun x => x.1.isSome)
      && decide ((e :: es).length + ([] : List Keyword).length + (if ([] : List Keyword).isEmpty then 0 else 1) < 30)) = true := by rfl)
    (hline : (apos.endLine == cpos.line) = true := by rfl) (hs : starEach (e :: es) X.env = (false, eval e X.env) :: starEach es X.env := by rfl) (hplain : (backTo cpos (starEach es X.env)).any (·.1) = false := by rfl) :
    PE X (.Call (.Attribute o name apos) (e :: es) [] cpos) (rdE X.K (mMet mo ma f)) := PE.weak (pe_bm PySem.F.plainAttrs_list slot hty hm ho ha hbase hfew hline hs hplain) fun sg H Q h => by
  obtain ⟨ph, S, rho, d, S', s, en, e, post⟩ := h
  obtain ⟨o, S1, e1, e2⟩ := bnd_inv e
  split at e2
  · rename_i n
    split at e2
    · rename_i l hl
      obtain ⟨ds, S2, e3, e4⟩ := bnd_inv e2
      exact ⟨ph, S, rho, _, S1, s, en, e1, fun ph1 H1 x E1 s1 r1 => ⟨ref_ty s1 r1 hl, ph1, S1, rho, ds, S2, s1, en.ext E1, e3, fun ph2 H2 xs E2 s2 r2 => hf ph2 S2 H2 x xs _ ds d S' Q s2 (r1.ext E2) r2 e4 (post.of (E1.trans E2))⟩⟩
    · cases e2
  · cases e2
variable {K : PySem.W.Frag}
/-- what stands in an object -/
theorem ref_at {ph : Ph} {S : Sto} {H : Hp} {n : Nat} {ds : List D} {v : V} (s : Sim K ph S H) (r : Rep K ph S H (.ref n) v) (h : S.ob n = some (.lst ds)) : ∃ xs, v = .ref (ph.f n) ∧ H (ph.f n) = some (.lst xs) ∧ RepL K ph S H ds xs ∧ (S.ob n).isSome = true := by
  obtain ⟨_, rfl⟩ := r.refE
  obtain ⟨xs, h1, h2⟩ := s.ok n _ h
  exact ⟨xs, rfl, h1, h2, by rw [h]; rfl⟩
theorem put_at {ph : Ph} {S : Sto} {H : Hp} {n : Nat} {ds : List D} {xs : List V} (s : Sim K ph S H) (h : (S.ob n).isSome = true) (r : RepL K ph S H ds xs) :
    Ext ph S H ph (S.set n (.lst ds)) (upd H (ph.f n) (.lst xs)) ∧ Sim K ph (S.set n (.lst ds)) (upd H (ph.f n) (.lst xs)) :=
  have E : Ext ph S H ph (S.set n (.lst ds)) (upd H (ph.f n) (.lst xs)) := Ext.setO s h
  ⟨E, s.setO h ⟨_, upd_same, r.ext E⟩⟩
def appM (o : D) (as : List D) : M D := fun S => match o, as with
  | .ref n, [y] => match S.ob n with
    | some (.lst ds) => if ds.length < lim then some (.non, S.set n (.lst (ds ++ [y]))) else none
    | _ => none
  | _, _ => none
theorem app_ok {ph : Ph} {S : Sto} {H : Hp} {x : V} {xs : List V} {dx : D} {dxs : List D} {d : D} {S' : Sto} {Q : VK} (s : Sim K ph S H) (rx : Rep K ph S H dx x) (rxs : RepL K ph S H dxs xs) (e : appM dx dxs S = some (d, S')) (post : PostE K ph S H Q d S') : rAppend x xs H Q := by
  unfold appM at e
  split at e
  · rename_i n y
    split at e
    · rename_i ds hd
      split at e
      · rename_i hl
        cases e
        obtain ⟨ys, rfl, h1, h2, h3⟩ := ref_at s rx hd
        obtain ⟨v, rfl, rv⟩ := RepL.one rxs
        obtain ⟨E, s2⟩ := put_at s h3 (h2.app (.cons rv .nil))
        exact ⟨_, ys, v, rfl, rfl, h1, by rw [h2.len]; exact hl, post _ _ _ E s2 (by rw [Rep])⟩
      · cases e
    · cases e
  · cases e
theorem e_append {o e : Expr} {apos cpos : Pos} {mo : EM D} {ma : EM (List D)} (ho : PE X o (rdE X.K mo)) (ha : PA X [e] (rdA X.K ma))
    (hbase : attributeBase o "append" X.env (eval o X.env) = eval o X.env := by rfl)
    (hfew : ((backTo cpos (starEach [e] X.env)).all (fun x => !x.1) && (backToKw cpos (keywordEach [] X.env)).all (fun x => x.1.isSome)
      && decide ([e].length + ([] : List Keyword).length + (if ([] : List Keyword).isEmpty then 0 else 1) < 30)) = true := by rfl)
    (hline : (apos.endLine == cpos.line) = true := by rfl) (hs : starEach [e] X.env = (false, eval e X.env) :: starEach [] X.env := by rfl) (hplain : (backTo cpos (starEach [] X.env)).any (·.1) = false := by rfl) :
    PE X (.Call (.Attribute o "append" apos) [e] [] cpos) (rdE X.K (mMet mo ma appM)) := e_met mt_append (fun _ _ _ _ _ _ _ _ _ _ s rx rxs e p => app_ok s rx rxs e p) PySem.F.slot_list_append ho ha PySem.F.type_list_append hbase hfew hline hs hplain
/-- list.insert at a place from 0 on -/
def insM (o : D) (as : List D) : M D := fun S => match o, as with
  | .ref n, [.int i, y] => match S.ob n with
    | some (.lst ds) => if ds.length < lim ∧ 0 ≤ i ∧ i < 2 ^ 63 then some (.non, S.set n (.lst (ds.take i.toNat ++ y :: ds.drop i.toNat))) else none
    | _ => none
  | _, _ => none
theorem ins_ok {ph : Ph} {S : Sto} {H : Hp} {x : V} {xs : List V} {dx : D} {dxs : List D} {d : D} {S' : Sto} {Q : VK} (s : Sim K ph S H) (rx : Rep K ph S H dx x) (rxs : RepL K ph S H dxs xs) (e : insM dx dxs S = some (d, S')) (post : PostE K ph S H Q d S') :
    ∃ (l : Addr) (zs : List V) (i : Int) (y : V), x = .ref l ∧ xs = [.int i, y] ∧ H l = some (.lst zs) ∧ zs.length < sizeLine ∧ 0 ≤ i ∧ i < 2 ^ 63 ∧ Q .non (upd H l (.lst (zs.take i.toNat ++ [y] ++ zs.drop i.toNat))) := by
  unfold insM at e
  split at e
  · rename_i n i y
    split at e
    · rename_i ds hd
      split at e
      · rename_i hl
        cases e
        obtain ⟨ys, rfl, h1, h2, h3⟩ := ref_at s rx hd
        obtain ⟨u, v, rfl, ru, rv⟩ := RepL.two rxs
        obtain rfl := ru.intE
        obtain ⟨E, s2⟩ := put_at s h3 (((h2.take i.toNat).app (.cons rv .nil)).app (h2.drop i.toNat))
        refine ⟨_, ys, i, v, rfl, rfl, h1, by rw [h2.len]; exact hl.1, hl.2.1, hl.2.2, ?_⟩
        have e3 : ds.take i.toNat ++ y :: ds.drop i.toNat = ds.take i.toNat ++ [y] ++ ds.drop i.toNat := by simp
        rw [e3] at post
        exact post _ _ _ E s2 (by rw [Rep])
      · cases e
    · cases e
  · cases e
theorem e_insert {o e e2 : Expr} {apos cpos : Pos} {mo : EM D} {ma : EM (List D)} (ho : PE X o (rdE X.K mo)) (ha : PA X [e, e2] (rdA X.K ma))
    (hbase : attributeBase o "insert" X.env (eval o X.env) = eval o X.env := by rfl)
    (hfew : ((backTo cpos (starEach [e, e2] X.env)).all (fun x => !x.1) && (backToKw cpos (keywordEach [] X.env)).all (fun x => x.1.isSome)
      && decide ([e, e2].length + ([] : List Keyword).length + (if ([] : List Keyword).isEmpty then 0 else 1) < 30)) = true := by rfl)
    (hline : (apos.endLine == cpos.line) = true := by rfl) (hs : starEach [e, e2] X.env = (false, eval e X.env) :: starEach [e2] X.env := by rfl) (hplain : (backTo cpos (starEach [e2] X.env)).any (·.1) = false := by rfl) :
    PE X (.Call (.Attribute o "insert" apos) [e, e2] [] cpos) (rdE X.K (mMet mo ma insM)) := e_met mt_insert (fun _ _ _ _ _ _ _ _ _ _ s rx rxs e p => ins_ok s rx rxs e p) PySem.F.slot_list_insert ho ha PySem.F.type_list_insert hbase hfew hline hs hplain
end

/-! ### the law's own walk -/
section
def ph0 : Ph := ⟨fun _ => 0, []⟩
def S0 : Sto := ⟨0, fun _ => none⟩
theorem sim0 {K : PySem.W.Frag} {H : Hp} : Sim K ph0 S0 H := ⟨fun _ _ e => (nomatch e), fun _ _ e => (nomatch e), fun _ _ e => (nomatch e), fun _ h => (nomatch h)⟩
theorem ints_rep {K : PySem.W.Frag} {ph : Ph} {S : Sto} {H : Hp} : ∀ ns : List Int, RepL K ph S H (ns.map D.int) (ns.map V.int)
  | [] => .nil
  | n :: ns => .cons (by rw [Rep]) (ints_rep ns)
/-- the script -/
def scr (ns : List Int) : D := .rol (ns.map .int)
theorem script_rep {K : PySem.W.Frag} {H : Hp} {a : Addr} {ns : List Int} (h : SqL K H a (ns.map V.int)) : RepL K ph0 S0 H [scr ns] [.ref a] := by
  refine .cons ?_ .nil
  unfold scr
  rw [Rep]
  refine ⟨a, _, rfl, ?_, ints_rep ns⟩
  rcases h with h | h
  · exact .inl ⟨h, by rintro (q | ⟨n, q, _⟩); cases q; cases q⟩
  · exact .inr (.inr h)
theorem law_sp {K : PySem.W.Frag} {H : Hp} {a : Addr} {ns : List Int} {m : List D → M D} (hS : SqL K H a (ns.map V.int)) (e : ∃ S', m [scr ns] S0 = some (.bl true, S')) : spM K 1 m [.ref a] H (fun v _ => v = .bl true) E0 := by
  obtain ⟨S', e⟩ := e
  exact ⟨rfl, ph0, S0, _, _, S', sim0, script_rep hS, e, fun ph H' v E s r => r.blE⟩
end
end Mn

set_option maxRecDepth 100000
set_option maxHeartbeats 1000000
/-! Mn: from the law's def to its claim. -/
namespace Mn
open PySem PySem.Spec PyProof.Rows L2

section
variable {P : Program} {w : World} {K : PySem.W.Frag} {mg mb : Str → Option Value} {k : Nat} {fa a : Addr} {fd : FuncData} {x : Str} {m : List D → M D} {s1 : Shared} {vs : List Value} {ns : List Int}
/-- with a heap told in which nothing stands but the script, if that -/
theorem lawG_at (KX : K.In s1.heap) (hns : s1.heap.Ns mainGlobals mg) (hb : s1.heap.Ns builtinsNs mb) (hbb : ∀ x : Str, x ≠ "__name__" → mb x = bootBuiltins x) (hlim : s1.heap.NoLimit) (hg : s1.gens = #[])
    (ha : s1.heap.get? a = some { cls := .type "list", data := .seq vs.toArray }) (hr : Room k callerA)
    (F : ∀ base : Heap, K.In base → base.Ns mainGlobals mg → FnG P w K mg base k fa fd [x] m) (hbind : ∀ (s : Shared) (u : Value), BindsTo s fd ⟨[u], []⟩ [(x, u)])
    {H : Hp} (sp : spM K 1 m [.ref a] H (fun v _ => v = .bl true) E0) (fz : ∀ b u, H b = some u → b = a ∧ (∃ ob xs, u = .frz ob (.lst xs)) ∧ K.lookup a = none) (hok : HOk P w H s1.heap) :
    codeAny (model P w) callerA (.call (.ref fa) ⟨[.ref a], []⟩) (fun r s' => r = .ok (.ret (.bool true)) ∧ OldK s1.heap s'.heap ∧ s'.os = s1.os ∧ AllBare s'.gens) s1 := by
  have old : ∀ {b : Addr} {o : Obj}, s1.heap.get? b = some o → ((∃ es ep, o.data = .dict es ep) ∨ K.lookup b = some o) → (hidT s1.heap H).get? b = some o := fun {b o} e c => hidT_get e (by
    cases q : H b with
    | none => rfl
    | some u =>
      exfalso
      obtain ⟨rfl, _, hk⟩ := fz b u q
      rcases c with ⟨es, ep, d⟩ | c
      · rw [ha] at e; cases e; cases d
      · rw [hk] at c; cases c)
  have nsK : ∀ {b : Addr} {g : Str → Option Value}, s1.heap.Ns b g → (hidT s1.heap H).Ns b g := fun {b g} ⟨o, es, ep, e, d, r⟩ => ⟨o, es, ep, old e (.inl ⟨es, ep, d⟩), d, r⟩
  have inb : K.In (hidT s1.heap H) := fun b o e => old (KX b o e) (.inr e)
  have md : Mod K mg (hidT s1.heap H) := ⟨inb, nsK hns, ⟨mb, nsK hb, hbb⟩, let ⟨g, h1, h2⟩ := hlim; ⟨g, nsK h1, h2⟩⟩
  refine codeAny_mono ((F _ inb (nsK hns)).run callerA [] s1 H ⟨[.ref a], []⟩ [.ref a] [.ref a] _ hr rfl ⟨rfl, md, fun b o e => of_hidT e, Nat.le_of_eq (hidT_size _ _), trivial, fun b hb => (nomatch hb), hok, .of_eq hg⟩ (hbind s1 (.ref a)) (.cons rfl .nil) sp) fun r s' h => ?_
  match r, h with
  | .ok (.ret u), h =>
    obtain ⟨v, H', os, bare, un, hok', r', q⟩ := h
    obtain rfl : v = V.bl true := q
    obtain rfl : u = Value.bool true := r'
    refine ⟨rfl, OldK.of_keep fun b o e => ?_, os, bare⟩
    cases q : H b with
    | none => exact un.keep b o e q (fun z => nomatch z) (fun z => nomatch z)
    | some u =>
      obtain ⟨_, ⟨ob, xs, rfl⟩, _⟩ := fz b u q
      have e1 := (hok b _ q).1
      have e2 := (hok' b _ (un.frzs b ob _ q)).1
      rw [e] at e1; cases e1
      exact e2
theorem lawG (KX : K.In s1.heap) (hns : s1.heap.Ns mainGlobals mg) (hb : s1.heap.Ns builtinsNs mb) (hbb : ∀ x : Str, x ≠ "__name__" → mb x = bootBuiltins x) (hlim : s1.heap.NoLimit) (hg : s1.gens = #[])
    (ha : s1.heap.get? a = some { cls := .type "list", data := .seq vs.toArray }) (hi : IntsAre vs ns) (hl : ns.length ≤ sizeLine) (hr : Room k callerA)
    (F : ∀ base : Heap, K.In base → base.Ns mainGlobals mg → FnG P w K mg base k fa fd [x] m) (hbind : ∀ (s : Shared) (u : Value), BindsTo s fd ⟨[u], []⟩ [(x, u)])
    (e : ∃ S', m [scr ns] S0 = some (.bl true, S')) :
    codeAny (model P w) callerA (.call (.ref fa) ⟨[.ref a], []⟩) (fun r s' => r = .ok (.ret (.bool true)) ∧ OldK s1.heap s'.heap ∧ s'.os = s1.os ∧ AllBare s'.gens) s1 := by
  have rv := vals_ints hi
  cases hk : K.lookup a with
  | some o =>
    have z := KX a o hk
    rw [ha] at z; cases z
    exact lawG_at KX hns hb hbb hlim hg ha hr F hbind (H := fun _ => none) (law_sp (.inr ⟨_, vs.toArray, _, hk, rfl, rfl, rfl, by rw [List.size_toArray, hi.length]; exact hl, by simpa using rv⟩) e) (fun b u q => by cases q) fun b u q => by cases q
  | none =>
    have at_a : ∀ {b : Addr} {u : HO}, (if b = a then some (HO.frz { cls := .type "list", data := .seq vs.toArray } (.lst (ns.map V.int))) else none) = some u → b = a ∧ u = .frz { cls := .type "list", data := .seq vs.toArray } (.lst (ns.map V.int)) := fun {b u} q => by
      by_cases h : b = a
      · rw [if_pos h] at q; exact ⟨h, (Option.some.inj q).symm⟩
      · rw [if_neg h] at q; cases q
    refine lawG_at KX hns hb hbb hlim hg ha hr F hbind (H := fun b => if b = a then some (.frz { cls := .type "list", data := .seq vs.toArray } (.lst (ns.map V.int))) else none) (law_sp (.inl (.inr ⟨_, if_pos rfl⟩)) e) (fun b u q => ?_) fun b u q => ?_
    · obtain ⟨h1, h2⟩ := at_a q
      exact ⟨h1, ⟨_, _, h2⟩, hk⟩
    · obtain ⟨rfl, rfl⟩ := at_a q
      exact ⟨ha, by rw [List.length_map]; exact hl, vs, _, rv, ha⟩
end
/-- the goal that k_head leaves, from the law's plain function -/
theorem walkG {l : PySem.W.OpenLaw} {n k : Nat} {q : Program} {loose : List Str} {XP : (Str → Option Value) → Heap → Prop} {YP : World → Heap → Prop} {d : DefRec} {K : Params → PySem.W.Frag} {x : Str} {m : List D → M D}
    (hn : l.most = some n) (hn2 : n ≤ sizeLine) (hdf : d.params.defaults = []) (hr : Room k callerA) (hY : ∀ (w : World) (h : Heap), YP w h → (K w.params).In h)
    (hm : ∀ ns : List Int, ns.length ≤ n → ∃ S', m [scr ns] S0 = some (.bl true, S'))
    (F : ∀ (w : World) (mg : Str → Option Value) (fa : Addr) (h : Heap), (K w.params).In h → h.Ns mainGlobals mg → mg d.name = some (.ref fa) →
      ∃ fd : FuncData, (∀ (s : Shared) (u : Value), BindsTo s fd ⟨[u], []⟩ [(x, u)]) ∧
        ∀ base : Heap, (K w.params).In base → base.Ns mainGlobals mg → FnG l.prog w (K w.params) mg base k fa fd [x] m) :
    PySem.W.WalkO q loose XP YP l.row.toRowW d [] (fun f vs => PySem.call f vs) := by
  refine Att.attach_call hn hdf fun w s0 s1 mg mb fa o pm cd doc a vs ns G Y ho hd hcd hmg hobj hints hlen hg => ?_
  have KX := hY w _ Y
  obtain ⟨fd, hb, hF⟩ := F w mg fa _ KX G.T.g hmg
  exact lawG KX G.T.g G.T.b G.T.builtins G.T.nolimit hg hobj hints (Nat.le_trans hlen hn2) hr hF hb (hm ns hlen)
end Mn

set_option maxRecDepth 100000
set_option maxHeartbeats 1000000
/-! Mn: list(range(..)); short words for the printed proofs. -/
namespace Mn
open PySem PySem.Spec PyProof.Rows L2
section
variable {X : Cx}
def rgOk (a b : Int) : Bool := decide (-(2 ^ 62) ≤ a) && decide (a < 2 ^ 62) && decide (-(2 ^ 62) ≤ b) && decide (b < 2 ^ 62) && decide ((b - a).toNat ≤ 2 ^ 24)
theorem rgOk_iff {a b : Int} (h : rgOk a b = true) : RgOk a b := by
  unfold rgOk at h
  simp only [Bool.and_eq_true, decide_eq_true_eq] at h
  exact ⟨h.1.1.1.1, h.1.1.1.2, h.1.1.2, h.1.2, h.2⟩
theorem rng_rep {K : PySem.W.Frag} {ph : Ph} {S : Sto} {H : Hp} {a b : Int} : RepL K ph S H (rngD a (b - a).toNat) (rgV a b) := by
  unfold rngD rgV
  generalize List.range (b - a).toNat = l
  induction l with
  | nil => exact .nil
  | cons x l ih => exact .cons (by rw [Rep]) ih
def rg1M (d : D) : M D := fun S => match d with
  | .int n => if rgOk 0 n then some (.lst (rngD 0 (n - 0).toNat), S) else none
  | _ => none
theorem e_listRg1 {a : Expr} {ma : EM D} {p pos p2 pos2 : Pos} (hm : X.mg "list" = none) (hm2 : X.mg "range" = none) (ha : PE X a (rdE X.K ma)) (hc : X.calm = true := by rfl) (hg : Gl X "list" := by rfl) (hg2 : Gl X "range" := by rfl)
    (na : starEach [.Call (.Name "range" p2) [a] [] pos2] X.env = (false, eval (.Call (.Name "range" p2) [a] [] pos2) X.env) :: starEach [] X.env := by rfl) (na2 : starEach [a] X.env = (false, eval a X.env) :: starEach [] X.env := by rfl) :
    PE X (.Call (.Name "list" p) [.Call (.Name "range" p2) [a] [] pos2] [] pos) (rdE X.K (mUn rg1M ma)) := PE.weak (pe_listRg hc hg hm (prg_1 hg2 hm2 ha na2) na) fun sg H Q h => by
  obtain ⟨ph, S, rho, d, S', s, en, e, post⟩ := h
  obtain ⟨da, S1, e1, e2⟩ := bnd_inv e
  refine ⟨ph, S, rho, da, S1, s, en, e1, fun ph1 H1 x E1 s1 r1 => ?_⟩
  unfold rg1M at e2
  split at e2
  · rename_i n
    obtain rfl := r1.intE
    split at e2
    · rename_i hr
      cases e2
      exact ⟨n, rfl, rgOk_iff hr, fun q hq => new_lst s1 rng_rep (post.of E1) hq⟩
    · cases e2
  · cases e2
theorem uOf {k : Nat} {A : Around} (r : Room k A) : A.units + 200 < cLine := by have := r.un; omega
end
/-- the text of a law by places -/
def topOf (p : Program) (i : Nat) : Stmt := p.main.body.getD i (.Pass ⟨0, 0, 0, 0⟩)
end Mn
namespace Mn
open PySem PySem.Spec PyProof.Rows L2
/-- a def that may be called by its name -/
structure Cal (P : Program) (w : World) (K : PySem.W.Frag) (mg : Str → Option Value) (base : Heap) (k : Nat) (x : Str) (ps : List Str) (m : List D → M D) : Prop where
  ex : ∃ (a : Addr) (fd : FuncData), FnG P w K mg base k a fd ps m ∧ mg x = some (.ref a) ∧ PySem.W.keepIn K (.ref a) = true ∧ Binds K fd ps []
theorem Cal.mono {P : Program} {w : World} {K : PySem.W.Frag} {mg : Str → Option Value} {base : Heap} {j k : Nat} {x : Str} {ps : List Str} {m : List D → M D} (c : Cal P w K mg base j x ps m) (h : j ≤ k) : Cal P w K mg base k x ps m := by
  obtain ⟨a, fd, F, h1, h2, h3⟩ := c.ex
  exact ⟨a, fd, F.mono h, h1, h2, h3⟩
theorem e_cal {X : Cx} {k : Nat} {x : Str} {ps : List Str} {p pos : Pos} {e : Expr} {es : List Expr} {m : List D → M D} {ma : EM (List D)} (c : Cal X.prog X.w X.K X.mg X.base k x ps m) (hr : Room k X.A) (hG : X.A.guards = some [])
    (ha : PA X (e :: es) (rdA X.K ma)) (hg : Gl X x := by rfl) (hdb : (x == ("__debug__" : Str)) = false := by decide) (he : starEach (e :: es) X.env = (false, eval e X.env) :: starEach es X.env := by rfl) (hpl : (backTo pos (starEach es X.env)).any (·.1) = false := by rfl) :
    PE X (.Call (.Name x p) (e :: es) [] pos) (rdE X.K (mFn ps.length m ma)) := by
  obtain ⟨a, fd, F, h1, h2, h3⟩ := c.ex
  exact e_call F hr hG h1 h2 h3 ha hg hdb he hpl
theorem relabel_look {c : Str → Bool} {x : Str} : ∀ {names : List (Str × NameKind)}, names.lookup x = some .cell ∨ names.lookup x = some .free →
    (names.map fun (n, k) => if (k == NameKind.free && c n) = true then (n, NameKind.cell) else (n, k)).lookup x = some .cell ∨ (names.map fun (n, k) => if (k == NameKind.free && c n) = true then (n, NameKind.cell) else (n, k)).lookup x = some .free
  | [], h => by simp at h
  | (n, k) :: r, h => by
    have ih := @relabel_look c x r
    rw [List.map_cons]
    dsimp only
    cases hx : x == n with
    | true =>
      simp only [List.lookup_cons, hx] at h
      by_cases hc : (k == NameKind.free && c n) = true
      · left
        simp only [hc, if_true, List.lookup_cons, hx]
      · rw [if_neg hc, List.lookup_cons, hx]
        exact h
    | false =>
      simp only [List.lookup_cons, hx] at h
      by_cases hc : (k == NameKind.free && c n) = true
      · simp only [hc, if_true, List.lookup_cons, hx]
        exact ih h
      · rw [if_neg hc, List.lookup_cons, hx]
        exact ih h
/-- a comprehension within a comprehension -/
theorem blk_in {N : List Str} {sc scope : Scope} {own : List (Str × Nat)} {cl : List (Str × Addr)} {C : Addr} {env : PySem.Env} (h : blkC N sc scope own = true) : BlkOk N (compEnvC sc cl C env).scope scope own := by
  have b := blkOk_by h
  refine ⟨b.kind, b.uniq, b.ix, fun y hy e => ?_, b.own⟩
  have z := relabel_look (c := fun n => env.scope.kind == .function && env.kindOf n == some .cell) (b.free y hy e)
  unfold compEnvC relabel
  simp only [Bool.and_assoc]
  exact z
end Mn

set_option maxRecDepth 100000
set_option maxHeartbeats 1000000
/-! Mn: what the plain functions lead to. -/
namespace Mn
open PySem PySem.Spec PyProof.Rows L2

def Wp {α : Type} (m : M α) (S : Sto) (Q : α → Sto → Prop) : Prop := ∃ a S', m S = some (a, S') ∧ Q a S'
section
variable {α β : Type} {S : Sto} {Q : α → Sto → Prop}
theorem Wp.mono {m : M α} {R : α → Sto → Prop} (h : Wp m S R) (k : ∀ a S', R a S' → Q a S') : Wp m S Q := by
  obtain ⟨a, S', e, r⟩ := h
  exact ⟨a, S', e, k a S' r⟩
@[simp] theorem wp_bnd {m : M β} {f : β → M α} : Wp (bnd m f) S Q ↔ Wp m S fun b S1 => Wp (f b) S1 Q := by
  constructor
  · rintro ⟨a, S', e, q⟩
    obtain ⟨b, S1, e1, e2⟩ := bnd_inv e
    exact ⟨b, S1, e1, a, S', e2, q⟩
  · rintro ⟨b, S1, e1, a, S', e2, q⟩
    exact ⟨a, S', by unfold bnd; rw [e1]; exact e2, q⟩
@[simp] theorem wp_ret {a : α} : Wp (ret a) S Q ↔ Q a S := by
  constructor
  · rintro ⟨b, S', e, q⟩; cases e; exact q
  · intro q; exact ⟨a, S, rfl, q⟩
theorem wp_some {m : M α} {a : α} {S' : Sto} (h : m S = some (a, S')) : Wp m S Q ↔ Q a S' := by
  constructor
  · rintro ⟨b, S1, e, q⟩
    rw [h] at e; cases e; exact q
  · intro q; exact ⟨a, S', h, q⟩
theorem Wp.to {m : M α} {a : α} {S' : Sto} (h : m S = some (a, S')) (q : Q a S') : Wp m S Q := ⟨a, S', h, q⟩
end
section
variable {S : Sto} {rho : Env}
variable {Q : D → Sto → Prop} {QL : List D → Sto → Prop} {QB : Bool → Sto → Prop} {QS : Fl × Env → Sto → Prop} {QO : Option Int → Sto → Prop} {QI : Src → Sto → Prop}
theorem wp_mV {i : Nat} {d : D} (h : rho[i]? = some (some d)) : Wp (mV i rho) S Q ↔ Q d S := wp_some (by unfold mV; rw [h])
@[simp] theorem wp_mV0 {d : D} {r : Env} : Wp (mV 0 (some d :: r)) S Q ↔ Q d S := wp_mV rfl
@[simp] theorem wp_mVs {i : Nat} {x : Option D} {r : Env} : Wp (mV (i + 1) (x :: r)) S Q ↔ Wp (mV i r) S Q := by
  unfold Wp mV
  rfl
@[simp] theorem wp_mC {d : D} : Wp (mC d rho) S Q ↔ Q d S := wp_some rfl
@[simp] theorem wp_mBin {f : D → D → M D} {a b : EM D} : Wp (mBin f a b rho) S Q ↔ Wp (a rho) S fun x S1 => Wp (b rho) S1 fun y S2 => Wp (f x y) S2 Q := by unfold mBin; simp
@[simp] theorem wp_mUn {f : D → M D} {a : EM D} : Wp (mUn f a rho) S Q ↔ Wp (a rho) S fun x S1 => Wp (f x) S1 Q := by unfold mUn; simp
@[simp] theorem wp_mCall {f : List D → M D} {a : EM (List D)} : Wp (mCall f a rho) S Q ↔ Wp (a rho) S fun x S1 => Wp (f x) S1 Q := by unfold mCall; simp
@[simp] theorem wp_mFn {n : Nat} {f : List D → M D} {a : EM (List D)} : Wp (mFn n f a rho) S Q ↔ Wp (a rho) S fun x S1 => Wp (if x.length = n then f x else fail) S1 Q := by unfold mFn; simp
@[simp] theorem wp_mNil : Wp (mNil rho) S QL ↔ QL [] S := wp_some rfl
@[simp] theorem wp_mCons {a : EM D} {b : EM (List D)} : Wp (mCons a b rho) S QL ↔ Wp (a rho) S fun x S1 => Wp (b rho) S1 fun xs S2 => QL (x :: xs) S2 := by unfold mCons; simp
@[simp] theorem wp_mTup {a : EM (List D)} : Wp (mTup a rho) S Q ↔ Wp (a rho) S fun xs S1 => Wp (mkTup xs) S1 Q := by unfold mTup; simp
@[simp] theorem wp_mLst {a : EM (List D)} : Wp (mLst a rho) S Q ↔ Wp (a rho) S fun xs S1 => Wp (mkLst xs) S1 Q := by unfold mLst; simp
@[simp] theorem wp_mNew {a : EM (List D)} : Wp (mNew a rho) S Q ↔ Wp (a rho) S fun xs S1 => Wp (mkNew xs) S1 Q := by unfold mNew; simp
@[simp] theorem wp_mIf {c : EM Bool} {a b : EM D} : Wp (mIf c a b rho) S Q ↔ Wp (c rho) S fun k S1 => Wp (if k = true then a rho else b rho) S1 Q := by unfold mIf; simp
@[simp] theorem wp_mAndV {a b : EM D} : Wp (mAndV a b rho) S Q ↔ Wp (a rho) S fun x S1 => Wp (truM x) S1 fun k S2 => Wp (if k = true then b rho else ret x) S2 Q := by unfold mAndV; simp
@[simp] theorem wp_mOrV {a b : EM D} : Wp (mOrV a b rho) S Q ↔ Wp (a rho) S fun x S1 => Wp (truM x) S1 fun k S2 => Wp (if k = true then ret x else b rho) S2 Q := by unfold mOrV; simp
@[simp] theorem wp_mNotV {a : EM D} : Wp (mNotV a rho) S Q ↔ Wp (a rho) S fun x S1 => Wp (truM x) S1 fun k S2 => Q (.bl (!k)) S2 := by unfold mNotV; simp
@[simp] theorem wp_mIsN {a : EM D} : Wp (mIsN a rho) S Q ↔ Wp (a rho) S fun x S1 => Q (.bl (isNonD x)) S1 := by unfold mIsN; simp
@[simp] theorem wp_mNotN {a : EM D} : Wp (mNotN a rho) S Q ↔ Wp (a rho) S fun x S1 => Q (.bl (!isNonD x)) S1 := by unfold mNotN; simp
@[simp] theorem wp_asB {b : Bool} : Wp (asB (.bl b)) S QB ↔ QB b S := wp_some rfl
@[simp] theorem wp_asI {i : Int} {QI : Int → Sto → Prop} : Wp (asI (.int i)) S QI ↔ QI i S := wp_some rfl
@[simp] theorem wp_mB {a : EM D} : Wp (mB a rho) S QB ↔ Wp (a rho) S fun x S1 => Wp (asB x) S1 QB := by unfold mB; simp
@[simp] theorem wp_mTru {a : EM D} : Wp (mTru a rho) S QB ↔ Wp (a rho) S fun x S1 => Wp (truM x) S1 QB := by unfold mTru; simp
@[simp] theorem wp_truB {b : Bool} : Wp (truM (.bl b)) S QB ↔ QB b S := wp_some rfl
@[simp] theorem wp_mAnd {a b : EM Bool} : Wp (mAnd a b rho) S QB ↔ Wp (a rho) S fun x S1 => Wp (if x = true then b rho else ret false) S1 QB := by unfold mAnd; simp
@[simp] theorem wp_mOr {a b : EM Bool} : Wp (mOr a b rho) S QB ↔ Wp (a rho) S fun x S1 => Wp (if x = true then ret true else b rho) S1 QB := by unfold mOr; simp
@[simp] theorem wp_mNot {a : EM Bool} : Wp (mNot a rho) S QB ↔ Wp (a rho) S fun x S1 => QB (!x) S1 := by unfold mNot; simp
@[simp] theorem wp_mYes : Wp (mYes rho) S QB ↔ QB true S := wp_some rfl
@[simp] theorem wp_mPart {a : EM D} : Wp (mPart a rho) S QO ↔ Wp (a rho) S fun x S1 => Wp (asI x) S1 fun i S2 => QO (some i) S2 := by unfold mPart; simp
@[simp] theorem wp_mSl {a : EM D} {l h : EM (Option Int)} : Wp (mSl a l h rho) S Q ↔ Wp (a rho) S fun x S1 => Wp (l rho) S1 fun lo S2 => Wp (h rho) S2 fun hi S3 => Wp (slM x lo hi) S3 Q := by unfold mSl; simp
@[simp] theorem wp_mISeq {a : EM D} : Wp (mISeq a rho) S QI ↔ Wp (a rho) S fun x S1 => Wp (fun S => (srcOf x S).map fun s => (s, S)) S1 QI := by unfold mISeq; rw [wp_bnd]
@[simp] theorem wp_mIR {f : List D → Option Src} {a : EM (List D)} : Wp (mIR f a rho) S QI ↔ Wp (a rho) S fun x S1 => Wp (fun S => (f x).map fun s => (s, S)) S1 QI := by unfold mIR; rw [wp_bnd]
@[simp] theorem wp_mMet {o : EM D} {a : EM (List D)} {f : D → List D → M D} : Wp (mMet o a f rho) S Q ↔ Wp (o rho) S fun x S1 => Wp (fun S => match x with
  | .ref n => match S.ob n with
    | some (.lst _) => bnd (a rho) (fun ds => f x ds) S
    | _ => none
  | _ => none) S1 Q := by unfold mMet; exact wp_bnd
theorem wp_ref {n : Nat} {ds : List D} {a : EM (List D)} {f : D → List D → M D} (h : S.ob n = some (.lst ds)) : Wp (fun S => match (D.ref n) with
  | .ref n => match S.ob n with
    | some (.lst _) => bnd (a rho) (fun ds => f (D.ref n) ds) S
    | _ => none
  | _ => none) S Q ↔ Wp (a rho) S fun xs S1 => Wp (f (.ref n) xs) S1 Q := by
  rw [← wp_bnd]
  unfold Wp
  simp only [h]
/-! statements -/
@[simp] theorem wp_mNx : Wp (mNx rho) S QS ↔ QS (.nx, rho) S := wp_some rfl
@[simp] theorem wp_mSeq {a b : SM} : Wp (mSeq a b rho) S QS ↔ Wp (a rho) S fun p S1 => Wp (match p.1 with | .nx => b p.2 | _ => ret p) S1 QS := by unfold mSeq; exact wp_bnd
@[simp] theorem wp_mRet {a : EM D} : Wp (mRet a rho) S QS ↔ Wp (a rho) S fun x S1 => QS (.rt x, rho) S1 := by unfold mRet; simp
@[simp] theorem wp_mDrop {a : EM D} : Wp (mDrop a rho) S QS ↔ Wp (a rho) S fun x S1 => QS (.nx, rho) S1 := by unfold mDrop; simp
@[simp] theorem wp_mSet {i : Nat} {a : EM D} : Wp (mSet i a rho) S QS ↔ Wp (a rho) S fun x S1 => QS (.nx, rho.set i (some x)) S1 := by unfold mSet; simp
@[simp] theorem wp_mIfS {c : EM Bool} {a b : SM} : Wp (mIfS c a b rho) S QS ↔ Wp (c rho) S fun k S1 => Wp (if k = true then a rho else b rho) S1 QS := by unfold mIfS; simp
@[simp] theorem wp_mAsg {a : EM D} {g : GM} : Wp (mAsg a g rho) S QS ↔ Wp (a rho) S fun x S1 => Wp (fun S => (g x rho).map fun r => ((Fl.nx, r), S)) S1 QS := by unfold mAsg; rw [wp_bnd]
@[simp] theorem wp_map {β : Type} {r : β} {QR : β → Sto → Prop} : Wp (fun S => (some r).map fun r => (r, S)) S QR ↔ QR r S := wp_some rfl
@[simp] theorem wp_mapG {r : Env} : Wp (fun S => (some r).map fun r => ((Fl.nx, r), S)) S QS ↔ QS (.nx, r) S := wp_some rfl
@[simp] theorem wp_mPar {i j : Nat} {a : EM (List D)} : Wp (mPar i j a rho) S QS ↔ Wp (a rho) S fun x S1 => Wp (parF i j rho x) S1 QS := by unfold mPar; rw [wp_bnd]
@[simp] theorem wp_parF {i j : Nat} {c d : D} : Wp (parF i j rho [c, d]) S QS ↔ QS (.nx, (rho.set i (some c)).set j (some d)) S := wp_some rfl
@[simp] theorem wp_mPut {o i v : EM D} : Wp (mPut o i v rho) S QS ↔ Wp (v rho) S fun z S1 => Wp (o rho) S1 fun x S2 => Wp (i rho) S2 fun y S3 => Wp (putM x y z) S3 fun _ S4 => QS (.nx, rho) S4 := by unfold mPut; simp
@[simp] theorem wp_mAugS {o i v : EM D} {f : D → D → M D} : Wp (mAugS o i v f rho) S QS ↔ Wp (o rho) S fun x S1 => Wp (i rho) S1 fun y S2 => Wp (getM x y) S2 fun c S3 => Wp (v rho) S3 fun z S4 => Wp (f c z) S4 fun w S5 => Wp (putM x y w) S5 fun _ S6 => QS (.nx, rho) S6 := by unfold mAugS; simp
@[simp] theorem wp_mFor {i : EM Src} {g : GM} {b : SM} : Wp (mFor i g b rho) S QS ↔ Wp (i rho) S fun src S1 => Wp (loopGo src g b src.ds rho) S1 QS := by unfold mFor; simp
@[simp] theorem wp_mLc {i : EM Src} {own : List Nat} {g : GM} {t : EM Bool} {e : EM D} : Wp (mLc i own g t e rho) S Q ↔ Wp (i rho) S fun src S1 => Wp (lcGo src g t e (wipeR rho own) src.ds) S1 fun r S2 => Wp (fun S => if r.length ≤ lim then some (D.lst r, S) else none) S2 Q := by unfold mLc; simp only [wp_bnd]
theorem wp_def {n : Nat} {b : SM} {ds : List D} : Wp (mDef n b ds) S Q ↔ Wp (b (startR n ds)) S fun p S1 => Wp (match p.1 with | .rt d => ret d | .nx => ret .non | _ => fail) S1 Q := by unfold mDef; exact wp_bnd
/-! operators -/
theorem limP {n : Nat} (h : n ≤ 1000000) : n ≤ lim := Nat.le_trans h (by decide)
theorem wp_mkTup {xs : List D} (h : xs.length ≤ 1000000) : Wp (mkTup xs) S Q ↔ Q (.tup xs) S := wp_some (by unfold mkTup; rw [if_pos (limP h)])
theorem wp_mkLst {xs : List D} (h : xs.length ≤ 1000000) : Wp (mkLst xs) S Q ↔ Q (.lst xs) S := wp_some (by unfold mkLst; rw [if_pos (limP h)])
theorem wp_lim {xs : List D} (h : xs.length ≤ 1000000) : Wp (fun S => if xs.length ≤ lim then some (D.lst xs, S) else none) S Q ↔ Q (.lst xs) S := wp_some (by rw [if_pos (limP h)])
@[simp] theorem wp_sub {i j : Int} : Wp (subM (.int i) (.int j)) S Q ↔ Q (.int (i - j)) S := wp_some rfl
@[simp] theorem wp_addI {i j : Int} : Wp (addM (.int i) (.int j)) S Q ↔ Q (.int (i + j)) S := wp_some rfl
@[simp] theorem wp_intF {f : Int → Int → Int} {i j : Int} : Wp (intF f (.int i) (.int j)) S Q ↔ Q (.int (f i j)) S := wp_some rfl
theorem wp_mod {i j : Int} (h : 0 < j) : Wp (modM (.int i) (.int j)) S Q ↔ Q (.int (i % j)) S := wp_some (by unfold modM intOp; simp [h])
theorem wp_div {i j : Int} (h : 0 < j) (h2 : j < 1073741824) : Wp (divM (.int i) (.int j)) S Q ↔ Q (.int (i / j)) S := wp_some (by unfold divM intOp; simp [h, h2])
theorem wp_mul {i j : Int} (h : (-(2 ^ 64) < i ∧ i < 2 ^ 64) ∨ (-(2 ^ 64) < j ∧ j < 2 ^ 64)) : Wp (mulM (.int i) (.int j)) S Q ↔ Q (.int (i * j)) S := wp_some (by unfold mulM; simp only [if_pos h])
theorem wp_pow {i j : Int} (h0 : 0 ≤ j) (h1 : j ≤ 1000000) (h2 : i.natAbs < 2 ^ 64) : Wp (powM (.int i) (.int j)) S Q ↔ Q (.int (i ^ j.toNat)) S := wp_some (by unfold powM intOp; simp [h0, h1, h2])
@[simp] theorem wp_lt {i j : Int} : Wp (ltM (.int i) (.int j)) S Q ↔ Q (.bl (decide (i < j))) S := wp_some rfl
@[simp] theorem wp_le {i j : Int} : Wp (leM (.int i) (.int j)) S Q ↔ Q (.bl (decide (i ≤ j))) S := wp_some rfl
@[simp] theorem wp_gt {i j : Int} : Wp (gtM (.int i) (.int j)) S Q ↔ Q (.bl (decide (j < i))) S := wp_some rfl
@[simp] theorem wp_ge {i j : Int} : Wp (geM (.int i) (.int j)) S Q ↔ Q (.bl (decide (j ≤ i))) S := wp_some rfl
@[simp] theorem wp_neg {i : Int} : Wp (negM (.int i)) S Q ↔ Q (.int (-i)) S := wp_some rfl
@[simp] theorem wp_toI {i : Int} : Wp (toIntM [.int i]) S Q ↔ Q (.int i) S := wp_some rfl
@[simp] theorem wp_toIB {b : Bool} : Wp (toIntM [.bl b]) S Q ↔ Q (.int (if b then 1 else 0)) S := wp_some rfl
@[simp] theorem wp_abs {i : Int} : Wp (absM [.int i]) S Q ↔ Q (.int (if i < 0 then -i else i)) S := wp_some rfl
@[simp] theorem wp_lenT {ds : List D} : Wp (lenM [.tup ds]) S Q ↔ Q (.int ds.length) S := wp_some rfl
@[simp] theorem wp_lenL {ds : List D} : Wp (lenM [.lst ds]) S Q ↔ Q (.int ds.length) S := wp_some rfl
theorem wp_lenR {n : Nat} {ds : List D} (h : S.ob n = some (.lst ds)) : Wp (lenM [.ref n]) S Q ↔ Q (.int ds.length) S := wp_some (by unfold lenM items; simp only [h])
@[simp] theorem wp_tupT {ds : List D} : Wp (tupleM [.tup ds]) S Q ↔ Q (.tup ds) S := wp_some rfl
@[simp] theorem wp_tupL {ds : List D} : Wp (tupleM [.lst ds]) S Q ↔ Q (.tup ds) S := wp_some rfl
theorem wp_tupR {n : Nat} {ds : List D} (h : S.ob n = some (.lst ds)) : Wp (tupleM [.ref n]) S Q ↔ Q (.tup ds) S := wp_some (by unfold tupleM items; simp only [h])
theorem wp_ixT {ds : List D} {i : Int} {d : D} (h : atI ds i = some d) : Wp (ixM (.tup ds) (.int i)) S Q ↔ Q d S := wp_some (by unfold ixM items; simp only [h]; rfl)
theorem wp_ixL {ds : List D} {i : Int} {d : D} (h : atI ds i = some d) : Wp (ixM (.lst ds) (.int i)) S Q ↔ Q d S := wp_some (by unfold ixM items; simp only [h]; rfl)
theorem wp_ixR {n : Nat} {ds : List D} {i : Int} {d : D} (hn : S.ob n = some (.lst ds)) (h : atI ds i = some d) : Wp (ixM (.ref n) (.int i)) S Q ↔ Q d S := wp_some (by unfold ixM items; simp only [hn, h]; rfl)
@[simp] theorem wp_slT {ds : List D} {lo hi : Option Int} : Wp (slM (.tup ds) lo hi) S Q ↔ Q (.tup (cutD ds lo hi)) S := wp_some rfl
@[simp] theorem wp_slL {ds : List D} {lo hi : Option Int} : Wp (slM (.lst ds) lo hi) S Q ↔ Q (.lst (cutD ds lo hi)) S := wp_some rfl
@[simp] theorem wp_slO {ds : List D} {lo hi : Option Int} : Wp (slM (.rol ds) lo hi) S Q ↔ Q (.lst (cutD ds lo hi)) S := wp_some rfl
theorem wp_addL {a b : List D} (h : a.length + b.length ≤ 1000000) : Wp (addM (.lst a) (.lst b)) S Q ↔ Q (.lst (a ++ b)) S := wp_some (by unfold addM itemsL; simp only [if_pos (limP h)])
theorem wp_addT {a b : List D} (h : a.length + b.length ≤ 1000000) : Wp (addM (.tup a) (.tup b)) S Q ↔ Q (.tup (a ++ b)) S := wp_some (by unfold addM; simp only [if_pos (limP h)])
theorem wp_eq {a b : D} {p q : PyData} (h1 : pds S a = some p) (h2 : pds S b = some q) (h : p.depth ≤ 100) : Wp (eqM a b) S Q ↔ Q (.bl (PyData.eqv p q)) S := wp_some (by
  unfold eqM
  split
  · rename_i i j
    have e1 : pdT (.str i) = some p := h1
    have e2 : pdT (.str j) = some q := h2
    rw [pdT] at e1 e2
    split at e1
    · split at e2
      · cases e1; cases e2
        rw [PyData.eqv]
      · cases e2
    · cases e1
  · unfold eqM0; simp only [h1, h2, if_pos h])
theorem wp_ne {a b : D} {p q : PyData} (h1 : pds S a = some p) (h2 : pds S b = some q) (h : p.depth ≤ 100) : Wp (neM a b) S Q ↔ Q (.bl (!PyData.eqv p q)) S := wp_some (by
  unfold neM
  split
  · rename_i i j
    have e1 : pdT (.str i) = some p := h1
    have e2 : pdT (.str j) = some q := h2
    rw [pdT] at e1 e2
    split at e1
    · split at e2
      · cases e1; cases e2
        rw [PyData.eqv]
      · cases e2
    · cases e1
  · unfold neM0; simp only [h1, h2, if_pos h])
@[simp] theorem wp_eqS {i j : Str} : Wp (eqM (.str i) (.str j)) S Q ↔ Q (.bl (i == j)) S := wp_some rfl
theorem wp_eqI {i j : Int} : Wp (eqM (.int i) (.int j)) S Q ↔ Q (.bl (i == j)) S := by
  rw [wp_eq (p := .int i) (q := .int j) rfl rfl (Nat.zero_le _)]
  simp only [PyData.eqv]
theorem wp_put {n : Nat} {ds : List D} {k : Int} {j : Nat} {c : D} {QU : Unit → Sto → Prop} (h : S.ob n = some (.lst ds)) (hj : ixN ds.length k = some j) : Wp (putM (.ref n) (.int k) c) S QU ↔ QU () (S.set n (.lst (ds.set j c))) := wp_some (by unfold putM; simp only [h, hj])
theorem wp_get {n : Nat} {ds : List D} {k : Int} {j : Nat} {c : D} (h : S.ob n = some (.lst ds)) (hj : ixN ds.length k = some j) (hc : ds[j]? = some c) : Wp (getM (.ref n) (.int k)) S Q ↔ Q c S := wp_some (by unfold getM; simp only [h, hj, hc]; rfl)
theorem wp_ins {n : Nat} {ds : List D} {i : Int} {y : D} (h : S.ob n = some (.lst ds)) (hl : ds.length < 1000000) (h0 : 0 ≤ i) (h1 : i < 2 ^ 63) : Wp (insM (.ref n) [.int i, y]) S Q ↔ Q .non (S.set n (.lst (ds.take i.toNat ++ y :: ds.drop i.toNat))) :=
  wp_some (by unfold insM; simp only [h]; rw [if_pos ⟨Nat.lt_of_lt_of_le hl (by decide), h0, h1⟩])
/-! loops -/
theorem lc_pure {src : Src} {g : GM} {mt : EM Bool} {me : EM D} {t : D → Bool} {f : D → D} (ok : srcOk src S) : ∀ {ds : List D}, (∀ d ∈ ds, ∃ r1, g d rho = some r1 ∧ mt r1 S = some (t d, S) ∧ (t d = true → me r1 S = some (f d, S))) →
    lcGo src g mt me rho ds S = some ((ds.filter t).map f, S)
  | [], _ => by unfold lcGo; rw [if_pos ok]; rfl
  | d :: ds, h => by
    obtain ⟨r1, h1, h2, h3⟩ := h d List.mem_cons_self
    have ih := lc_pure (f := f) (t := t) ok (ds := ds) fun x hx => h x (List.mem_cons_of_mem _ hx)
    unfold lcGo
    rw [if_pos ok, h1, Option.bind_some]
    unfold bnd
    rw [h2]
    cases ht : t d with
    | true =>
      simp only [Option.bind_some, if_true, h3 ht, ih, ret, List.filter_cons_of_pos ht, List.map_cons]
    | false =>
      simp only [Option.bind_some, Bool.false_eq_true, if_false, ih]
      rw [List.filter_cons_of_neg (by rw [ht]; decide)]
theorem lc_inv {src : Src} {g : GM} {mt : EM Bool} {me : EM D} {I : Sto → Prop} {P : D → Prop} (ok : ∀ S, I S → srcOk src S) : ∀ {ds : List D} {S : Sto}, I S →
    (∀ d ∈ ds, ∃ r1, g d rho = some r1 ∧ ∀ S, I S → Wp (mt r1) S fun b S1 => b = true ∧ Wp (me r1) S1 fun y S2 => P y ∧ I S2) →
    Wp (lcGo src g mt me rho ds) S fun r S1 => r.length = ds.length ∧ (∀ y ∈ r, P y) ∧ I S1
  | [], S, i, _ => ⟨[], S, by unfold lcGo; rw [if_pos (ok S i)], rfl, (fun y hy => by cases hy), i⟩
  | d :: ds, S, i, h => by
    obtain ⟨r1, h1, h2⟩ := h d List.mem_cons_self
    obtain ⟨b, S1, e1, rfl, y, S2, e2, py, i2⟩ := h2 S i
    obtain ⟨r, S3, e3, hl, hp, i3⟩ := lc_inv (ds := ds) ok i2 fun x hx => h x (List.mem_cons_of_mem _ hx)
    refine ⟨y :: r, S3, ?_, by rw [List.length_cons, List.length_cons, hl], fun z hz => ?_, i3⟩
    · unfold lcGo
      rw [if_pos (ok S i), h1, Option.bind_some]
      unfold bnd
      simp only [e1, Option.bind_some, if_true, e2, e3, ret]
    · rcases List.mem_cons.mp hz with rfl | hz
      · exact py
      · exact hp z hz
theorem loop_inv {src : Src} {g : GM} {mb : SM} {I : Env → Sto → Prop} (ok : ∀ r S, I r S → srcOk src S) : ∀ {ds : List D} {rho : Env} {S : Sto}, I rho S →
    (∀ d ∈ ds, ∀ r S, I r S → ∃ r1, g d r = some r1 ∧ Wp (mb r1) S fun p S1 => p.1 = .nx ∧ I p.2 S1) →
    Wp (loopGo src g mb ds rho) S fun p S1 => p.1 = .nx ∧ I p.2 S1
  | [], rho, S, i, _ => ⟨(.nx, rho), S, by unfold loopGo; rw [if_pos (ok rho S i)], rfl, i⟩
  | d :: ds, rho, S, i, h => by
    obtain ⟨r1, h1, ⟨fl, r2⟩, S1, e1, h2, i2⟩ := h d List.mem_cons_self rho S i
    cases h2
    obtain ⟨p, S3, e3, hl, i3⟩ := loop_inv (ds := ds) ok i2 fun x hx => h x (List.mem_cons_of_mem _ hx)
    refine ⟨p, S3, ?_, hl, i3⟩
    unfold loopGo
    rw [if_pos (ok rho S i), h1, Option.bind_some]
    unfold bnd
    rw [e1]
    exact e3
/-- the walk's count told too -/
theorem loop_inv2 {src : Src} {g : GM} {mb : SM} {I : Nat → Env → Sto → Prop} {N : Nat} (ok : ∀ n r S, I n r S → srcOk src S) : ∀ {ds : List D} {n : Nat} {rho : Env} {S : Sto}, n + ds.length ≤ N → I n rho S →
    (∀ d ∈ ds, ∀ n r S, n < N → I n r S → ∃ r1, g d r = some r1 ∧ Wp (mb r1) S fun p S1 => p.1 = .nx ∧ I (n + 1) p.2 S1) →
    Wp (loopGo src g mb ds rho) S fun p S1 => p.1 = .nx ∧ I (n + ds.length) p.2 S1
  | [], n, rho, S, _, i, _ => ⟨(.nx, rho), S, by unfold loopGo; rw [if_pos (ok n rho S i)], rfl, i⟩
  | d :: ds, n, rho, S, hN, i, h => by
    rw [List.length_cons] at hN
    obtain ⟨r1, h1, ⟨fl, r2⟩, S1, e1, h2, i2⟩ := h d List.mem_cons_self n rho S (by omega) i
    cases h2
    obtain ⟨p, S3, e3, hl, i3⟩ := loop_inv2 (ds := ds) ok (by omega) i2 fun x hx => h x (List.mem_cons_of_mem _ hx)
    refine ⟨p, S3, ?_, hl, by rw [List.length_cons, Nat.add_comm ds.length 1, ← Nat.add_assoc]; exact i3⟩
    unfold loopGo
    rw [if_pos (ok n rho S i), h1, Option.bind_some]
    unfold bnd
    rw [e1]
    exact e3
end

/-! ### data that can be compared and shown -/
structure OkD (c n : Nat) (d : D) (p : PyData) : Prop where
  pd : pdT d = some p
  sh : p.showable = true
  dp : p.depth ≤ n
  wt : p.weight ≤ c
  si : p.intsShort 13 = true
theorem OkD.non {c n : Nat} : OkD c n .non .none := ⟨rfl, rfl, Nat.zero_le _, Nat.zero_le _, rfl⟩
theorem OkD.bl {c n : Nat} {b : Bool} : OkD c n (.bl b) (.bool b) := ⟨rfl, rfl, Nat.zero_le _, Nat.zero_le _, rfl⟩
theorem log_small {i : Int} (h1 : -999999999999 ≤ i) (h2 : i ≤ 999999999999) : i.natAbs.log2 < 40 := by
  by_cases h : i.natAbs = 0
  · rw [h]; decide
  · exact (Nat.log2_lt h).mpr (by
      have : (2 : Nat) ^ 40 = 1099511627776 := by decide
      omega)
theorem OkD.int {n : Nat} {i : Int} (h1 : -999999999999 ≤ i) (h2 : i ≤ 999999999999) : OkD 41 n (.int i) (.int i) := by
  have hl := log_small h1 h2
  refine ⟨rfl, ?_, Nat.zero_le _, ?_, ?_⟩
  · simp only [PyData.showable, decide_eq_true_eq]; omega
  · simp only [PyData.weight]
    split <;> omega
  · simp only [PyData.intsShort, decide_eq_true_eq]
    exact PyData.shown_int_le2 h1 h2
theorem OkD.mono {c c' n n' : Nat} {d : D} {p : PyData} (h : OkD c n d p) (hc : c ≤ c') (hn : n ≤ n') : OkD c' n' d p := ⟨h.pd, h.sh, Nat.le_trans h.dp hn, Nat.le_trans h.wt hc, h.si⟩
/-- a row of data, of together so much -/
structure OkL (c n : Nat) (ds : List D) (ps : List PyData) : Prop where
  pd : pdL ds = some ps
  sh : PyData.showableAll ps = true
  dp : PyData.depthAll ps ≤ n
  wt : PyData.weightAll ps ≤ c
  si : PyData.intsShortAll 13 ps = true
theorem OkL.nil {n : Nat} : OkL 0 n [] [] := ⟨rfl, rfl, Nat.zero_le _, Nat.le_refl _, rfl⟩
theorem OkL.cons {a b n : Nat} {d : D} {p : PyData} {ds : List D} {ps : List PyData} (h : OkD a n d p) (k : OkL b n ds ps) : OkL (a + 1 + b) n (d :: ds) (p :: ps) := by
  refine ⟨?_, ?_, ?_, ?_, ?_⟩
  · rw [pdL, h.pd, k.pd]; rfl
  · rw [PyData.showableAll, h.sh, k.sh]; rfl
  · rw [PyData.depthAll]; exact Nat.max_le.mpr ⟨h.dp, k.dp⟩
  · rw [PyData.weightAll]; have := h.wt; have := k.wt; omega
  · rw [PyData.intsShortAll, h.si, k.si]; rfl
theorem OkL.tup {c n : Nat} {ds : List D} {ps : List PyData} (h : OkL c n ds ps) : OkD c (n + 1) (.tup ds) (.tuple ps) :=
  ⟨by rw [pdT, h.pd]; rfl, by rw [PyData.showable]; exact h.sh, by rw [PyData.depth]; exact Nat.succ_le_succ h.dp, by rw [PyData.weight]; exact h.wt, by rw [PyData.intsShort]; exact h.si⟩
theorem OkL.lst {c n : Nat} {ds : List D} {ps : List PyData} (h : OkL c n ds ps) : OkD c (n + 1) (.lst ds) (.list ps) :=
  ⟨by rw [pdT, h.pd]; rfl, by rw [PyData.showable]; exact h.sh, by rw [PyData.depth]; exact Nat.succ_le_succ h.dp, by rw [PyData.weight]; exact h.wt, by rw [PyData.intsShort]; exact h.si⟩
theorem OkL.map {α : Type} {a n : Nat} {f : α → D} {g : α → PyData} : ∀ {l : List α}, (∀ x ∈ l, OkD a n (f x) (g x)) → OkL (l.length * (a + 1)) n (l.map f) (l.map g)
  | [], _ => by rw [List.length_nil, Nat.zero_mul]; exact .nil
  | x :: l, h => by
    have := OkL.cons (h x List.mem_cons_self) (OkL.map (l := l) fun y hy => h y (List.mem_cons_of_mem _ hy))
    rw [List.length_cons, Nat.add_mul, Nat.one_mul, Nat.add_comm]
    exact this
theorem OkD.pds {c n : Nat} {d : D} {p : PyData} (h : OkD c n d p) (S : Sto) : pds S d = some p := by
  have := h.pd
  cases d with
  | ref n => rw [pdT] at this; cases this
  | _ => exact this
section
variable {c n : Nat} {d : D} {p : PyData} {S : Sto} {Q : D → Sto → Prop}
theorem wp_repr (h : OkD c n d p) (hc : c ≤ 1048576) (hn : n ≤ 64) : Wp (reprM [d]) S Q ↔ Q (.str p.shown) S := by
  refine wp_some ?_
  have h13 : p.shown.length ≤ 15728653 := shown_le13 (by
    show (PyData.canLay0 p && decide (PyData.depth p ≤ 64) && decide (PyData.weight p ≤ 2 ^ 20)) = true
    rw [pdT_lay d p h.pd]
    simp only [Bool.true_and, Bool.and_eq_true, decide_eq_true_eq]
    exact ⟨Nat.le_trans h.dp hn, Nat.le_trans h.wt hc⟩) h.si
  have hd0 : dic0 [d] = false := by
    have hp := h.pd
    cases d with
    | dic ks ds => rw [pdT] at hp; cases hp
    | _ => rfl
  unfold reprM
  rw [hd0]
  simp only [Bool.false_eq_true, if_false]
  unfold reprM0
  simp only [h.pds S]
  rw [if_pos ⟨h.sh, Nat.le_trans h.dp (by omega), Nat.le_trans h13 (by decide)⟩]
theorem wp_eqSelf (h : OkD c n d p) (hn : n ≤ 64) : Wp (eqM d d) S Q ↔ Q (.bl true) S := by
  rw [wp_eq (h.pds S) (h.pds S) (Nat.le_trans h.dp (by omega)), PySem.SeqAt.eqv_refl p (pdT_lay d p h.pd)]
end
/-! ### rows -/
theorem eqvAll_ints : ∀ a b : List Int, PyData.eqvAll (a.map PyData.int) (b.map PyData.int) = decide (a = b)
  | [], [] => by rw [List.map_nil, PyData.eqvAll]; rfl
  | [], b :: bs => by rw [List.map_nil, List.map_cons, PyData.eqvAll]; rfl
  | a :: as, [] => by rw [List.map_nil, List.map_cons, PyData.eqvAll]; rfl
  | a :: as, b :: bs => by
    rw [List.map_cons, List.map_cons, PyData.eqvAll, eqvAll_ints as bs, PyData.eqv]
    by_cases h1 : a = b <;> by_cases h2 : as = bs <;> simp [h1, h2]
theorem eqv_row (a b : List Int) : PyData.eqv (rowP a) (rowP b) = decide (a = b) := by unfold rowP; rw [PyData.eqv, eqvAll_ints]
def Bd (B : Int) (r : List Int) : Prop := ∀ x ∈ r, -B ≤ x ∧ x ≤ B
theorem OkD.row {n : Nat} {r : List Int} (h : Bd 999999999999 r) : OkD (r.length * 42) (n + 1) (rowD r) (rowP r) := (OkL.map fun x hx => OkD.int (h x hx).1 (h x hx).2).tup
theorem pdL_rows : ∀ rs : List (List Int), pdL (rs.map rowD) = some (rs.map rowP)
  | [] => rfl
  | r :: rs => by
    have h : ∀ l : List Int, pdL (l.map D.int) = some (l.map PyData.int) := by
      intro l
      induction l with
      | nil => rfl
      | cons x l ih => rw [List.map_cons, pdL, pdT, ih]; rfl
    rw [List.map_cons, pdL, pdL_rows rs]
    unfold rowD rowP
    rw [pdT, h]; rfl
theorem pdL_ints (l : List Int) : pdL (l.map D.int) = some (l.map PyData.int) := by
  induction l with
  | nil => rfl
  | cons x l ih => rw [List.map_cons, pdL, pdT, ih]; rfl
theorem depth_ints : ∀ l : List Int, PyData.depthAll (l.map PyData.int) = 0
  | [] => rfl
  | x :: l => by rw [List.map_cons, PyData.depthAll, depth_ints l]; rfl
theorem depth_row (r : List Int) : (rowP r).depth = 1 := by unfold rowP; rw [PyData.depth, depth_ints]
theorem pdT_row (r : List Int) : pdT (rowD r) = some (rowP r) := by unfold rowD rowP; rw [pdT, pdL_ints]; rfl
section
variable {S : Sto} {Q : D → Sto → Prop}
theorem wp_eqRow {a b : List Int} : Wp (eqM (rowD a) (rowD b)) S Q ↔ Q (.bl (decide (a = b))) S := by
  rw [wp_eq (p := rowP a) (q := rowP b) (show pds S (rowD a) = _ from pdT_row a) (show pds S (rowD b) = _ from pdT_row b) (by rw [depth_row]; omega), eqv_row]
theorem wp_neRow {a b : List Int} : Wp (neM (rowD a) (rowD b)) S Q ↔ Q (.bl (!decide (a = b))) S := by
  rw [wp_ne (p := rowP a) (q := rowP b) (show pds S (rowD a) = _ from pdT_row a) (show pds S (rowD b) = _ from pdT_row b) (by rw [depth_row]; omega), eqv_row]
theorem any_row (a : List Int) (rs : List (List Int)) : ((rs.map rowP).any fun z => PyData.eqv z (rowP a)) = decide (a ∈ rs) := by
  induction rs with
  | nil => rfl
  | cons r rs ih =>
    rw [List.map_cons, List.any_cons, ih, eqv_row]
    by_cases h1 : r = a
    · subst h1; simp
    · by_cases h2 : a ∈ rs
      · simp [h2]
      · simp [h1, h2, Ne.symm h1]
theorem wp_inRow {a : List Int} {rs : List (List Int)} : Wp (inM (rowD a) (.tup (rs.map rowD))) S Q ↔ Q (.bl (decide (a ∈ rs))) S := by
  refine wp_some ?_
  have h1 : pds S (rowD a) = some (rowP a) := pdT_row a
  have h2 : pds S (.tup (rs.map rowD)) = some (.tuple (rs.map rowP)) := by
    show pdT (.tup (rs.map rowD)) = _
    rw [pdT, pdL_rows]; rfl
  unfold inM inL
  simp only [h1, h2]
  rw [if_pos (by rw [depth_row]; omega), any_row]; rfl
theorem any_int (a : Int) (l : List Int) : ((l.map PyData.int).any fun z => PyData.eqv z (.int a)) = decide (a ∈ l) := by
  induction l with
  | nil => rfl
  | cons r rs ih =>
    rw [List.map_cons, List.any_cons, ih, PyData.eqv]
    by_cases h1 : r = a
    · subst h1; simp
    · by_cases h2 : a ∈ rs
      · simp [h2]
      · simp [h1, h2, Ne.symm h1]
theorem wp_inInt {a : Int} {l : List Int} : Wp (inM (.int a) (.lst (l.map D.int))) S Q ↔ Q (.bl (decide (a ∈ l))) S := by
  refine wp_some ?_
  have h2 : pds S (.lst (l.map D.int)) = some (.list (l.map PyData.int)) := by
    show pdT (.lst (l.map D.int)) = _
    rw [pdT, pdL_ints]; rfl
  unfold inM inL
  simp only [h2, show pds S (.int a) = some (.int a) from rfl]
  rw [if_pos (show (PyData.int a).depth ≤ 100 by rw [PyData.depth]; omega), any_int]; rfl
/-- a list against the empty one -/
theorem wp_neNilL {l : List D} {ps : List PyData} (h : pdL l = some ps) (hd : PyData.depthAll ps ≤ 50) : Wp (neM (.lst l) (.lst [])) S Q ↔ Q (.bl (!l.isEmpty)) S := by
  rw [wp_ne (p := .list ps) (q := .list []) (by show pdT _ = _; rw [pdT, h]; rfl) (by show pdT _ = _; rw [pdT, pdL]; rfl) (by rw [PyData.depth]; omega)]
  have e := pdL_len h
  cases l with
  | nil =>
    cases ps with
    | nil => simp [PyData.eqv, PyData.eqvAll]
    | cons _ _ => cases e
  | cons _ _ =>
    cases ps with
    | nil => cases e
    | cons _ _ => simp [PyData.eqv, PyData.eqvAll]
theorem wp_neNilT {l : List D} {ps : List PyData} (h : pdL l = some ps) (hd : PyData.depthAll ps ≤ 50) : Wp (neM (.tup l) (.tup [])) S Q ↔ Q (.bl (!l.isEmpty)) S := by
  rw [wp_ne (p := .tuple ps) (q := .tuple []) (by show pdT _ = _; rw [pdT, h]; rfl) (by show pdT _ = _; rw [pdT, pdL]; rfl) (by rw [PyData.depth]; omega)]
  have e := pdL_len h
  cases l with
  | nil =>
    cases ps with
    | nil => simp [PyData.eqv, PyData.eqvAll]
    | cons _ _ => cases e
  | cons _ _ =>
    cases ps with
    | nil => cases e
    | cons _ _ => simp [PyData.eqv, PyData.eqvAll]
theorem depth_rows : ∀ rs : List (List Int), PyData.depthAll (rs.map rowP) ≤ 1
  | [] => Nat.zero_le _
  | r :: rs => by rw [List.map_cons, PyData.depthAll, depth_row]; exact Nat.max_le.mpr ⟨Nat.le_refl _, depth_rows rs⟩
/-- sorted of rows that are not empty -/
theorem sortL_rows {rs : List (List Int)} (h : ∀ r ∈ rs, r ≠ []) : sortL (rs.map rowD) = some ((sortRows rs).map rowD) := by
  unfold sortL
  rw [pdL_rows]
  have alI : ∀ a b : List Int, PySem.W.alikeAll (a.map PyData.int) (b.map PyData.int) = true := by
    intro a
    induction a with
    | nil => intro b; rw [List.map_nil, PySem.W.alikeAll]
    | cons x a ih =>
      intro b
      cases b with
      | nil => rw [List.map_nil, List.map_cons, PySem.W.alikeAll]
      | cons y b => rw [List.map_cons, List.map_cons, PySem.W.alikeAll, ih, PySem.W.alike]; rfl
  simp only
  rw [if_pos]
  · unfold sortBy sortRows
    rw [List.zip_map', ← List.map_mergeSort (r := rowLe) (f := fun r => (rowD r, rowP r)), List.map_map]
    · rfl
    · intro a _ b _; rfl
  · rw [Bool.and_eq_true, Bool.and_eq_true]
    refine ⟨⟨?_, ?_⟩, ?_⟩
    · unfold alikeB
      rw [List.all_eq_true]
      intro p hp
      rw [List.all_eq_true]
      intro q hq
      obtain ⟨a, _, rfl⟩ := List.mem_map.mp hp
      obtain ⟨b, _, rfl⟩ := List.mem_map.mp hq
      unfold rowP
      rw [PySem.W.alike]
      exact alI a b
    · unfold sortB
      rw [Bool.or_eq_true]
      left
      rw [List.all_eq_true]
      intro p hp
      obtain ⟨a, ha, rfl⟩ := List.mem_map.mp hp
      cases a with
      | nil => exact absurd rfl (h [] ha)
      | cons x a => rfl
    · rw [List.all_eq_true]
      intro p hp
      obtain ⟨a, ha, rfl⟩ := List.mem_map.mp hp
      rw [depth_row]; rfl
theorem wp_sortL {rs : List (List Int)} (h : ∀ r ∈ rs, r ≠ []) : Wp (sortM [.lst (rs.map rowD)]) S Q ↔ Q (.lst ((sortRows rs).map rowD)) S := wp_some (by unfold sortM items; simp only [sortL_rows h]; rfl)
theorem wp_sortT {rs : List (List Int)} (h : ∀ r ∈ rs, r ≠ []) : Wp (sortM [.tup (rs.map rowD)]) S Q ↔ Q (.lst ((sortRows rs).map rowD)) S := wp_some (by unfold sortM items; simp only [sortL_rows h]; rfl)
theorem wp_ssetI {l : List Int} (h : l.length < 64) : Wp (ssetM (.lst (l.map D.int))) S Q ↔ Q (.lst ((sortInts (dedup l)).map D.int)) S := wp_some (by unfold ssetM itemsL ssetL; simp only [intsD_map, if_pos h]; rfl)
theorem wp_ssetR {rs : List (List Int)} (h : rs.length < 64) (hn : ∀ r ∈ rs, r ≠ []) : Wp (ssetM (.lst (rs.map rowD))) S Q ↔ Q (.lst ((sortRows (dedup rs)).map rowD)) S := by
  refine wp_some ?_
  cases rs with
  | nil =>
    unfold ssetM itemsL ssetL sortInts sortRows
    simp [intsD, dedup]
  | cons r rs =>
    have e : intsD ((r :: rs).map rowD) = none := rfl
    unfold ssetM itemsL ssetL
    simp only [e, rowsD_map]
    rw [if_pos ⟨h, by
      rw [List.all_eq_true]
      intro x hx
      cases x with
      | nil => exact absurd rfl (hn [] hx)
      | cons _ _ => rfl⟩]
    rfl
end
end Mn

set_option maxRecDepth 100000
set_option maxHeartbeats 1000000
/-! Mn: enumerate over a tuple, zip of lists that may change, extend. -/
namespace Mn
open PySem PySem.Spec PyProof.Rows L2 PySem.W

/-! ### enumerate, zip -/
def pairs0 (ds : List D) : List D := ds.zipIdx.map fun p => D.tup [.int (p.2 : Nat), p.1]
theorem pairs0_at {ds : List D} {i : Nat} {d : D} (h : (pairs0 ds)[i]? = some d) : ∃ c, ds[i]? = some c ∧ d = .tup [.int (i : Nat), c] := by
  unfold pairs0 at h
  simp only [List.getElem?_map, List.getElem?_zipIdx, Option.map_map] at h
  cases he : ds[i]? with
  | none => rw [he] at h; cases h
  | some c =>
    rw [he] at h
    exact ⟨c, rfl, by simpa using h.symm⟩
theorem pairs0_len {ds : List D} : (pairs0 ds).length = ds.length := by unfold pairs0; simp
def enumM (ds : List D) (S : Sto) : Option (Src × Sto) := match ds with
  | [d] => (srcOf d S).map fun s => (⟨pairs0 s.ds, s.n⟩, S)
  | _ => none
theorem i_enum {X : Cx} {e : Expr} {m : EM (List D)} {p pos tpos : Pos} {elts : List Expr} {kk : Nat} (hm : X.mg "enumerate" = none) (ha : PA X [e] (rdA X.K m)) (hg : Gl X "enumerate" := by rfl) (hs : starEach [e] X.env = [(false, eval e X.env)] := by rfl) :
    PI X (.Tuple elts kk tpos) (.Call (.Name "enumerate" p) [e] [] pos) (rdI X.K fun rho => bnd (m rho) enumM) :=
  PI.weak (pi_enumF hg hm ha hs) fun sg H R h => by
    obtain ⟨ph, S, rho, src, S', s, en, e, post⟩ := h
    obtain ⟨ds, S1, e1, e2⟩ := bnd_inv e
    refine ⟨ph, S, rho, ds, S1, s, en, e1, fun ph1 H1 xs E1 s1 r1 => ?_⟩
    unfold enumM at e2
    split at e2
    · rename_i d
      obtain ⟨x, rfl, rx⟩ := RepL.one r1
      cases e3 : srcOf d S1 with
      | none => rw [e3] at e2; cases e2
      | some sr =>
        rw [e3] at e2; cases e2
        obtain ⟨a, rfl, k, ok⟩ := listAt s1 rx e3
        rcases k with k | k
        · obtain ⟨ys, hq, _⟩ := k ph1 _ H1 Ext.refl.toExt0 s1 ok
          refine ⟨a, ys, rfl, .inl ⟨hq, post ph1 H1 _ E1 s1 ⟨fun ph2 S2 H2 E2 s2 ok2 i d hd => ?_, fun ph2 S2 H2 E2 s2 ok2 i hi => ?_⟩⟩⟩
          · obtain ⟨zs, hz, rz⟩ := k ph2 S2 H2 E2 s2 ok2
            obtain ⟨c, hc, rfl⟩ := pairs0_at hd
            obtain ⟨z, h1, h2⟩ := rz.get hc
            refine ⟨⟨zs, z, hz, h1⟩, fun y H3 ⟨T, ob, w, h3, h4, hob, h5, h6⟩ => ?_⟩
            subst h3 h5
            have h7 := h6 zs hz
            rw [h1] at h7; cases h7
            refine ⟨Ext.tree s2 h4, s2.tree h4, ?_⟩
            rw [Rep]
            exact ⟨T, _, rfl, TAt.new hob.1 hob.2 (s2.fresh h4), .cons (by rw [Rep]) (.cons (h2.ext (Ext.tree s2 h4)) .nil)⟩
          · obtain ⟨zs, hz, rz⟩ := k ph2 S2 H2 E2 s2 ok2
            exact ⟨zs, hz, by rw [rz.len, ← pairs0_len]; exact hi⟩
        · obtain ⟨ys, hq, _⟩ := k ph1 _ H1 Ext.refl.toExt0 s1 ok
          refine ⟨a, ys, rfl, .inr ⟨hq, post ph1 H1 _ E1 s1 ⟨fun ph2 S2 H2 E2 s2 ok2 i d hd => ?_, fun ph2 S2 H2 E2 s2 ok2 i hi => ?_⟩⟩⟩
          · obtain ⟨zs, hz, rz⟩ := k ph2 S2 H2 E2 s2 ok2
            obtain ⟨c, hc, rfl⟩ := pairs0_at hd
            obtain ⟨z, h1, h2⟩ := rz.get hc
            refine ⟨⟨zs, z, hz, h1⟩, fun y H3 ⟨T, ob, w, h3, h4, hob, h5, h6⟩ => ?_⟩
            subst h3 h5
            have h7 := h6 zs hz
            rw [h1] at h7; cases h7
            refine ⟨Ext.tree s2 h4, s2.tree h4, ?_⟩
            rw [Rep]
            exact ⟨T, _, rfl, TAt.new hob.1 hob.2 (s2.fresh h4), .cons (by rw [Rep]) (.cons (h2.ext (Ext.tree s2 h4)) .nil)⟩
          · obtain ⟨zs, hz, rz⟩ := k ph2 S2 H2 E2 s2 ok2
            exact ⟨zs, hz, by rw [rz.len, ← pairs0_len]; exact hi⟩
    · cases e2
def pairs2 (ds es : List D) : List D := (ds.zip es).map fun p => D.tup [p.1, p.2]
theorem listAtB {K : PySem.W.Frag} {ph : Ph} {S : Sto} {H : Hp} {d : D} {src : Src} {v : V} (s : Sim K ph S H) (r : Rep K ph S H d v) (e : srcOf d S = some src) :
    ∃ a c, v = .ref a ∧ (∀ ph1 S1 H1, Ext0 ph S H ph1 S1 H1 → Sim K ph1 S1 H1 → srcOk src S1 → ∃ xs, SqB c K H1 a xs ∧ RepL K ph1 S1 H1 src.ds xs) ∧ srcOk src S := by
  obtain ⟨a, h1, k | k, ok⟩ := listAt s r e
  · exact ⟨a, true, h1, k, ok⟩
  · exact ⟨a, false, h1, k, ok⟩
def zipM (ds : List D) (S : Sto) : Option (Src × Sto) := match ds with
  | [c, d] => match srcOf c S, srcOf d S with
    | some a, some b => some (⟨pairs2 a.ds b.ds, a.n ++ b.n⟩, S)
    | _, _ => none
  | _ => none
theorem i_zip {X : Cx} {e e2 : Expr} {m : EM (List D)} {p pos tpos : Pos} {elts : List Expr} {kk : Nat} (hm : X.mg "zip" = none) (ha : PA X [e, e2] (rdA X.K m)) (hg : Gl X "zip" := by rfl) (hs : starEach [e, e2] X.env = (false, eval e X.env) :: starEach [e2] X.env := by rfl) (hpl : (backTo pos (starEach [e2] X.env)).any (·.1) = false := by rfl) :
    PI X (.Tuple elts kk tpos) (.Call (.Name "zip" p) [e, e2] [] pos) (rdI X.K fun rho => bnd (m rho) zipM) :=
  PI.weak (pi_zipB hg hm ha hs hpl) fun sg H R h => by
    obtain ⟨ph, S, rho, src, S', s, en, e, post⟩ := h
    obtain ⟨ds, S1, e1, e2⟩ := bnd_inv e
    refine ⟨ph, S, rho, ds, S1, s, en, e1, fun ph1 H1 xs E1 s1 r1 => ?_⟩
    unfold zipM at e2
    split at e2
    · rename_i c d
      obtain ⟨x, y, rfl, rx, ry⟩ := RepL.two r1
      split at e2
      · rename_i sa sb hc hd
        obtain ⟨a, b1, rfl, k, ok⟩ := listAtB s1 rx hc
        obtain ⟨b, b2, rfl, k2, ok2⟩ := listAtB s1 ry hd
        obtain ⟨ys, hq, _⟩ := k ph1 _ H1 Ext.refl.toExt0 s1 ok
        obtain ⟨ys2, hq2, _⟩ := k2 ph1 _ H1 Ext.refl.toExt0 s1 ok2
        cases e2
        have oka : ∀ {S2}, srcOk ⟨pairs2 sa.ds sb.ds, sa.n ++ sb.n⟩ S2 → srcOk sa S2 := fun h p hp => h p (List.mem_append_left _ hp)
        have okb : ∀ {S2}, srcOk ⟨pairs2 sa.ds sb.ds, sa.n ++ sb.n⟩ S2 → srcOk sb S2 := fun h p hp => h p (List.mem_append_right _ hp)
        refine ⟨a, b, b1, b2, ys, ys2, rfl, hq, hq2, post ph1 H1 _ E1 s1 ⟨fun ph2 S2 H2 E2 s2 okz i d hd => ?_, fun ph2 S2 H2 E2 s2 okz i hi => ?_⟩⟩
        · obtain ⟨zs, hz, rz⟩ := k ph2 S2 H2 E2 s2 (oka okz)
          obtain ⟨zs2, hz2, rz2⟩ := k2 ph2 S2 H2 E2 s2 (okb okz)
          have hd' : (pairs2 sa.ds sb.ds)[i]? = some d := hd
          unfold pairs2 at hd'
          rw [List.getElem?_map] at hd'
          cases hzz : (sa.ds.zip sb.ds)[i]? with
          | none => rw [hzz] at hd'; cases hd'
          | some pr =>
            rw [hzz] at hd'; cases hd'
            obtain ⟨g1, g2⟩ := List.getElem?_zip_eq_some.mp hzz
            obtain ⟨z, h1, h2⟩ := rz.get g1
            obtain ⟨z2, h12, h22⟩ := rz2.get g2
            refine ⟨⟨zs, zs2, z, z2, hz, hz2, h1, h12⟩, fun y H3 ⟨T, ob, w, w2, h3, h4, hob, h5, h6, h62⟩ => ?_⟩
            subst h3 h5
            have h7 := h6 zs hz
            rw [h1] at h7; cases h7
            have h8 := h62 zs2 hz2
            rw [h12] at h8; cases h8
            refine ⟨Ext.tree s2 h4, s2.tree h4, ?_⟩
            rw [Rep]
            exact ⟨T, _, rfl, TAt.new hob.1 hob.2 (s2.fresh h4), .cons (h2.ext (Ext.tree s2 h4)) (.cons (h22.ext (Ext.tree s2 h4)) .nil)⟩
        · obtain ⟨zs, hz, rz⟩ := k ph2 S2 H2 E2 s2 (oka okz)
          obtain ⟨zs2, hz2, rz2⟩ := k2 ph2 S2 H2 E2 s2 (okb okz)
          refine ⟨zs, zs2, hz, hz2, ?_⟩
          rw [rz.len, rz2.len]
          have hi' : (pairs2 sa.ds sb.ds).length ≤ i := hi
          unfold pairs2 at hi'
          rw [List.length_map, List.length_zip] at hi'
          omega
      · cases e2
    · cases e2

/-! ### extend -/
def extM (o : D) (as : List D) : M D := fun S => match o, as with
  | .ref n, [y] => match S.ob n, itemsL y S with
    | some (.lst ds), some es => if ds.length + es.length ≤ lim then some (.non, S.set n (.lst (ds ++ es))) else none
    | _, _ => none
  | _, _ => none
theorem ext_ok {K : PySem.W.Frag} {ph : Ph} {S : Sto} {H : Hp} {x : V} {xs : List V} {dx : D} {dxs : List D} {d : D} {S' : Sto} {Q : VK} (s : Sim K ph S H) (rx : Rep K ph S H dx x) (rxs : RepL K ph S H dxs xs) (e : extM dx dxs S = some (d, S')) (post : PostE K ph S H Q d S') : rExtend x xs H Q := by
  unfold extM at e
  split at e
  · rename_i n y
    split at e
    · rename_i ds es hd he
      split at e
      · rename_i hl
        cases e
        obtain ⟨ys, rfl, h1, h2, h3⟩ := ref_at s rx hd
        obtain ⟨v, rfl, rv⟩ := RepL.one rxs
        obtain ⟨b, zs, rfl, k1, k2⟩ := itemsL_of s rv he
        obtain ⟨E, s2⟩ := put_at s h3 (h2.app k2)
        exact ⟨_, b, ys, zs, rfl, rfl, h1, k1, by rw [h2.len, k2.len]; exact hl, post _ _ _ E s2 (by rw [Rep])⟩
      · cases e
    · cases e
  · cases e
theorem e_extend {X : Cx} {o e : Expr} {apos cpos : Pos} {mo : EM D} {ma : EM (List D)} (ho : PE X o (rdE X.K mo)) (ha : PA X [e] (rdA X.K ma))
    (hbase : attributeBase o "extend" X.env (eval o X.env) = eval o X.env := by rfl)
    (hfew : ((backTo cpos (starEach [e] X.env)).all (fun x => !x.1) && (backToKw cpos (keywordEach [] X.env)).all (fun x => x.1.isSome)
      && decide ([e].length + ([] : List Keyword).length + (if ([] : List Keyword).isEmpty then 0 else 1) < 30)) = true := by rfl)
    (hline : (apos.endLine == cpos.line) = true := by rfl) (hs : starEach [e] X.env = (false, eval e X.env) :: starEach [] X.env := by rfl) (hplain : (backTo cpos (starEach [] X.env)).any (·.1) = false := by rfl) :
    PE X (.Call (.Attribute o "extend" apos) [e] [] cpos) (rdE X.K (mMet mo ma extM)) := e_met mt_extend (fun _ _ _ _ _ _ _ _ _ _ s rx rxs e p => ext_ok s rx rxs e p) PySem.F.slot_list_extend ho ha PySem.F.type_list_extend hbase hfew hline hs hplain
end Mn

set_option maxRecDepth 100000
set_option maxHeartbeats 1000000
/-! Mn: isinstance of a built-in type, max and min of two, index of a name in a tuple. -/
namespace Mn
open PySem PySem.Spec PyProof.Rows L2

/-- the type's name of data that isinstance is asked of -/
def tyN (S : Sto) : D → Option String
  | .non => some "NoneType"
  | .bl _ => some "bool"
  | .int _ => some "int"
  | .str _ => some "str"
  | .tup _ => some "tuple"
  | .lst _ => some "list"
  | .rol _ => none
  | .dic _ _ => some "dict"
  | .ref n => match S.ob n with
    | some (.lst _) => some "list"
    | some (.dic _ _) => some "dict"
    | none => none
theorem tyN_of {K : PySem.W.Frag} {ph : Ph} {S : Sto} {H : Hp} {d : D} {v : V} {t : String} (s : Sim K ph S H) (r : Rep K ph S H d v) (h : tyN S d = some t) : TyX K H v (.type t) := by
  cases d with
  | non => cases h; obtain rfl := r.nonE; exact .base .non
  | bl b => cases h; obtain rfl := r.blE; exact .base (.bl b)
  | int i => cases h; obtain rfl := r.intE; exact .base (.int i)
  | str x => cases h; obtain rfl := r.strE; exact .base (.str x)
  | tup ds =>
    cases h
    obtain ⟨a, xs, rfl, h1, _⟩ := r.tupE
    rcases h1 with ⟨⟨o, h1, _⟩, _⟩ | ⟨_, h1⟩
    · exact .fTuple h1
    · rcases h1 with (h1 | ⟨o, h1⟩) | ⟨o, its, n, hk, hc, _⟩
      · cases h1
      · cases h1
      · exact .kTuple hk hc
  | lst ds =>
    cases h
    obtain ⟨a, xs, rfl, h1, _⟩ := r.lstE
    exact .base (.lst h1.1)
  | rol ds => cases h
  | dic ks ds =>
    cases h
    obtain ⟨a, kvs, rfl, h1, _⟩ := r.dicE
    exact .base (.dK h1.1)
  | ref n =>
    obtain ⟨_, rfl⟩ := r.refE
    unfold tyN at h
    simp only at h
    split at h
    · rename_i ds e
      cases h
      obtain ⟨xs, h1, _⟩ := s.ok n _ e
      exact .base (.lst h1)
    · rename_i ks ds e
      cases h
      obtain ⟨kvs, h1, _⟩ := s.ok n _ e
      exact .base (.dK h1)
    · cases h
def isiM (T : String) (d : D) : M D := fun S => match tyN S d with
  | some t => (kitB t T).map fun b => (.bl b, S)
  | none => none
section
variable {X : Cx}
theorem e_isi {T : String} {x : Str} {e : Expr} {me : EM D} {p p2 pos : Pos} (hm : X.mg "isinstance" = none) (hm2 : X.mg x = none) (he : PE X e (rdE X.K me)) (hv : bootBuiltins x = some (.type T)) (hg : Gl X "isinstance" := by rfl) (hg2 : Gl X x := by rfl) (hn : x ≠ "__name__" := by decide) (hd : (x == ("__debug__" : Str)) = false := by decide)
    (na : starEach [e, .Name x p2] X.env = (false, eval e X.env) :: starEach [.Name x p2] X.env := by rfl) (nb : starEach [.Name x p2] X.env = (false, eval (.Name x p2) X.env) :: starEach [] X.env := by rfl) (hpl : (backTo pos (starEach [.Name x p2] X.env)).any (·.1) = false := by rfl) :
    PE X (.Call (.Name "isinstance" p) [e, .Name x p2] [] pos) (rdE X.K (mUn (isiM T) me)) := by
  refine PE.weak (pe_callB (id := "isinstance") call_isi hg hm (by decide +kernel) (pa_cons he (pa_cons (pe_bltn (v := V.ty T) hg2 hm2 hv rfl hn hd) pa_nil nb) na) (by decide) (by decide) na hpl) fun sg H Q h => ?_
  obtain ⟨ph, S, rho, d, S', s, en, e1, post⟩ := h
  obtain ⟨a, S1, e2, e3⟩ := bnd_inv e1
  refine ⟨ph, S, rho, a, S1, s, en, e2, fun ph1 H1 v E1 s1 r1 => ?_⟩
  unfold isiM at e3
  split at e3
  · rename_i t ht
    cases hk : kitB t T with
    | none => rw [hk] at e3; cases e3
    | some b =>
      rw [hk] at e3; cases e3
      exact ⟨v, .ty T, .type t, .type T, b, rfl, .ty T, tyN_of s1 r1 ht, kit_ty hk, (post.of E1).now s1 (by rw [Rep])⟩
  · cases e3
end
def max2M (ds : List D) : M D := fun S => match ds with
  | [.int i, .int j] => some (.int (if j > i then j else i), S)
  | _ => none
def min2M (ds : List D) : M D := fun S => match ds with
  | [.int i, .int j] => some (.int (if j < i then j else i), S)
  | _ => none
theorem c_max2 {K : PySem.W.Frag} : CaM K (fun xs H Q => ∃ i j, xs = [.int i, .int j] ∧ Q (.int (if j > i then j else i)) H) max2M := by
  intro ph S H xs dxs d S' Q s rx e post
  unfold max2M at e
  split at e
  · cases e
    obtain ⟨x, y, rfl, r1, r2⟩ := RepL.two rx
    exact ⟨_, _, by rw [r1.intE, r2.intE], post.now s (by rw [Rep])⟩
  · cases e
theorem c_min2 {K : PySem.W.Frag} : CaM K (fun xs H Q => ∃ i j, xs = [.int i, .int j] ∧ Q (.int (if j < i then j else i)) H) min2M := by
  intro ph S H xs dxs d S' Q s rx e post
  unfold min2M at e
  split at e
  · cases e
    obtain ⟨x, y, rfl, r1, r2⟩ := RepL.two rx
    exact ⟨_, _, by rw [r1.intE, r2.intE], post.now s (by rw [Rep])⟩
  · cases e
end Mn

set_option maxRecDepth 100000
set_option maxHeartbeats 1000000
/-! Mn: index of a tuple of strs. -/
namespace Mn
open PySem PySem.Spec PyProof.Rows L2 PySem.W
def strsOf : List D → Option (List Str)
  | [] => some []
  | .str x :: r => (strsOf r).map (x :: ·)
  | _ => none
theorem strsOf_of {K : PySem.W.Frag} {ph : Ph} {S : Sto} {H : Hp} : ∀ {ds : List D} {ys : List Str} {xs : List V}, strsOf ds = some ys → RepL K ph S H ds xs → xs = ys.map V.str
  | [], ys, xs, h, r => by
    cases h
    rw [RepL] at r; exact r
  | d :: ds, ys, xs, h, r => by
    rw [RepL] at r
    obtain ⟨x, r1, rfl, h1, h2⟩ := r
    cases d with
    | str z =>
      obtain rfl := h1.strE
      unfold strsOf at h
      cases e : strsOf ds with
      | none => rw [e] at h; cases h
      | some zs =>
        rw [e] at h
        cases h
        rw [strsOf_of e h2]
        rfl
    | _ => cases h
theorem strsOf_map (ys : List Str) : strsOf (ys.map D.str) = some ys := by
  induction ys with
  | nil => rfl
  | cons y r ih => rw [List.map_cons, strsOf, ih]; rfl
def idxT (ds as : List D) : M D := fun S => match strsOf ds, as with
  | some ys, [.str z] => match ys.findIdx? (fun y => decide (y = z)) with
    | some j => some (.int (j : Nat), S)
    | none => none
  | _, _ => none
def mTIdx (mo : EM D) (ma : EM (List D)) : EM D := fun rho => bnd (mo rho) fun o S => match o with
  | .tup ds => bnd (ma rho) (fun as => idxT ds as) S
  | _ => none
theorem e_tidx {X : Cx} {o e : Expr} {apos cpos : Pos} {mo : EM D} {ma : EM (List D)} (ho : PE X o (rdE X.K mo)) (ha : PA X [e] (rdA X.K ma))
    (hbase : attributeBase o ("index" : Str) X.env (eval o X.env) = eval o X.env := by rfl)
    (hfew : ((backTo cpos (starEach [e] X.env)).all (fun x => !x.1) && (backToKw cpos (keywordEach [] X.env)).all (fun x => x.1.isSome)
      && decide ([e].length + ([] : List Keyword).length + (if ([] : List Keyword).isEmpty then 0 else 1) < 30)) = true := by rfl)
    (hline : (apos.endLine == cpos.line) = true := by rfl) (hs : starEach [e] X.env = (false, eval e X.env) :: starEach [] X.env := by rfl) (hplain : (backTo cpos (starEach [] X.env)).any (·.1) = false := by rfl) :
    PE X (.Call (.Attribute o ("index" : Str) apos) [e] [] cpos) (rdE X.K (mTIdx mo ma)) :=
  PE.weak (pe_bmT PySem.F.plainAttrs_tuple PySem.F.slot_tuple_index PySem.F.type_tuple_index mt_tup_index ho ha hbase hfew hline hs hplain) fun sg H Q h => by
    obtain ⟨ph, S, rho, d, S', s, en, e, post⟩ := h
    obtain ⟨o, S1, e1, e2⟩ := bnd_inv e
    split at e2
    · rename_i ds
      obtain ⟨as, S2, e3, e4⟩ := bnd_inv e2
      refine ⟨ph, S, rho, _, S1, s, en, e1, fun ph1 H1 x E1 s1 r1 => ?_⟩
      obtain ⟨a, xs, rfl, h1, h2⟩ := r1.tupE
      refine ⟨⟨a, xs, rfl, h1.tf⟩, ph1, S1, rho, as, S2, s1, en.ext E1, e3, fun ph2 H2 ws E2 s2 r2 => ?_⟩
      unfold idxT at e4
      split at e4
      · rename_i ys z hy
        split at e4
        · rename_i j hj
          cases e4
          obtain ⟨w, rfl, rw1⟩ := r2.one
          obtain rfl := rw1.strE
          have hx : xs = ys.map V.str := strsOf_of hy h2
          subst hx
          obtain ⟨hlt, hp, hno⟩ := List.findIdx?_eq_some_iff_getElem.mp hj
          refine ⟨a, ys, z, j, rfl, rfl, (h1.ext E2).sq, ?_, fun m hm hq => ?_, post ph2 H2 _ (E1.trans E2) s2 (by rw [Rep])⟩
          · rw [List.getElem?_eq_getElem hlt]
            exact congrArg some (of_decide_eq_true hp)
          · obtain ⟨hl, hq'⟩ := List.getElem?_eq_some_iff.mp hq
            exact hno m hm (decide_eq_true hq')
        · cases e4
      · cases e4
    · cases e2
end Mn

set_option maxRecDepth 100000
set_option maxHeartbeats 1000000
/-! Mn: the empty dict's display, max and min of a list of ints. -/
namespace Mn
open PySem PySem.Spec PyProof.Rows L2 PySem.W
def mDic0 : EM D := fun _ S => some (.dic [] [], S)
theorem e_dic0 {X : Cx} {pos : Pos} : PE X (.Dict [] [] pos) (rdE X.K mDic0) := PE.weak pe_dnewK fun sg H Q h => by
  obtain ⟨ph, S, rho, d, S', s, en, e, post⟩ := h
  cases e
  intro p hp
  exact post ph _ _ (Ext.tree s hp) (s.tree hp) (by
    rw [Rep]
    exact ⟨p, [], rfl, ⟨upd_same, s.fresh hp⟩, rfl, .nil⟩)
def intsOf : List D → Option (List Int)
  | [] => some []
  | .int x :: r => (intsOf r).map (x :: ·)
  | _ => none
theorem intsOf_of {K : PySem.W.Frag} {ph : Ph} {S : Sto} {H : Hp} : ∀ {ds : List D} {ys : List Int} {xs : List V}, intsOf ds = some ys → RepL K ph S H ds xs → xs = ys.map V.int
  | [], ys, xs, h, r => by
    cases h
    rw [RepL] at r; exact r
  | d :: ds, ys, xs, h, r => by
    rw [RepL] at r
    obtain ⟨x, r1, rfl, h1, h2⟩ := r
    cases d with
    | int z =>
      obtain rfl := h1.intE
      unfold intsOf at h
      cases e : intsOf ds with
      | none => rw [e] at h; cases h
      | some zs =>
        rw [e] at h
        cases h
        rw [intsOf_of e h2]
        rfl
    | _ => cases h
theorem intsOf_map (ys : List Int) : intsOf (ys.map D.int) = some ys := by
  induction ys with
  | nil => rfl
  | cons y r ih => rw [List.map_cons, intsOf, ih]; rfl
def maxLM (ds : List D) : M D := fun S => match ds with
  | [d] => match (itemsL d S).bind intsOf with
    | some ns => match ns.max? with
      | some m => some (.int m, S)
      | none => none
    | none => none
  | _ => none
theorem c_maxL {K : PySem.W.Frag} : CaM K (rMax K) maxLM := by
  intro ph S H xs dxs d S' Q s rx e post
  unfold maxLM at e
  split at e
  · rename_i dd
    split at e
    · rename_i ns hns
      split at e
      · rename_i m hm
        cases e
        obtain ⟨x, rfl, r⟩ := RepL.one rx
        obtain ⟨ds, h1, h2⟩ := Option.bind_eq_some_iff.mp hns
        obtain ⟨a, ys, rfl, g1, g2⟩ := itemsL_of s r h1
        rw [intsOf_of h2 g2] at g1
        obtain ⟨k1, k2⟩ := List.max?_eq_some_iff.mp hm
        refine ⟨a, ns, rfl, .inl (.inl g1), List.length_pos_of_mem k1, fun m' m1 m2 => ?_⟩
        obtain rfl : m' = m := Int.le_antisymm (k2 _ m1) (m2 _ k1)
        exact post.now s (by rw [Rep])
      · cases e
    · cases e
  · cases e
def minLM (ds : List D) : M D := fun S => match ds with
  | [d] => match (itemsL d S).bind intsOf with
    | some ns => match ns.min? with
      | some m => some (.int m, S)
      | none => none
    | none => none
  | _ => none
theorem c_minL {K : PySem.W.Frag} : CaM K (rMin K) minLM := by
  intro ph S H xs dxs d S' Q s rx e post
  unfold minLM at e
  split at e
  · rename_i dd
    split at e
    · rename_i ns hns
      split at e
      · rename_i m hm
        cases e
        obtain ⟨x, rfl, r⟩ := RepL.one rx
        obtain ⟨ds, h1, h2⟩ := Option.bind_eq_some_iff.mp hns
        obtain ⟨a, ys, rfl, g1, g2⟩ := itemsL_of s r h1
        rw [intsOf_of h2 g2] at g1
        obtain ⟨k1, k2⟩ := List.min?_eq_some_iff.mp hm
        refine ⟨a, ns, rfl, .inl (.inl g1), List.length_pos_of_mem k1, fun m' m1 m2 => ?_⟩
        obtain rfl : m' = m := Int.le_antisymm (m2 _ k1) (k2 _ m1)
        exact post.now s (by rw [Rep])
      · cases e
    · cases e
  · cases e
end Mn

set_option maxRecDepth 100000
set_option maxHeartbeats 1000000
/-! Mn: more of what plain functions lead to: loops over told data, one tactic. -/
namespace Mn
open PySem PySem.Spec PyProof.Rows L2
/-- the plain rules, and some more -/
theorem filt_true {α : Type} (l : List α) : (l.filter fun _ => true) = l := by simp
theorem eqOf {S : Sto} {m : M D} {d : D} (h : Wp m S fun x S' => x = d ∧ S' = S) : m S = some (d, S) := by
  obtain ⟨x, S', e, rfl, rfl⟩ := h
  exact e
theorem trOf {S : Sto} {m : M Bool} {b : Bool} (h : Wp m S fun x S' => x = b ∧ S' = S) : m S = some (b, S) := by
  obtain ⟨x, S', e, rfl, rfl⟩ := h
  exact e
section
variable {S : Sto} {rho : Env} {Q : D → Sto → Prop} {QS : Fl × Env → Sto → Prop}
theorem wp_asg2 {i j : Nat} {a b : D} : Wp (fun S => (gT 2 (gsCons (gV i) (gsCons (gV j) gsNil)) (.tup [a, b]) rho).map fun r => ((Fl.nx, r), S)) S QS ↔ QS (.nx, (rho.set i (some a)).set j (some b)) S := wp_some rfl
theorem wp_asg3 {i j k : Nat} {a b c : D} : Wp (fun S => (gT 3 (gsCons (gV i) (gsCons (gV j) (gsCons (gV k) gsNil))) (.tup [a, b, c]) rho).map fun r => ((Fl.nx, r), S)) S QS ↔ QS (.nx, ((rho.set i (some a)).set j (some b)).set k (some c)) S := wp_some rfl
/-- tuples' and lists' sources -/
theorem src_tup {ds : List D} {QI : Src → Sto → Prop} : Wp (fun S => (srcOf (.tup ds) S).map fun s => (s, S)) S QI ↔ QI ⟨ds, []⟩ S := wp_some rfl
theorem src_lst {ds : List D} {QI : Src → Sto → Prop} : Wp (fun S => (srcOf (.lst ds) S).map fun s => (s, S)) S QI ↔ QI ⟨ds, []⟩ S := wp_some rfl
theorem src_ref {n : Nat} {ds : List D} {QI : Src → Sto → Prop} (h : S.ob n = some (.lst ds)) : Wp (fun S => (srcOf (.ref n) S).map fun s => (s, S)) S QI ↔ QI ⟨ds, [(n, ds)]⟩ S := wp_some (by unfold srcOf; simp only [h]; rfl)
theorem zip_tt {a b : List D} {QI : Src → Sto → Prop} : Wp (zipM [.tup a, .tup b]) S QI ↔ QI ⟨pairs2 a b, []⟩ S := wp_some rfl
theorem new_nil {QD : D → Sto → Prop} : Wp (mkNew []) S QD ↔ QD (.ref S.nx) (S.new (.lst [])) := wp_some (by unfold mkNew; rw [if_pos (limP (by simp))])
theorem mt0 : Wp (mkTup []) S Q ↔ Q (.tup []) S := wp_mkTup (by simp)
theorem mt1 {a : D} : Wp (mkTup [a]) S Q ↔ Q (.tup [a]) S := wp_mkTup (by simp)
theorem mt2 {a b : D} : Wp (mkTup [a, b]) S Q ↔ Q (.tup [a, b]) S := wp_mkTup (by simp)
theorem mt3 {a b c : D} : Wp (mkTup [a, b, c]) S Q ↔ Q (.tup [a, b, c]) S := wp_mkTup (by simp)
theorem ml0 : Wp (mkLst []) S Q ↔ Q (.lst []) S := wp_mkLst (by simp)
theorem ml1 {a : D} : Wp (mkLst [a]) S Q ↔ Q (.lst [a]) S := wp_mkLst (by simp)
theorem ml2 {a b : D} : Wp (mkLst [a, b]) S Q ↔ Q (.lst [a, b]) S := wp_mkLst (by simp)
theorem ml3 {a b c : D} : Wp (mkLst [a, b, c]) S Q ↔ Q (.lst [a, b, c]) S := wp_mkLst (by simp)
end
/-- index of a tuple, part by part -/
def tidxK (o : D) (m : M (List D)) : M D := fun S => match o with
  | .tup ds => bnd m (fun as => idxT ds as) S
  | _ => none
section
variable {S : Sto} {rho : Env} {Q : D → Sto → Prop} {QL : List D → Sto → Prop}
theorem wp_tidx {mo : EM D} {ma : EM (List D)} : Wp (mTIdx mo ma rho) S Q ↔ Wp (mo rho) S fun o S1 => Wp (tidxK o (ma rho)) S1 Q := by unfold mTIdx; exact wp_bnd
theorem tidx_tup {ds : List D} {m : M (List D)} : Wp (tidxK (.tup ds) m) S Q ↔ Wp m S fun as S1 => Wp (idxT ds as) S1 Q := by
  rw [← wp_bnd]
  exact Iff.rfl
def starK (a : D) (m : M (List D)) : M (List D) := fun S => match items a S with
  | some ds => bnd m (fun as => ret (ds ++ as)) S
  | none => none
theorem wp_star {ma : EM D} {mas : EM (List D)} : Wp (mStar ma mas rho) S QL ↔ Wp (ma rho) S fun a S1 => Wp (starK a (mas rho)) S1 QL := by unfold mStar; exact wp_bnd
theorem starT {ds : List D} {m : M (List D)} : Wp (starK (.tup ds) m) S QL ↔ Wp m S fun as S1 => QL (ds ++ as) S1 := by
  have : Wp (starK (.tup ds) m) S QL ↔ Wp (bnd m fun as => ret (ds ++ as)) S QL := Iff.rfl
  rw [this, wp_bnd]
  constructor
  · exact fun h => h.mono fun a S' q => wp_ret.mp q
  · exact fun h => h.mono fun a S' q => wp_ret.mpr q
end
/-- walked told data, the first that answers ends it -/
theorem loopA_find {α : Type} {src : Src} {g : GM} {mb : SM} {I : Env → Sto → Prop} {J : Sto → Prop} {c : α → D} {f : α → Option D} (ok : ∀ r S, I r S → srcOk src S) : ∀ {l : List α} {rho : Env} {S : Sto}, I rho S →
    (∀ x ∈ l, ∀ r S, I r S → ∃ r1, g (c x) r = some r1 ∧ Wp (mb r1) S fun p S1 => match f x with | some v => p.1 = .rt v ∧ J S1 | none => p.1 = .nx ∧ I p.2 S1) →
    Wp (loopGo src g mb (l.map c) rho) S fun p S1 => match l.findSome? f with | some v => p.1 = .rt v ∧ J S1 | none => p.1 = .nx ∧ I p.2 S1
  | [], rho, S, i, _ => ⟨(.nx, rho), S, by rw [List.map_nil]; unfold loopGo; rw [if_pos (ok rho S i)], rfl, i⟩
  | x :: l, rho, S, i, h => by
    obtain ⟨r1, h1, ⟨fl, r2⟩, S1, e1, h2⟩ := h x List.mem_cons_self rho S i
    rw [List.findSome?_cons, List.map_cons]
    have e0 : loopGo src g mb (c x :: l.map c) rho S = bnd (mb r1) (fun p => match p.1 with
        | .nx => loopGo src g mb (l.map c) p.2
        | .ct => loopGo src g mb (l.map c) p.2
        | .bk => Mn.ret (.nx, p.2)
        | .rt r => Mn.ret (.rt r, p.2)) S := by
      conv => lhs; unfold loopGo
      rw [if_pos (ok rho S i), h1, Option.bind_some] <;> rfl
    cases hf : f x with
    | some v =>
      rw [hf] at h2
      obtain ⟨e2, j⟩ := h2
      have e2 : fl = .rt v := e2
      subst e2
      refine ⟨(.rt v, r2), S1, ?_, rfl, j⟩
      rw [e0]; unfold bnd; rw [e1]; rfl
    | none =>
      rw [hf] at h2
      obtain ⟨e2, i2⟩ := h2
      have e2 : fl = .nx := e2
      subst e2
      obtain ⟨p, S3, e3, q⟩ := loopA_find (l := l) ok i2 fun y hy => h y (List.mem_cons_of_mem _ hy)
      refine ⟨p, S3, ?_, q⟩
      rw [e0]; unfold bnd; rw [e1]; exact e3
/-- walked told data, the done ones told -/
theorem loopA_done {α : Type} {src : Src} {g : GM} {mb : SM} {I : List α → Env → Sto → Prop} {c : α → D} (ok : ∀ n r S, I n r S → srcOk src S) : ∀ {l pre : List α} {rho : Env} {S : Sto}, I pre rho S →
    (∀ done x rest, pre ++ l = done ++ x :: rest → ∀ r S, I done r S → ∃ r1, g (c x) r = some r1 ∧ Wp (mb r1) S fun p S1 => p.1 = .nx ∧ I (done ++ [x]) p.2 S1) →
    Wp (loopGo src g mb (l.map c) rho) S fun p S1 => p.1 = .nx ∧ I (pre ++ l) p.2 S1
  | [], pre, rho, S, i, _ => ⟨(.nx, rho), S, by rw [List.map_nil]; unfold loopGo; rw [if_pos (ok pre rho S i)], rfl, by rw [List.append_nil]; exact i⟩
  | d :: ds, pre, rho, S, i, h => by
    obtain ⟨r1, h1, ⟨fl, r2⟩, S1, e1, h2, i2⟩ := h pre d ds rfl rho S i
    cases h2
    have e0 : pre ++ d :: ds = pre ++ [d] ++ ds := by simp
    obtain ⟨p, S3, e3, hl, i3⟩ := loopA_done (l := ds) (pre := pre ++ [d]) ok i2 fun done x rest e => h done x rest (by rw [e0]; exact e)
    refine ⟨p, S3, ?_, hl, by rw [e0]; exact i3⟩
    rw [List.map_cons]
    unfold loopGo
    rw [if_pos (ok pre rho S i), h1, Option.bind_some]
    unfold bnd
    rw [e1]
    exact e3
/-- a comprehension that draws or makes -/
theorem lcA_inv {α : Type} {rho : Env} {src : Src} {g : GM} {mt : EM Bool} {me : EM D} {I : Sto → Prop} {P : α → D → Prop} {c : α → D} (ok : ∀ S, I S → srcOk src S) : ∀ {l : List α} {S : Sto}, I S →
    (∀ x ∈ l, ∃ r1, g (c x) rho = some r1 ∧ ∀ S, I S → Wp (mt r1) S fun b S1 => b = true ∧ Wp (me r1) S1 fun y S2 => P x y ∧ I S2) →
    Wp (lcGo src g mt me rho (l.map c)) S fun r S1 => r.length = l.length ∧ (∀ y ∈ r, ∃ x ∈ l, P x y) ∧ I S1
  | [], S, i, _ => ⟨[], S, by rw [List.map_nil]; unfold lcGo; rw [if_pos (ok S i)], rfl, (fun y hy => by cases hy), i⟩
  | d :: ds, S, i, h => by
    obtain ⟨r1, h1, h2⟩ := h d List.mem_cons_self
    obtain ⟨b, S1, e1, rfl, y, S2, e2, py, i2⟩ := h2 S i
    obtain ⟨r, S3, e3, hl, hp, i3⟩ := lcA_inv (l := ds) ok i2 fun x hx => h x (List.mem_cons_of_mem _ hx)
    refine ⟨y :: r, S3, ?_, by rw [List.length_cons, List.length_cons, hl], fun z hz => ?_, i3⟩
    · rw [List.map_cons]
      unfold lcGo
      rw [if_pos (ok S i), h1, Option.bind_some]
      unfold bnd
      simp only [e1, Option.bind_some, if_true, e2, e3, ret]
    · rcases List.mem_cons.mp hz with rfl | hz
      · exact ⟨d, List.mem_cons_self, py⟩
      · obtain ⟨x, hx, px⟩ := hp z hz
        exact ⟨x, List.mem_cons_of_mem _ hx, px⟩
/-- [f(x) for x in .. if t(x)], plain -/
theorem lcA {α : Type} {S : Sto} {rho : Env} {g : GM} {mt : EM Bool} {me : EM D} {t : α → Bool} {f c : α → D} {src : Src} {l : List α} {QL : List D → Sto → Prop} (ok : srcOk src S) (h : ∀ x ∈ l, ∃ r1, g (c x) rho = some r1 ∧ Wp (mt r1) S (fun b S1 => b = t x ∧ S1 = S) ∧ (t x = true → Wp (me r1) S fun d S1 => d = f x ∧ S1 = S)) :
    Wp (lcGo src g mt me rho (l.map c)) S QL ↔ QL ((l.filter t).map f) S := by
  refine wp_some ?_
  induction l with
  | nil => unfold lcGo; rw [List.map_nil]; simp only; rw [if_pos ok]; rfl
  | cons x l ih =>
    obtain ⟨r1, h1, h2, h3⟩ := h x List.mem_cons_self
    have ih := ih fun y hy => h y (List.mem_cons_of_mem _ hy)
    rw [List.map_cons]
    unfold lcGo
    rw [if_pos ok, h1, Option.bind_some]
    unfold bnd
    rw [trOf h2]
    cases ht : t x with
    | true => simp only [Option.bind_some, if_true, eqOf (h3 ht), ih, Mn.ret, List.filter_cons_of_pos ht, List.map_cons]
    | false =>
      simp only [Option.bind_some, Bool.false_eq_true, if_false, ih]
      rw [List.filter_cons_of_neg (by rw [ht]; decide)]
theorem lcD {S : Sto} {rho : Env} {g : GM} {mt : EM Bool} {me : EM D} {t : D → Bool} {f : D → D} {src : Src} {l : List D} {QL : List D → Sto → Prop} (ok : srcOk src S) (h : ∀ x ∈ l, ∃ r1, g x rho = some r1 ∧ Wp (mt r1) S (fun b S1 => b = t x ∧ S1 = S) ∧ (t x = true → Wp (me r1) S fun d S1 => d = f x ∧ S1 = S)) :
    Wp (lcGo src g mt me rho l) S QL ↔ QL ((l.filter t).map f) S := by
  have := lcA (S := S) (rho := rho) (g := g) (mt := mt) (me := me) (t := t) (f := f) (c := id) (src := src) (l := l) (QL := QL) ok h
  rw [List.map_id] at this
  exact this
section
variable {S : Sto} {Q : D → Sto → Prop}
theorem ones_eq {α : Type} (l : List α) : (l.map fun _ => D.int 1) = (l.map fun _ => (1 : Int)).map D.int := by rw [List.map_map]; rfl
theorem ones_ne {α : Type} {l : List α} : Wp (neM (.lst (l.map fun _ => D.int 1)) (.lst [])) S Q ↔ Q (.bl (!l.isEmpty)) S := by
  rw [ones_eq, wp_neNilL (pdL_ints _) (by rw [depth_ints]; omega), List.isEmpty_map, List.isEmpty_map]
theorem wp_eqNilL {l : List D} {ps : List PyData} (h : pdL l = some ps) (hd : PyData.depthAll ps ≤ 50) : Wp (eqM (.lst l) (.lst [])) S Q ↔ Q (.bl l.isEmpty) S := by
  rw [wp_eq (p := .list ps) (q := .list []) (by show pdT _ = _; rw [pdT, h]; rfl) (by show pdT _ = _; rw [pdT, pdL]; rfl) (by rw [PyData.depth]; omega)]
  have e := pdL_len h
  cases l with
  | nil =>
    cases ps with
    | nil => simp [PyData.eqv, PyData.eqvAll]
    | cons _ _ => cases e
  | cons _ _ =>
    cases ps with
    | nil => cases e
    | cons _ _ => simp [PyData.eqv, PyData.eqvAll]
theorem ones_eqN {α : Type} {l : List α} : Wp (eqM (.lst (l.map fun _ => D.int 1)) (.lst [])) S Q ↔ Q (.bl l.isEmpty) S := by
  rw [ones_eq, wp_eqNilL (pdL_ints _) (by rw [depth_ints]; omega), List.isEmpty_map, List.isEmpty_map]
end
/-- lists of data, each of which can be shown -/
theorem OkL.all {a n : Nat} : ∀ {l : List D}, (∀ d ∈ l, ∃ p, OkD a n d p) → ∃ ps, OkL (l.length * (a + 1)) n l ps
  | [], _ => ⟨[], by rw [List.length_nil, Nat.zero_mul]; exact OkL.nil⟩
  | d :: l, h => by
    obtain ⟨ps, hp⟩ := OkL.all (l := l) fun x hx => h x (List.mem_cons_of_mem _ hx)
    obtain ⟨p, hd⟩ := h d List.mem_cons_self
    have := OkL.cons hd hp
    refine ⟨_, this.pd, this.sh, this.dp, Nat.le_trans this.wt ?_, this.si⟩
    rw [List.length_cons, Nat.add_mul]; omega
theorem mem_cutD {α : Type} {l : List α} {a b : Option Int} {x : α} (h : x ∈ cutD l a b) : x ∈ l := by
  unfold cutD at h
  exact List.mem_of_mem_drop (List.mem_of_mem_take h)
theorem len_cutD {α : Type} {l : List α} {a b : Option Int} : (cutD l a b).length ≤ l.length := by
  unfold cutD
  rw [List.length_take, List.length_drop]
  omega
/-- texts sorted -/
theorem pdL_all : ∀ {l : List D}, (∀ d ∈ l, ∃ p, pdT d = some p) → ∃ ps, pdL l = some ps
  | [], _ => ⟨[], rfl⟩
  | d :: l, h => by
    obtain ⟨p, hp⟩ := h d List.mem_cons_self
    obtain ⟨ps, hps⟩ := pdL_all (l := l) fun x hx => h x (List.mem_cons_of_mem _ hx)
    exact ⟨p :: ps, by rw [pdL, hp, hps]; rfl⟩
theorem sortL_strs {l : List Str} (h : ∀ x ∈ l, PyData.strOk x = true) : ∃ l' : List Str, l'.Perm l ∧ sortL (l.map .str) = some (l'.map .str) := by
  have e : pdL (l.map D.str) = some (l.map PyData.str) := by
    induction l with
    | nil => rfl
    | cons x l ih => rw [List.map_cons, pdL, pdT, if_pos (h x List.mem_cons_self), ih fun y hy => h y (List.mem_cons_of_mem _ hy)]; rfl
  have hz : (l.map D.str).zip (l.map PyData.str) = l.map fun x => (D.str x, PyData.str x) := List.zip_map' ..
  refine ⟨l.mergeSort fun x y => PySem.W.dataLe false (·.2) (D.str x, PyData.str x) (D.str y, PyData.str y), List.mergeSort_perm _ _, ?_⟩
  unfold sortL
  rw [e]
  simp only
  rw [if_pos]
  · unfold sortBy
    rw [hz, ← List.map_mergeSort (r := fun x y => PySem.W.dataLe false (·.2) (D.str x, PyData.str x) (D.str y, PyData.str y)) (f := fun x => (D.str x, PyData.str x)) (fun a _ b _ => rfl), List.map_map]
    rfl
  · rw [Bool.and_eq_true, Bool.and_eq_true]
    refine ⟨⟨?_, ?_⟩, ?_⟩
    · unfold alikeB
      rw [List.all_eq_true]
      intro p hp
      rw [List.all_eq_true]
      intro q hq
      obtain ⟨a, _, rfl⟩ := List.mem_map.mp hp
      obtain ⟨b, _, rfl⟩ := List.mem_map.mp hq
      rw [PySem.W.alike]
    · unfold sortB
      rw [Bool.or_eq_true]
      right
      rw [List.all_eq_true]
      intro p hp
      obtain ⟨a, _, rfl⟩ := List.mem_map.mp hp
      rfl
    · rw [List.all_eq_true]
      intro p hp
      obtain ⟨a, _, rfl⟩ := List.mem_map.mp hp
      rw [PyData.depth]; rfl
end Mn

set_option maxRecDepth 100000
set_option maxHeartbeats 0
namespace K16
open PySem PySem.Spec PyProof.Rows L2 Mn
abbrev pw : Program := PySem.Challenge.pw_enoughlooks_k16_questions_looked_into
/-! ### _law_alike -/
abbrev s_law_alike : Stmt := topOf pw 18
abbrev N_law_alike : List Str := ["_law_found", "_law_due"]
abbrev P_law_alike : List Str := ["_law_found", "_law_due"]
theorem sc_law_alike : FnScope N_law_alike P_law_alike (defScope s_law_alike) := ⟨rfl, rfl, rfl, by decide +kernel, rfl, by decide +kernel, by decide +kernel⟩
noncomputable def b_law_alike : SM := (mSeq (mRet (mAndV (mBin eqM (mV 0) (mV 1)) (mBin eqM (mCall reprM (mCons (mV 0) mNil)) (mCall reprM (mCons (mV 1) mNil)))))
    mNx)
noncomputable def d_law_alike : List D → M D := mDef N_law_alike.length b_law_alike
theorem ok_law_alike {P : Program} {w : World} {K : PySem.W.Frag} {mg : Str → Option Value} {base : Heap} {a : Addr} {fd : FuncData} (F : Fun K "_law_alike" "_law_alike" s_law_alike a fd) (z_repr : mg "repr" = none) : FnG P w K mg base 1 a fd P_law_alike d_law_alike :=
  fnG_of (N := N_law_alike) b_law_alike F sc_law_alike fun cdv A outer s H E hr hg =>
    (s_cons (s_ret (e_and (e_cmp (op_eqP (uOf hr)) m_eq (e_v 0) (e_v 1)) (e_one (e_cmp (op_eqP (uOf hr)) m_eq (e_callB (cr_repr hg (uOf hr)) c_repr (by rfl) z_repr (by decide +kernel) (a_cons (e_v 0) a_nil)) (e_callB (cr_repr hg (uOf hr)) c_repr (by rfl) z_repr (by decide +kernel) (a_cons (e_v 1) a_nil))))))
    s_nil)
/-! ### in_order -/
abbrev s_in_order : Stmt := topOf pw 12
abbrev N_in_order : List Str := ["question", "columns"]
abbrev P_in_order : List Str := ["question", "columns"]
theorem sc_in_order : FnScope N_in_order P_in_order (defScope s_in_order) := ⟨rfl, rfl, rfl, by decide +kernel, rfl, by decide +kernel, by decide +kernel⟩
noncomputable def b_in_order : SM := (mSeq (mRet (mTup (mCons (mCall tupleM (mCons (mV 1) mNil)) (mCons (mBin ixM (mV 0) (mC (.int 1))) (mCons (mBin ixM (mV 0) (mC (.int 2))) mNil)))))
    mNx)
noncomputable def d_in_order : List D → M D := mDef N_in_order.length b_in_order
theorem ok_in_order {P : Program} {w : World} {K : PySem.W.Frag} {mg : Str → Option Value} {base : Heap} {a : Addr} {fd : FuncData} (F : Fun K "in_order" "in_order" s_in_order a fd) (z_tuple : mg "tuple" = none) : FnG P w K mg base 1 a fd P_in_order d_in_order :=
  fnG_of (N := N_in_order) b_in_order F sc_in_order fun cdv A outer s H E hr hg =>
    (s_cons (s_ret (e_tup (a_cons (e_callT call_tupF c_tuple (by rfl) z_tuple (by decide +kernel) (a_cons (e_v 1) a_nil)) (a_cons (e_ix (e_v 0) e_int) (a_cons (e_ix (e_v 0) e_int) a_nil)))))
    s_nil)
/-! ### _law_take -/
abbrev s_law_take : Stmt := topOf pw 15
abbrev N_law_take : List Str := ["_law_bag_here", "_law_many", "_law_cell", "_law_stirred", "_law_value", "_law_begin", "_law_second"]
abbrev P_law_take : List Str := ["_law_bag_here", "_law_many"]
theorem sc_law_take : FnScope N_law_take P_law_take (defScope s_law_take) := ⟨rfl, rfl, rfl, by decide +kernel, rfl, by decide +kernel, by decide +kernel⟩
noncomputable def b_law_take : SM := (mSeq (mIfS (mB (mBin eqM (mBin ixM (mV 0) (mC (.int 0))) (mC (.int 0)))) (mSeq (mSet 2 (mBin ixM (mBin addM (mSl (mBin ixM (mV 0) (mC (.int 3))) (mPart (mBin ixM (mV 0) (mC (.int 2)))) (fun _ => ret none)) (mLst (mCons (mC (.int 0)) mNil))) (mC (.int 0))))
    (mSeq (mAugS (mV 0) (mC (.int 2)) (mC (.int 1)) (intF fun i j => i + j))
    (mSeq (mIfS (mB (mBin geM (mV 2) (mBin powM (mC (.int 10)) (mC (.int 18))))) (mSeq (mPut (mV 0) (mC (.int 0)) (mV 2))
    mNx) mNx)
    (mSeq (mSet 3 (mBin addM (mBin addM (mBin mulM (mBin ixM (mV 0) (mC (.int 1))) (mC (.int 48271))) (mBin modM (mCall toIntM (mCons (mV 2) mNil)) (mC (.int 2147483647)))) (mBin mulM (mC (.int 7919)) (mBin ixM (mV 0) (mC (.int 2))))))
    (mSeq (mPut (mV 0) (mC (.int 1)) (mBin modM (mCall toIntM (mCons (mV 3) mNil)) (mC (.int 2147483647))))
    mNx))))) mNx)
    (mSeq (mIfS (mB (mBin gtM (mBin ixM (mV 0) (mC (.int 0))) (mC (.int 0)))) (mSeq (mSet 4 (mBin modM (mCall toIntM (mCons (mBin ixM (mV 0) (mC (.int 0))) mNil)) (mV 1)))
    (mSeq (mPut (mV 0) (mC (.int 0)) (mBin divM (mCall toIntM (mCons (mBin ixM (mV 0) (mC (.int 0))) mNil)) (mV 1)))
    (mSeq (mRet (mV 4))
    mNx))) mNx)
    (mSeq (mSet 5 (mBin modM (mCall toIntM (mCons (mBin mulM (mBin addM (mBin ixM (mV 0) (mC (.int 1))) (mC (.int 1))) (mC (.int 39373))) mNil)) (mC (.int 1000000007))))
    (mSeq (mSet 6 (mBin modM (mCall toIntM (mCons (mBin mulM (mBin modM (mCall toIntM (mCons (mBin mulM (mV 5) (mV 5)) mNil)) (mC (.int 998244353))) (mC (.int 30011))) mNil)) (mC (.int 998244353))))
    (mSeq (mRet (mBin modM (mCall toIntM (mCons (mBin divM (mV 6) (mC (.int 7))) mNil)) (mV 1)))
    mNx)))))
noncomputable def d_law_take : List D → M D := mDef N_law_take.length b_law_take
theorem ok_law_take {P : Program} {w : World} {K : PySem.W.Frag} {mg : Str → Option Value} {base : Heap} {a : Addr} {fd : FuncData} (F : Fun K "_law_take" "_law_take" s_law_take a fd) (z_int : mg "int" = none) : FnG P w K mg base 1 a fd P_law_take d_law_take :=
  fnG_of (N := N_law_take) b_law_take F sc_law_take fun cdv A outer s H E hr hg =>
    (s_cons (s_if (t_cmp (op_eqP (uOf hr)) m_eq (e_ix (e_v 0) e_int) e_int) (s_cons (s_set sc_law_take.nd (e_ix (e_bin op_addP m_add (e_sl (e_ix (e_v 0) e_int) (o_some (e_ix (e_v 0) e_int)) o_none) (e_lst (a_cons e_int a_nil))) e_int))
    (s_cons (s_augS ip_add ip_int (e_v 0) e_int e_int)
    (s_cons (s_if (t_cmp op_ge m_ge (e_v 2) (e_bin op_pow m_pow e_int e_int)) (s_cons (s_put (e_v 2) (e_v 0) e_int)
    s_nil) s_nil)
    (s_cons (s_set sc_law_take.nd (e_bin op_addP m_add (e_bin op_addP m_add (e_bin op_mulP m_mul (e_ix (e_v 0) e_int) e_int) (e_bin op_mod m_mod (e_callT call_int1 c_int (by rfl) z_int (by decide +kernel) (a_cons (e_v 2) a_nil)) e_int)) (e_bin op_mulP m_mul e_int (e_ix (e_v 0) e_int))))
    (s_cons (s_put (e_bin op_mod m_mod (e_callT call_int1 c_int (by rfl) z_int (by decide +kernel) (a_cons (e_v 3) a_nil)) e_int) (e_v 0) e_int)
    s_nil))))) s_nil)
    (s_cons (s_if (t_cmp op_gt m_gt (e_ix (e_v 0) e_int) e_int) (s_cons (s_set sc_law_take.nd (e_bin op_mod m_mod (e_callT call_int1 c_int (by rfl) z_int (by decide +kernel) (a_cons (e_ix (e_v 0) e_int) a_nil)) (e_v 1)))
    (s_cons (s_put (e_bin op_fdiv m_div (e_callT call_int1 c_int (by rfl) z_int (by decide +kernel) (a_cons (e_ix (e_v 0) e_int) a_nil)) (e_v 1)) (e_v 0) e_int)
    (s_cons (s_ret (e_v 4))
    s_nil))) s_nil)
    (s_cons (s_set sc_law_take.nd (e_bin op_mod m_mod (e_callT call_int1 c_int (by rfl) z_int (by decide +kernel) (a_cons (e_bin op_mulP m_mul (e_bin op_addP m_add (e_ix (e_v 0) e_int) e_int) e_int) a_nil)) e_int))
    (s_cons (s_set sc_law_take.nd (e_bin op_mod m_mod (e_callT call_int1 c_int (by rfl) z_int (by decide +kernel) (a_cons (e_bin op_mulP m_mul (e_bin op_mod m_mod (e_callT call_int1 c_int (by rfl) z_int (by decide +kernel) (a_cons (e_bin op_mulP m_mul (e_v 5) (e_v 5)) a_nil)) e_int) e_int) a_nil)) e_int))
    (s_cons (s_ret (e_bin op_mod m_mod (e_callT call_int1 c_int (by rfl) z_int (by decide +kernel) (a_cons (e_bin op_fdiv m_div (e_v 6) e_int) a_nil)) (e_v 1)))
    s_nil)))))
/-! ### _law_mixed -/
abbrev s_law_mixed : Stmt := topOf pw 17
abbrev N_law_mixed : List Str := ["_law_bag_here", "_law_things", "_law_found", "_law_thing"]
abbrev P_law_mixed : List Str := ["_law_bag_here", "_law_things"]
theorem sc_law_mixed : FnScope N_law_mixed P_law_mixed (defScope s_law_mixed) := ⟨rfl, rfl, rfl, by decide +kernel, rfl, by decide +kernel, by decide +kernel⟩
noncomputable def b_law_mixed : SM := (mSeq (mSet 2 (mNew mNil))
    (mSeq (mFor (mISeq (mV 1)) (gV 3) (mSeq (mDrop (mMet (mV 2) (mCons (mFn P_law_take.length d_law_take (mCons (mV 0) (mCons (mBin addM (mCall lenM (mCons (mV 2) mNil)) (mC (.int 1))) mNil))) (mCons (mV 3) mNil)) insM))
    mNx))
    (mSeq (mRet (mV 2))
    mNx)))
noncomputable def d_law_mixed : List D → M D := mDef N_law_mixed.length b_law_mixed
theorem ok_law_mixed {P : Program} {w : World} {K : PySem.W.Frag} {mg : Str → Option Value} {base : Heap} {a : Addr} {fd : FuncData} (F : Fun K "_law_mixed" "_law_mixed" s_law_mixed a fd) (c_law_take : Cal P w K mg base 1 "_law_take" P_law_take d_law_take) (z_len : mg "len" = none) : FnG P w K mg base 2 a fd P_law_mixed d_law_mixed :=
  fnG_of (N := N_law_mixed) b_law_mixed F sc_law_mixed fun cdv A outer s H E hr hg =>
    (s_cons (s_set sc_law_mixed.nd (e_new a_nil))
    (s_cons (s_for (vs := [3]) PassesOwn.never (i_seq (e_v 1)) (g_v sc_law_mixed.nd) (s_cons (s_expr (e_insert (e_v 2) (a_cons (e_cal c_law_take hr hg (a_cons (e_v 0) (a_cons (e_bin op_addP m_add (e_callB cr_len c_len (by rfl) z_len (by decide +kernel) (a_cons (e_v 2) a_nil)) e_int) a_nil))) (a_cons (e_v 3) a_nil))))
    s_nil))
    (s_cons (s_ret (e_v 2))
    s_nil)))
/-! ### _law_range_of -/
abbrev s_law_range_of : Stmt := topOf pw 27
abbrev N_law_range_of : List Str := ["_law_question", "_law_column", "_law_found", "_law_one", "_law_low", "_law_high"]
abbrev P_law_range_of : List Str := ["_law_question", "_law_column"]
theorem sc_law_range_of : FnScope N_law_range_of P_law_range_of (defScope s_law_range_of) := ⟨rfl, rfl, rfl, by decide +kernel, rfl, by decide +kernel, by decide +kernel⟩
noncomputable def b_law_range_of : SM := (mSeq (mSet 2 (mLc (mISeq (mBin ixM (mV 0) (mC (.int 2)))) [3, 4, 5] (gT 3 (gsCons (gV 3) (gsCons (gV 4) (gsCons (gV 5) gsNil)))) (mB (mBin eqM (mV 3) (mV 1))) (mTup (mCons (mV 4) (mCons (mV 5) mNil)))))
    (mSeq (mRet (mIf (mB (mBin neM (mV 2) (mLst mNil))) (mBin ixM (mV 2) (mC (.int 0))) (mTup (mCons (mC .non) (mCons (mC .non) mNil)))))
    mNx))
noncomputable def d_law_range_of : List D → M D := mDef N_law_range_of.length b_law_range_of
theorem ok_law_range_of {P : Program} {w : World} {K : PySem.W.Frag} {mg : Str → Option Value} {base : Heap} {a : Addr} {fd : FuncData} (F : Fun K "_law_range_of" "_law_range_of" s_law_range_of a fd) : FnG P w K mg base 1 a fd P_law_range_of d_law_range_of :=
  fnG_of (N := N_law_range_of) b_law_range_of F sc_law_range_of fun cdv A outer s H E hr hg =>
    (s_cons (s_setLc rfl sc_law_range_of.nd (own := [("_law_one", 3), ("_law_low", 4), ("_law_high", 5)]) (blkOk_by (own := [("_law_one", 3), ("_law_low", 4), ("_law_high", 5)]) (N := N_law_range_of) (sc := defScope s_law_range_of) (by decide +kernel)) (i_seq (e_ix (e_v 0) e_int)) (fun _ _ _ _ _ => (g_tup (gs_cons (g_v sc_law_range_of.nd) (gs_cons (g_v sc_law_range_of.nd) (gs_cons (g_v sc_law_range_of.nd) gs_nil))))) (fun _ _ _ _ _ => (ts_one (t_cmp (op_eqP (uOf hr)) m_eq (e_v 3) (e_v 1)))) (fun _ _ _ _ _ => (e_tup (a_cons (e_v 4) (a_cons (e_v 5) a_nil)))) (sw_true rfl rfl rfl (by decide +kernel)))
    (s_cons (s_ret (e_if (t_cmp (op_neP (uOf hr)) m_ne (e_v 2) (e_lst a_nil)) (e_ix (e_v 2) e_int) (e_tup (a_cons e_non (a_cons e_non a_nil)))))
    s_nil))
/-! ### _law_narrowed -/
abbrev s_law_narrowed : Stmt := topOf pw 31
abbrev N_law_narrowed : List Str := ["_law_question", "_law_column", "_law_low", "_law_high", "_law_one", "_law_other", "_law_lows", "_law_highs", "_law_least", "_law_most", "_law_found", "_law_its", "_law_end"]
abbrev P_law_narrowed : List Str := ["_law_question", "_law_column", "_law_low", "_law_high"]
theorem sc_law_narrowed : FnScope N_law_narrowed P_law_narrowed (defScope s_law_narrowed) := ⟨rfl, rfl, rfl, by decide +kernel, rfl, by decide +kernel, by decide +kernel⟩
noncomputable def b_law_narrowed : SM := (mSeq (mAsg (mFn P_law_range_of.length d_law_range_of (mCons (mV 0) (mCons (mV 1) mNil))) (gT 2 (gsCons (gV 4) (gsCons (gV 5) gsNil))))
    (mSeq (mSet 6 (mLc (mISeq (mTup (mCons (mV 4) (mCons (mV 2) mNil)))) [12] (gV 12) (mB (mNotN (mV 12))) (mV 12)))
    (mSeq (mSet 7 (mLc (mISeq (mTup (mCons (mV 5) (mCons (mV 3) mNil)))) [12] (gV 12) (mB (mNotN (mV 12))) (mV 12)))
    (mSeq (mPar 8 9 (mCons (mIf (mB (mBin neM (mV 6) (mLst mNil))) (mCall maxLM (mCons (mV 6) mNil)) (mC .non)) (mCons (mIf (mB (mBin neM (mV 7) (mLst mNil))) (mCall minLM (mCons (mV 7) mNil)) (mC .non)) mNil)))
    (mSeq (mIfS (mAnd (mB (mNotN (mV 8))) (mAnd (mB (mNotN (mV 9))) (mB (mBin ltM (mV 9) (mV 8))))) (mSeq (mRet (mC .non))
    mNx) mNx)
    (mSeq (mSet 10 (mNew mNil))
    (mSeq (mFor (mISeq (mBin ixM (mV 0) (mC (.int 2)))) (gV 11) (mSeq (mIfS (mB (mBin neM (mBin ixM (mV 11) (mC (.int 0))) (mV 1))) (mSeq (mDrop (mMet (mV 10) (mCons (mV 11) mNil) appM))
    mNx) (mSeq (mIfS (mOr (mB (mNotN (mV 8))) (mB (mNotN (mV 9)))) (mSeq (mDrop (mMet (mV 10) (mCons (mTup (mCons (mV 1) (mCons (mV 8) (mCons (mV 9) mNil)))) mNil) appM))
    mNx) mNx)
    mNx))
    mNx))
    (mSeq (mIfS (mAnd (mB (mBin niM (mV 1) (mLc (mISeq (mBin ixM (mV 0) (mC (.int 2)))) [11] (gV 11) mYes (mBin ixM (mV 11) (mC (.int 0)))))) (mOr (mB (mNotN (mV 8))) (mB (mNotN (mV 9))))) (mSeq (mDrop (mMet (mV 10) (mCons (mTup (mCons (mV 1) (mCons (mV 8) (mCons (mV 9) mNil)))) mNil) appM))
    mNx) mNx)
    (mSeq (mRet (mBin addM (mSl (mV 0) (fun _ => ret none) (mPart (mC (.int 2)))) (mTup (mCons (mCall tupleM (mCons (mV 10) mNil)) mNil))))
    mNx)))))))))
noncomputable def d_law_narrowed : List D → M D := mDef N_law_narrowed.length b_law_narrowed
theorem ok_law_narrowed {P : Program} {w : World} {K : PySem.W.Frag} {mg : Str → Option Value} {base : Heap} {a : Addr} {fd : FuncData} (F : Fun K "_law_narrowed" "_law_narrowed" s_law_narrowed a fd) (c_law_range_of : Cal P w K mg base 1 "_law_range_of" P_law_range_of d_law_range_of) (z_tuple : mg "tuple" = none) (z_min : mg "min" = none) (z_max : mg "max" = none) : FnG P w K mg base 2 a fd P_law_narrowed d_law_narrowed :=
  fnG_of (N := N_law_narrowed) b_law_narrowed F sc_law_narrowed fun cdv A outer s H E hr hg =>
    (s_cons (s_asg (vs := [4, 5]) (e_cal c_law_range_of hr hg (a_cons (e_v 0) (a_cons (e_v 1) a_nil))) (g_tup (gs_cons (g_v sc_law_narrowed.nd) (gs_cons (g_v sc_law_narrowed.nd) gs_nil))))
    (s_cons (s_setLc rfl sc_law_narrowed.nd (own := [("_law_end", 12)]) (blkOk_by (own := [("_law_end", 12)]) (N := N_law_narrowed) (sc := defScope s_law_narrowed) (by decide +kernel)) (i_seq (e_tup (a_cons (e_v 4) (a_cons (e_v 2) a_nil)))) (fun _ _ _ _ _ => (g_v sc_law_narrowed.nd)) (fun _ _ _ _ _ => (ts_one (t_notN (e_v 12)))) (fun _ _ _ _ _ => (e_v 12)) (sw_true rfl rfl rfl (by decide +kernel)))
    (s_cons (s_setLc rfl sc_law_narrowed.nd (own := [("_law_end", 12)]) (blkOk_by (own := [("_law_end", 12)]) (N := N_law_narrowed) (sc := defScope s_law_narrowed) (by decide +kernel)) (i_seq (e_tup (a_cons (e_v 5) (a_cons (e_v 3) a_nil)))) (fun _ _ _ _ _ => (g_v sc_law_narrowed.nd)) (fun _ _ _ _ _ => (ts_one (t_notN (e_v 12)))) (fun _ _ _ _ _ => (e_v 12)) (sw_true rfl rfl rfl (by decide +kernel)))
    (s_cons (s_par sc_law_narrowed.nd (a_cons (e_if (t_cmp (op_neP (uOf hr)) m_ne (e_v 6) (e_lst a_nil)) (e_callB (cr_max rfl) c_maxL (by rfl) z_max (by decide +kernel) (a_cons (e_v 6) a_nil)) e_non) (a_cons (e_if (t_cmp (op_neP (uOf hr)) m_ne (e_v 7) (e_lst a_nil)) (e_callB (cr_min rfl) c_minL (by rfl) z_min (by decide +kernel) (a_cons (e_v 7) a_nil)) e_non) a_nil)) (by rfl))
    (s_cons (s_if (t_w (w_and (t_notN (e_v 8)) (w_and (t_notN (e_v 9)) (w_and1 (t_cmp op_lt m_lt (e_v 9) (e_v 8)))))) (s_cons (s_ret e_non)
    s_nil) s_nil)
    (s_cons (s_set sc_law_narrowed.nd (e_new a_nil))
    (s_cons (s_for (vs := [11]) PassesOwn.never (i_seq (e_ix (e_v 0) e_int)) (g_v sc_law_narrowed.nd) (s_cons (s_if (t_cmp (op_neP (uOf hr)) m_ne (e_ix (e_v 11) e_int) (e_v 1)) (s_cons (s_expr (e_append (e_v 10) (a_cons (e_v 11) a_nil)))
    s_nil) (s_cons (s_if (t_w (w_or (t_notN (e_v 8)) (w_or1 (t_notN (e_v 9))))) (s_cons (s_expr (e_append (e_v 10) (a_cons (e_tup (a_cons (e_v 1) (a_cons (e_v 8) (a_cons (e_v 9) a_nil)))) a_nil)))
    s_nil) s_nil)
    s_nil))
    s_nil))
    (s_cons (s_if (t_w (w_and (t_cmp (op_niP (uOf hr)) m_ni (e_v 1) (e_lc rfl sc_law_narrowed.nd (own := [("_law_its", 11)]) (blkOk_by (own := [("_law_its", 11)]) (N := N_law_narrowed) (sc := defScope s_law_narrowed) (by decide +kernel)) (i_seq (e_ix (e_v 0) e_int)) (fun _ _ _ _ _ => (g_v sc_law_narrowed.nd)) (fun _ _ _ _ _ => ts_nil) (fun _ _ _ _ _ => (e_ix (e_v 11) e_int)))) (w_and1 (t_w (w_or (t_notN (e_v 8)) (w_or1 (t_notN (e_v 9)))))))) (s_cons (s_expr (e_append (e_v 10) (a_cons (e_tup (a_cons (e_v 1) (a_cons (e_v 8) (a_cons (e_v 9) a_nil)))) a_nil)))
    s_nil) s_nil)
    (s_cons (s_ret (e_bin op_addP m_add (e_sl (e_v 0) o_none (o_some e_int)) (e_tup (a_cons (e_callT call_tupF c_tuple (by rfl) z_tuple (by decide +kernel) (a_cons (e_v 10) a_nil)) a_nil))))
    s_nil)))))))))
/-! ### less_of -/
abbrev s_less_of : Stmt := topOf pw 10
abbrev N_less_of : List Str := ["one", "other"]
abbrev P_less_of : List Str := ["one", "other"]
theorem sc_less_of : FnScope N_less_of P_less_of (defScope s_less_of) := ⟨rfl, rfl, rfl, by decide +kernel, rfl, by decide +kernel, by decide +kernel⟩
noncomputable def b_less_of : SM := (mSeq (mIfS (mOr (mB (mIsN (mV 0))) (mB (mIsN (mV 1)))) (mSeq (mRet (mIf (mB (mIsN (mV 0))) (mV 1) (mV 0)))
    mNx) mNx)
    (mSeq (mRet (mCall min2M (mCons (mV 0) (mCons (mV 1) mNil))))
    mNx))
noncomputable def d_less_of : List D → M D := mDef N_less_of.length b_less_of
theorem ok_less_of {P : Program} {w : World} {K : PySem.W.Frag} {mg : Str → Option Value} {base : Heap} {a : Addr} {fd : FuncData} (F : Fun K "less_of" "less_of" s_less_of a fd) (z_min : mg "min" = none) : FnG P w K mg base 1 a fd P_less_of d_less_of :=
  fnG_of (N := N_less_of) b_less_of F sc_less_of fun cdv A outer s H E hr hg =>
    (s_cons (s_if (t_w (w_or (t_isN (e_v 0)) (w_or1 (t_isN (e_v 1))))) (s_cons (s_ret (e_if (t_isN (e_v 0)) (e_v 1) (e_v 0)))
    s_nil) s_nil)
    (s_cons (s_ret (e_callB (call_min2 rfl) c_min2 (by rfl) z_min (by decide +kernel) (a_cons (e_v 0) (a_cons (e_v 1) a_nil))))
    s_nil))
/-! ### greater_of -/
abbrev s_greater_of : Stmt := topOf pw 9
abbrev N_greater_of : List Str := ["one", "other"]
abbrev P_greater_of : List Str := ["one", "other"]
theorem sc_greater_of : FnScope N_greater_of P_greater_of (defScope s_greater_of) := ⟨rfl, rfl, rfl, by decide +kernel, rfl, by decide +kernel, by decide +kernel⟩
noncomputable def b_greater_of : SM := (mSeq (mIfS (mOr (mB (mIsN (mV 0))) (mB (mIsN (mV 1)))) (mSeq (mRet (mIf (mB (mIsN (mV 0))) (mV 1) (mV 0)))
    mNx) mNx)
    (mSeq (mRet (mCall max2M (mCons (mV 0) (mCons (mV 1) mNil))))
    mNx))
noncomputable def d_greater_of : List D → M D := mDef N_greater_of.length b_greater_of
theorem ok_greater_of {P : Program} {w : World} {K : PySem.W.Frag} {mg : Str → Option Value} {base : Heap} {a : Addr} {fd : FuncData} (F : Fun K "greater_of" "greater_of" s_greater_of a fd) (z_max : mg "max" = none) : FnG P w K mg base 1 a fd P_greater_of d_greater_of :=
  fnG_of (N := N_greater_of) b_greater_of F sc_greater_of fun cdv A outer s H E hr hg =>
    (s_cons (s_if (t_w (w_or (t_isN (e_v 0)) (w_or1 (t_isN (e_v 1))))) (s_cons (s_ret (e_if (t_isN (e_v 0)) (e_v 1) (e_v 0)))
    s_nil) s_nil)
    (s_cons (s_ret (e_callB (call_max2 rfl) c_max2 (by rfl) z_max (by decide +kernel) (a_cons (e_v 0) (a_cons (e_v 1) a_nil))))
    s_nil))
/-! ### range_of -/
abbrev s_range_of : Stmt := topOf pw 4
abbrev N_range_of : List Str := ["question", "column", "its", "low", "high"]
abbrev P_range_of : List Str := ["question", "column"]
theorem sc_range_of : FnScope N_range_of P_range_of (defScope s_range_of) := ⟨rfl, rfl, rfl, by decide +kernel, rfl, by decide +kernel, by decide +kernel⟩
noncomputable def b_range_of : SM := (mSeq (mFor (mISeq (mBin ixM (mV 0) (mC (.int 2)))) (gT 3 (gsCons (gV 2) (gsCons (gV 3) (gsCons (gV 4) gsNil)))) (mSeq (mIfS (mB (mBin eqM (mV 2) (mV 1))) (mSeq (mRet (mTup (mCons (mV 3) (mCons (mV 4) mNil))))
    mNx) mNx)
    mNx))
    (mSeq (mRet (mTup (mCons (mC .non) (mCons (mC .non) mNil))))
    mNx))
noncomputable def d_range_of : List D → M D := mDef N_range_of.length b_range_of
theorem ok_range_of {P : Program} {w : World} {K : PySem.W.Frag} {mg : Str → Option Value} {base : Heap} {a : Addr} {fd : FuncData} (F : Fun K "range_of" "range_of" s_range_of a fd) : FnG P w K mg base 1 a fd P_range_of d_range_of :=
  fnG_of (N := N_range_of) b_range_of F sc_range_of fun cdv A outer s H E hr hg =>
    (s_cons (s_for (vs := [2, 3, 4]) PassesOwn.never (i_seq (e_ix (e_v 0) e_int)) (g_tup (gs_cons (g_v sc_range_of.nd) (gs_cons (g_v sc_range_of.nd) (gs_cons (g_v sc_range_of.nd) gs_nil)))) (s_cons (s_if (t_cmp (op_eqP (uOf hr)) m_eq (e_v 2) (e_v 1)) (s_cons (s_ret (e_tup (a_cons (e_v 3) (a_cons (e_v 4) a_nil))))
    s_nil) s_nil)
    s_nil))
    (s_cons (s_ret (e_tup (a_cons e_non (a_cons e_non a_nil))))
    s_nil))
/-! ### narrowed -/
abbrev s_narrowed : Stmt := topOf pw 11
abbrev N_narrowed : List Str := ["question", "column", "low", "high", "columns", "atoms", "ranges", "own_low", "own_high", "least", "most", "one"]
abbrev P_narrowed : List Str := ["question", "column", "low", "high"]
theorem sc_narrowed : FnScope N_narrowed P_narrowed (defScope s_narrowed) := ⟨rfl, rfl, rfl, by decide +kernel, rfl, by decide +kernel, by decide +kernel⟩
noncomputable def b_narrowed : SM := (mSeq (mAsg (mV 0) (gT 3 (gsCons (gV 4) (gsCons (gV 5) (gsCons (gV 6) gsNil)))))
    (mSeq (mAsg (mFn P_range_of.length d_range_of (mCons (mV 0) (mCons (mV 1) mNil))) (gT 2 (gsCons (gV 7) (gsCons (gV 8) gsNil))))
    (mSeq (mAsg (mTup (mCons (mFn P_greater_of.length d_greater_of (mCons (mV 7) (mCons (mV 2) mNil))) (mCons (mFn P_less_of.length d_less_of (mCons (mV 8) (mCons (mV 3) mNil))) mNil))) (gT 2 (gsCons (gV 9) (gsCons (gV 10) gsNil))))
    (mSeq (mIfS (mAnd (mB (mNotN (mV 9))) (mAnd (mB (mNotN (mV 10))) (mB (mBin gtM (mV 9) (mV 10))))) (mSeq (mRet (mC .non))
    mNx) mNx)
    (mSeq (mIfS (mAnd (mB (mIsN (mV 9))) (mB (mIsN (mV 10)))) (mSeq (mRet (mTup (mCons (mV 4) (mCons (mV 5) (mCons (mCall tupleM (mCons (mLc (mISeq (mV 6)) [11] (gV 11) (mB (mBin neM (mBin ixM (mV 11) (mC (.int 0))) (mV 1))) (mV 11)) mNil)) mNil)))))
    mNx) mNx)
    (mSeq (mIfS (mB (mBin niM (mV 1) (mLc (mISeq (mV 6)) [11] (gV 11) mYes (mBin ixM (mV 11) (mC (.int 0)))))) (mSeq (mRet (mTup (mCons (mV 4) (mCons (mV 5) (mCons (mTup (mStar (mV 6) (mCons (mTup (mCons (mV 1) (mCons (mV 9) (mCons (mV 10) mNil)))) mNil))) mNil)))))
    mNx) mNx)
    (mSeq (mRet (mTup (mCons (mV 4) (mCons (mV 5) (mCons (mCall tupleM (mCons (mLc (mISeq (mV 6)) [11] (gV 11) mYes (mIf (mB (mBin eqM (mBin ixM (mV 11) (mC (.int 0))) (mV 1))) (mTup (mCons (mV 1) (mCons (mV 9) (mCons (mV 10) mNil)))) (mV 11))) mNil)) mNil)))))
    mNx)))))))
noncomputable def d_narrowed : List D → M D := mDef N_narrowed.length b_narrowed
theorem ok_narrowed {P : Program} {w : World} {K : PySem.W.Frag} {mg : Str → Option Value} {base : Heap} {a : Addr} {fd : FuncData} (F : Fun K "narrowed" "narrowed" s_narrowed a fd) (c_less_of : Cal P w K mg base 1 "less_of" P_less_of d_less_of) (c_greater_of : Cal P w K mg base 1 "greater_of" P_greater_of d_greater_of) (c_range_of : Cal P w K mg base 1 "range_of" P_range_of d_range_of) (z_tuple : mg "tuple" = none) : FnG P w K mg base 2 a fd P_narrowed d_narrowed :=
  fnG_of (N := N_narrowed) b_narrowed F sc_narrowed fun cdv A outer s H E hr hg =>
    (s_cons (s_asg (vs := [4, 5, 6]) (e_v 0) (g_tup (gs_cons (g_v sc_narrowed.nd) (gs_cons (g_v sc_narrowed.nd) (gs_cons (g_v sc_narrowed.nd) gs_nil)))))
    (s_cons (s_asg (vs := [7, 8]) (e_cal c_range_of hr hg (a_cons (e_v 0) (a_cons (e_v 1) a_nil))) (g_tup (gs_cons (g_v sc_narrowed.nd) (gs_cons (g_v sc_narrowed.nd) gs_nil))))
    (s_cons (s_asg (vs := [9, 10]) (e_tup (a_cons (e_cal c_greater_of hr hg (a_cons (e_v 7) (a_cons (e_v 2) a_nil))) (a_cons (e_cal c_less_of hr hg (a_cons (e_v 8) (a_cons (e_v 3) a_nil))) a_nil))) (g_tup (gs_cons (g_v sc_narrowed.nd) (gs_cons (g_v sc_narrowed.nd) gs_nil))))
    (s_cons (s_if (t_w (w_and (t_notN (e_v 9)) (w_and (t_notN (e_v 10)) (w_and1 (t_cmp op_gt m_gt (e_v 9) (e_v 10)))))) (s_cons (s_ret e_non)
    s_nil) s_nil)
    (s_cons (s_if (t_w (w_and (t_isN (e_v 9)) (w_and1 (t_isN (e_v 10))))) (s_cons (s_ret (e_tup (a_cons (e_v 4) (a_cons (e_v 5) (a_cons (e_callT call_tupF c_tuple (by rfl) z_tuple (by decide +kernel) (a_cons (e_lc rfl sc_narrowed.nd (own := [("one", 11)]) (blkOk_by (own := [("one", 11)]) (N := N_narrowed) (sc := defScope s_narrowed) (by decide +kernel)) (i_seq (e_v 6)) (fun _ _ _ _ _ => (g_v sc_narrowed.nd)) (fun _ _ _ _ _ => (ts_one (t_cmp (op_neP (uOf hr)) m_ne (e_ix (e_v 11) e_int) (e_v 1)))) (fun _ _ _ _ _ => (e_v 11))) a_nil)) a_nil)))))
    s_nil) s_nil)
    (s_cons (s_if (t_cmp (op_niP (uOf hr)) m_ni (e_v 1) (e_lc rfl sc_narrowed.nd (own := [("one", 11)]) (blkOk_by (own := [("one", 11)]) (N := N_narrowed) (sc := defScope s_narrowed) (by decide +kernel)) (i_seq (e_v 6)) (fun _ _ _ _ _ => (g_v sc_narrowed.nd)) (fun _ _ _ _ _ => ts_nil) (fun _ _ _ _ _ => (e_ix (e_v 11) e_int)))) (s_cons (s_ret (e_tup (a_cons (e_v 4) (a_cons (e_v 5) (a_cons (e_tup (a_star (e_v 6) (a_cons (e_tup (a_cons (e_v 1) (a_cons (e_v 9) (a_cons (e_v 10) a_nil)))) a_nil))) a_nil)))))
    s_nil) s_nil)
    (s_cons (s_ret (e_tup (a_cons (e_v 4) (a_cons (e_v 5) (a_cons (e_callT call_tupF c_tuple (by rfl) z_tuple (by decide +kernel) (a_cons (e_lc rfl sc_narrowed.nd (own := [("one", 11)]) (blkOk_by (own := [("one", 11)]) (N := N_narrowed) (sc := defScope s_narrowed) (by decide +kernel)) (i_seq (e_v 6)) (fun _ _ _ _ _ => (g_v sc_narrowed.nd)) (fun _ _ _ _ _ => ts_nil) (fun _ _ _ _ _ => (e_if (t_cmp (op_eqP (uOf hr)) m_eq (e_ix (e_v 11) e_int) (e_v 1)) (e_tup (a_cons (e_v 1) (a_cons (e_v 9) (a_cons (e_v 10) a_nil)))) (e_v 11)))) a_nil)) a_nil)))))
    s_nil)))))))
/-! ### _law_is_in_range -/
abbrev s_law_is_in_range : Stmt := topOf pw 28
abbrev N_law_is_in_range : List Str := ["_law_question", "_law_column", "_law_value", "_law_low", "_law_high"]
abbrev P_law_is_in_range : List Str := ["_law_question", "_law_column", "_law_value"]
theorem sc_law_is_in_range : FnScope N_law_is_in_range P_law_is_in_range (defScope s_law_is_in_range) := ⟨rfl, rfl, rfl, by decide +kernel, rfl, by decide +kernel, by decide +kernel⟩
noncomputable def b_law_is_in_range : SM := (mSeq (mAsg (mFn P_law_range_of.length d_law_range_of (mCons (mV 0) (mCons (mV 1) mNil))) (gT 2 (gsCons (gV 3) (gsCons (gV 4) gsNil))))
    (mSeq (mRet (mAndV (mOrV (mIsN (mV 3)) (mBin leM (mV 3) (mV 2))) (mOrV (mIsN (mV 4)) (mBin leM (mV 2) (mV 4)))))
    mNx))
noncomputable def d_law_is_in_range : List D → M D := mDef N_law_is_in_range.length b_law_is_in_range
theorem ok_law_is_in_range {P : Program} {w : World} {K : PySem.W.Frag} {mg : Str → Option Value} {base : Heap} {a : Addr} {fd : FuncData} (F : Fun K "_law_is_in_range" "_law_is_in_range" s_law_is_in_range a fd) (c_law_range_of : Cal P w K mg base 1 "_law_range_of" P_law_range_of d_law_range_of) : FnG P w K mg base 2 a fd P_law_is_in_range d_law_is_in_range :=
  fnG_of (N := N_law_is_in_range) b_law_is_in_range F sc_law_is_in_range fun cdv A outer s H E hr hg =>
    (s_cons (s_asg (vs := [3, 4]) (e_cal c_law_range_of hr hg (a_cons (e_v 0) (a_cons (e_v 1) a_nil))) (g_tup (gs_cons (g_v sc_law_is_in_range.nd) (gs_cons (g_v sc_law_is_in_range.nd) gs_nil))))
    (s_cons (s_ret (e_and (e_or (e_isN (e_v 3)) (e_one (e_cmp op_le m_le (e_v 3) (e_v 2)))) (e_one (e_or (e_isN (e_v 4)) (e_one (e_cmp op_le m_le (e_v 2) (e_v 4)))))))
    s_nil))
/-! ### _law_is_int -/
abbrev s_law_is_int : Stmt := topOf pw 19
abbrev N_law_is_int : List Str := ["_law_thing"]
abbrev P_law_is_int : List Str := ["_law_thing"]
theorem sc_law_is_int : FnScope N_law_is_int P_law_is_int (defScope s_law_is_int) := ⟨rfl, rfl, rfl, by decide +kernel, rfl, by decide +kernel, by decide +kernel⟩
noncomputable def b_law_is_int : SM := (mSeq (mRet (mAndV (mUn (isiM "int") (mV 0)) (mNotV (mUn (isiM "bool") (mV 0)))))
    mNx)
noncomputable def d_law_is_int : List D → M D := mDef N_law_is_int.length b_law_is_int
theorem ok_law_is_int {P : Program} {w : World} {K : PySem.W.Frag} {mg : Str → Option Value} {base : Heap} {a : Addr} {fd : FuncData} (F : Fun K "_law_is_int" "_law_is_int" s_law_is_int a fd) (z_isinstance : mg "isinstance" = none) (z_int : mg "int" = none) (z_bool : mg "bool" = none) : FnG P w K mg base 1 a fd P_law_is_int d_law_is_int :=
  fnG_of (N := N_law_is_int) b_law_is_int F sc_law_is_int fun cdv A outer s H E hr hg =>
    (s_cons (s_ret (e_and (e_isi (T := "int") z_isinstance z_int (e_v 0) (by rfl)) (e_one (e_not (e_isi (T := "bool") z_isinstance z_bool (e_v 0) (by rfl))))))
    s_nil)
/-! ### _law_is_point -/
abbrev s_law_is_point : Stmt := topOf pw 30
abbrev N_law_is_point : List Str := ["_law_question", "_law_thing", "_law_one", "_law_column", "_law_value"]
abbrev P_law_is_point : List Str := ["_law_question", "_law_thing"]
theorem sc_law_is_point : FnScope N_law_is_point P_law_is_point (defScope s_law_is_point) := ⟨rfl, rfl, rfl, by decide +kernel, rfl, by decide +kernel, by decide +kernel⟩
noncomputable def b_law_is_point : SM := (mSeq (mIfS (mOr (mNot (mTru (mUn (isiM "tuple") (mV 1)))) (mOr (mB (mBin neM (mCall lenM (mCons (mV 1) mNil)) (mCall lenM (mCons (mBin ixM (mV 0) (mC (.int 0))) mNil)))) (mB (mBin neM (mLc (mISeq (mV 1)) [2] (gV 2) (mNot (mTru (mFn P_law_is_int.length d_law_is_int (mCons (mV 2) mNil)))) (mC (.int 1))) (mLst mNil))))) (mSeq (mRet (mC (.bl false)))
    mNx) mNx)
    (mSeq (mRet (mBin eqM (mLc (fun rho => bnd ((mCons (mBin ixM (mV 0) (mC (.int 0))) (mCons (mV 1) mNil)) rho) zipM) [3, 4] (gT 2 (gsCons (gV 3) (gsCons (gV 4) gsNil))) (mNot (mTru (mFn P_law_is_in_range.length d_law_is_in_range (mCons (mV 0) (mCons (mV 3) (mCons (mV 4) mNil)))))) (mC (.int 1))) (mLst mNil)))
    mNx))
noncomputable def d_law_is_point : List D → M D := mDef N_law_is_point.length b_law_is_point
theorem ok_law_is_point {P : Program} {w : World} {K : PySem.W.Frag} {mg : Str → Option Value} {base : Heap} {a : Addr} {fd : FuncData} (F : Fun K "_law_is_point" "_law_is_point" s_law_is_point a fd) (c_law_is_in_range : Cal P w K mg base 2 "_law_is_in_range" P_law_is_in_range d_law_is_in_range) (c_law_is_int : Cal P w K mg base 2 "_law_is_int" P_law_is_int d_law_is_int) (z_zip : mg "zip" = none) (z_isinstance : mg "isinstance" = none) (z_tuple : mg "tuple" = none) (z_len : mg "len" = none) : FnG P w K mg base 3 a fd P_law_is_point d_law_is_point :=
  fnG_of (N := N_law_is_point) b_law_is_point F sc_law_is_point fun cdv A outer s H E hr hg =>
    (s_cons (s_if (t_w (w_or (t_not (t_tru (e_isi (T := "tuple") z_isinstance z_tuple (e_v 1) (by rfl)))) (w_or (t_cmp (op_neP (uOf hr)) m_ne (e_callB cr_len c_len (by rfl) z_len (by decide +kernel) (a_cons (e_v 1) a_nil)) (e_callB cr_len c_len (by rfl) z_len (by decide +kernel) (a_cons (e_ix (e_v 0) e_int) a_nil))) (w_or1 (t_cmp (op_neP (uOf hr)) m_ne (e_lc rfl sc_law_is_point.nd (own := [("_law_one", 2)]) (blkOk_by (own := [("_law_one", 2)]) (N := N_law_is_point) (sc := defScope s_law_is_point) (by decide +kernel)) (i_seq (e_v 1)) (fun _ _ _ _ _ => (g_v sc_law_is_point.nd)) (fun _ _ _ _ _ => (ts_one (t_not (t_tru (e_cal c_law_is_int hr hg (a_cons (e_v 2) a_nil)))))) (fun _ _ _ _ _ => e_int)) (e_lst a_nil)))))) (s_cons (s_ret e_bl)
    s_nil) s_nil)
    (s_cons (s_ret (e_cmp (op_eqP (uOf hr)) m_eq (e_lc rfl sc_law_is_point.nd (own := [("_law_column", 3), ("_law_value", 4)]) (blkOk_by (own := [("_law_column", 3), ("_law_value", 4)]) (N := N_law_is_point) (sc := defScope s_law_is_point) (by decide +kernel)) (i_zip z_zip (a_cons (e_ix (e_v 0) e_int) (a_cons (e_v 1) a_nil))) (fun _ _ _ _ _ => (g_tup (gs_cons (g_v sc_law_is_point.nd) (gs_cons (g_v sc_law_is_point.nd) gs_nil)))) (fun _ _ _ _ _ => (ts_one (t_not (t_tru (e_cal c_law_is_in_range hr hg (a_cons (e_v 0) (a_cons (e_v 3) (a_cons (e_v 4) a_nil)))))))) (fun _ _ _ _ _ => e_int)) (e_lst a_nil)))
    s_nil))
/-! ### is_integer -/
abbrev s_is_integer : Stmt := topOf pw 1
abbrev N_is_integer : List Str := ["thing"]
abbrev P_is_integer : List Str := ["thing"]
theorem sc_is_integer : FnScope N_is_integer P_is_integer (defScope s_is_integer) := ⟨rfl, rfl, rfl, by decide +kernel, rfl, by decide +kernel, by decide +kernel⟩
noncomputable def b_is_integer : SM := (mSeq (mRet (mAndV (mUn (isiM "int") (mV 0)) (mNotV (mUn (isiM "bool") (mV 0)))))
    mNx)
noncomputable def d_is_integer : List D → M D := mDef N_is_integer.length b_is_integer
theorem ok_is_integer {P : Program} {w : World} {K : PySem.W.Frag} {mg : Str → Option Value} {base : Heap} {a : Addr} {fd : FuncData} (F : Fun K "is_integer" "is_integer" s_is_integer a fd) (z_isinstance : mg "isinstance" = none) (z_int : mg "int" = none) (z_bool : mg "bool" = none) : FnG P w K mg base 1 a fd P_is_integer d_is_integer :=
  fnG_of (N := N_is_integer) b_is_integer F sc_is_integer fun cdv A outer s H E hr hg =>
    (s_cons (s_ret (e_and (e_isi (T := "int") z_isinstance z_int (e_v 0) (by rfl)) (e_one (e_not (e_isi (T := "bool") z_isinstance z_bool (e_v 0) (by rfl))))))
    s_nil)
/-! ### lets -/
abbrev s_lets : Stmt := topOf pw 5
abbrev N_lets : List Str := ["question", "column", "value", "low", "high"]
abbrev P_lets : List Str := ["question", "column", "value"]
theorem sc_lets : FnScope N_lets P_lets (defScope s_lets) := ⟨rfl, rfl, rfl, by decide +kernel, rfl, by decide +kernel, by decide +kernel⟩
noncomputable def b_lets : SM := (mSeq (mAsg (mFn P_range_of.length d_range_of (mCons (mV 0) (mCons (mV 1) mNil))) (gT 2 (gsCons (gV 3) (gsCons (gV 4) gsNil))))
    (mSeq (mRet (mAndV (mOrV (mIsN (mV 3)) (mBin geM (mV 2) (mV 3))) (mOrV (mIsN (mV 4)) (mBin leM (mV 2) (mV 4)))))
    mNx))
noncomputable def d_lets : List D → M D := mDef N_lets.length b_lets
theorem ok_lets {P : Program} {w : World} {K : PySem.W.Frag} {mg : Str → Option Value} {base : Heap} {a : Addr} {fd : FuncData} (F : Fun K "lets" "lets" s_lets a fd) (c_range_of : Cal P w K mg base 1 "range_of" P_range_of d_range_of) : FnG P w K mg base 2 a fd P_lets d_lets :=
  fnG_of (N := N_lets) b_lets F sc_lets fun cdv A outer s H E hr hg =>
    (s_cons (s_asg (vs := [3, 4]) (e_cal c_range_of hr hg (a_cons (e_v 0) (a_cons (e_v 1) a_nil))) (g_tup (gs_cons (g_v sc_lets.nd) (gs_cons (g_v sc_lets.nd) gs_nil))))
    (s_cons (s_ret (e_and (e_or (e_isN (e_v 3)) (e_one (e_cmp op_ge m_ge (e_v 2) (e_v 3)))) (e_one (e_or (e_isN (e_v 4)) (e_one (e_cmp op_le m_le (e_v 2) (e_v 4)))))))
    s_nil))
/-! ### is_point -/
abbrev s_is_point : Stmt := topOf pw 6
abbrev N_is_point : List Str := ["question", "thing", "columns", "column", "value"]
abbrev P_is_point : List Str := ["question", "thing"]
theorem sc_is_point : FnScope N_is_point P_is_point (defScope s_is_point) := ⟨rfl, rfl, rfl, by decide +kernel, rfl, by decide +kernel, by decide +kernel⟩
noncomputable def b_is_point : SM := (mSeq (mSet 2 (mBin ixM (mV 0) (mC (.int 0))))
    (mSeq (mIfS (mOr (mNot (mTru (mUn (isiM "tuple") (mV 1)))) (mB (mBin neM (mCall lenM (mCons (mV 1) mNil)) (mCall lenM (mCons (mV 2) mNil))))) (mSeq (mRet (mC (.bl false)))
    mNx) mNx)
    (mSeq (mRet (mCall allM (mCons (mLc (fun rho => bnd ((mCons (mV 2) (mCons (mV 1) mNil)) rho) zipM) [3, 4] (gT 2 (gsCons (gV 3) (gsCons (gV 4) gsNil))) mYes (mAndV (mFn P_is_integer.length d_is_integer (mCons (mV 4) mNil)) (mFn P_lets.length d_lets (mCons (mV 0) (mCons (mV 3) (mCons (mV 4) mNil)))))) mNil)))
    mNx)))
noncomputable def d_is_point : List D → M D := mDef N_is_point.length b_is_point
theorem ok_is_point {P : Program} {w : World} {K : PySem.W.Frag} {mg : Str → Option Value} {base : Heap} {a : Addr} {fd : FuncData} (F : Fun K "is_point" "is_point" s_is_point a fd) (c_is_integer : Cal P w K mg base 2 "is_integer" P_is_integer d_is_integer) (c_lets : Cal P w K mg base 2 "lets" P_lets d_lets) (z_zip : mg "zip" = none) (z_all : mg "all" = none) (z_isinstance : mg "isinstance" = none) (z_tuple : mg "tuple" = none) (z_len : mg "len" = none) : FnG P w K mg base 3 a fd P_is_point d_is_point :=
  fnG_of (N := N_is_point) b_is_point F sc_is_point fun cdv A outer s H E hr hg =>
    (s_cons (s_set sc_is_point.nd (e_ix (e_v 0) e_int))
    (s_cons (s_if (t_w (w_or (t_not (t_tru (e_isi (T := "tuple") z_isinstance z_tuple (e_v 1) (by rfl)))) (w_or1 (t_cmp (op_neP (uOf hr)) m_ne (e_callB cr_len c_len (by rfl) z_len (by decide +kernel) (a_cons (e_v 1) a_nil)) (e_callB cr_len c_len (by rfl) z_len (by decide +kernel) (a_cons (e_v 2) a_nil)))))) (s_cons (s_ret e_bl)
    s_nil) s_nil)
    (s_cons (s_ret (e_callB (cr_all rfl) c_all (by rfl) z_all (by decide +kernel) (a_cons (e_lc rfl sc_is_point.nd (own := [("column", 3), ("value", 4)]) (blkOk_by (own := [("column", 3), ("value", 4)]) (N := N_is_point) (sc := defScope s_is_point) (by decide +kernel)) (i_zip z_zip (a_cons (e_v 2) (a_cons (e_v 1) a_nil))) (fun _ _ _ _ _ => (g_tup (gs_cons (g_v sc_is_point.nd) (gs_cons (g_v sc_is_point.nd) gs_nil)))) (fun _ _ _ _ _ => ts_nil) (fun _ _ _ _ _ => (e_and (e_cal c_is_integer hr hg (a_cons (e_v 4) a_nil)) (e_one (e_cal c_lets hr hg (a_cons (e_v 0) (a_cons (e_v 3) (a_cons (e_v 4) a_nil)))))))) a_nil)))
    s_nil)))
/-! ### _law_some -/
abbrev s_law_some : Stmt := topOf pw 16
abbrev N_law_some : List Str := ["_law_bag_here", "_law_things"]
abbrev P_law_some : List Str := ["_law_bag_here", "_law_things"]
theorem sc_law_some : FnScope N_law_some P_law_some (defScope s_law_some) := ⟨rfl, rfl, rfl, by decide +kernel, rfl, by decide +kernel, by decide +kernel⟩
noncomputable def b_law_some : SM := (mSeq (mRet (mBin ixM (mV 1) (mFn P_law_take.length d_law_take (mCons (mV 0) (mCons (mCall lenM (mCons (mV 1) mNil)) mNil)))))
    mNx)
noncomputable def d_law_some : List D → M D := mDef N_law_some.length b_law_some
theorem ok_law_some {P : Program} {w : World} {K : PySem.W.Frag} {mg : Str → Option Value} {base : Heap} {a : Addr} {fd : FuncData} (F : Fun K "_law_some" "_law_some" s_law_some a fd) (c_law_take : Cal P w K mg base 1 "_law_take" P_law_take d_law_take) (z_len : mg "len" = none) : FnG P w K mg base 2 a fd P_law_some d_law_some :=
  fnG_of (N := N_law_some) b_law_some F sc_law_some fun cdv A outer s H E hr hg =>
    (s_cons (s_ret (e_ix (e_v 1) (e_cal c_law_take hr hg (a_cons (e_v 0) (a_cons (e_callB cr_len c_len (by rfl) z_len (by decide +kernel) (a_cons (e_v 1) a_nil)) a_nil)))))
    s_nil)
/-! ### _law_near_point -/
abbrev s_law_near_point : Stmt := topOf pw 32
abbrev N_law_near_point : List Str := ["_law_bag_here", "_law_question", "_law_point", "_law_column", "_law_ends", "_law_at", "_law_odd", "_law_end"]
abbrev P_law_near_point : List Str := ["_law_bag_here", "_law_question"]
theorem sc_law_near_point : FnScope N_law_near_point P_law_near_point (defScope s_law_near_point) := ⟨rfl, rfl, rfl, by decide +kernel, rfl, by decide +kernel, by decide +kernel⟩
noncomputable def b_law_near_point : SM := (mSeq (mSet 2 (mNew mNil))
    (mSeq (mFor (mISeq (mBin ixM (mV 1) (mC (.int 0)))) (gV 3) (mSeq (mSet 4 (mBin addM (mLc (mISeq (mFn P_law_range_of.length d_law_range_of (mCons (mV 1) (mCons (mV 3) mNil)))) [7] (gV 7) (mB (mNotN (mV 7))) (mV 7)) (mLst (mCons (mC (.int 0)) (mCons (mC (.int 3)) mNil)))))
    (mSeq (mDrop (mMet (mV 2) (mCons (mBin addM (mFn P_law_some.length d_law_some (mCons (mV 0) (mCons (mV 4) mNil))) (mFn P_law_some.length d_law_some (mCons (mV 0) (mCons (mLst (mCons (mC (.int 0)) (mCons (mC (.int 0)) (mCons (mC (.int 1)) (mCons (mUn negM (mC (.int 1))) (mCons (mBin subM (mBin powM (mC (.int 10)) (mC (.int 9))) (mC (.int 9))) mNil)))))) mNil)))) mNil) appM))
    mNx)))
    (mSeq (mPar 2 5 (mCons (mCall tupleM (mCons (mV 2) mNil)) (mCons (mFn P_law_take.length d_law_take (mCons (mV 0) (mCons (mCall lenM (mCons (mV 2) mNil)) mNil))) mNil)))
    (mSeq (mSet 6 (mLst (mCons (mV 2) (mCons (mV 2) (mCons (mBin addM (mV 2) (mTup (mCons (mC (.int 1)) mNil))) (mCons (mSl (mV 2) (mPart (mC (.int 1))) (fun _ => ret none)) (mCons (mCall listM (mCons (mV 2) mNil)) (mCons (mBin addM (mBin addM (mSl (mV 2) (fun _ => ret none) (mPart (mV 5))) (mTup (mCons (mC (.bl true)) mNil))) (mSl (mV 2) (mPart (mBin addM (mV 5) (mC (.int 1)))) (fun _ => ret none))) mNil))))))))
    (mSeq (mSet 6 (mBin addM (mV 6) (mLst (mCons (mBin addM (mBin addM (mSl (mV 2) (fun _ => ret none) (mPart (mV 5))) (mTup (mCons (mC .non) mNil))) (mSl (mV 2) (mPart (mBin addM (mV 5) (mC (.int 1)))) (fun _ => ret none))) (mCons (mBin addM (mBin addM (mSl (mV 2) (fun _ => ret none) (mPart (mV 5))) (mTup (mCons (mC (.str "1")) mNil))) (mSl (mV 2) (mPart (mBin addM (mV 5) (mC (.int 1)))) (fun _ => ret none))) (mCons (mC .non) (mCons (mTup mNil) (mCons (mC (.str "a")) (mCons mDic0 (mCons (mC (.int 5)) mNil))))))))))
    (mSeq (mRet (mFn P_law_some.length d_law_some (mCons (mV 0) (mCons (mV 6) mNil))))
    mNx))))))
noncomputable def d_law_near_point : List D → M D := mDef N_law_near_point.length b_law_near_point
theorem ok_law_near_point {P : Program} {w : World} {K : PySem.W.Frag} {mg : Str → Option Value} {base : Heap} {a : Addr} {fd : FuncData} (F : Fun K "_law_near_point" "_law_near_point" s_law_near_point a fd) (c_law_some : Cal P w K mg base 2 "_law_some" P_law_some d_law_some) (c_law_take : Cal P w K mg base 2 "_law_take" P_law_take d_law_take) (c_law_range_of : Cal P w K mg base 2 "_law_range_of" P_law_range_of d_law_range_of) (z_list : mg "list" = none) (z_len : mg "len" = none) (z_tuple : mg "tuple" = none) : FnG P w K mg base 3 a fd P_law_near_point d_law_near_point :=
  fnG_of (N := N_law_near_point) b_law_near_point F sc_law_near_point fun cdv A outer s H E hr hg =>
    (s_cons (s_set sc_law_near_point.nd (e_new a_nil))
    (s_cons (s_for (vs := [3]) PassesOwn.never (i_seq (e_ix (e_v 1) e_int)) (g_v sc_law_near_point.nd) (s_cons (s_set sc_law_near_point.nd (e_bin op_addP m_add (e_lc rfl sc_law_near_point.nd (own := [("_law_end", 7)]) (blkOk_by (own := [("_law_end", 7)]) (N := N_law_near_point) (sc := defScope s_law_near_point) (by decide +kernel)) (i_seq (e_cal c_law_range_of hr hg (a_cons (e_v 1) (a_cons (e_v 3) a_nil)))) (fun _ _ _ _ _ => (g_v sc_law_near_point.nd)) (fun _ _ _ _ _ => (ts_one (t_notN (e_v 7)))) (fun _ _ _ _ _ => (e_v 7))) (e_lst (a_cons e_int (a_cons e_int a_nil)))))
    (s_cons (s_expr (e_append (e_v 2) (a_cons (e_bin op_addP m_add (e_cal c_law_some hr hg (a_cons (e_v 0) (a_cons (e_v 4) a_nil))) (e_cal c_law_some hr hg (a_cons (e_v 0) (a_cons (e_lst (a_cons e_int (a_cons e_int (a_cons e_int (a_cons (e_un un_neg m_neg e_int) (a_cons (e_bin op_sub m_sub (e_bin op_pow m_pow e_int e_int) e_int) a_nil)))))) a_nil)))) a_nil)))
    s_nil)))
    (s_cons (s_par sc_law_near_point.nd (a_cons (e_callT call_tupF c_tuple (by rfl) z_tuple (by decide +kernel) (a_cons (e_v 2) a_nil)) (a_cons (e_cal c_law_take hr hg (a_cons (e_v 0) (a_cons (e_callB cr_len c_len (by rfl) z_len (by decide +kernel) (a_cons (e_v 2) a_nil)) a_nil))) a_nil)) (by rfl))
    (s_cons (s_set sc_law_near_point.nd (e_lst (a_cons (e_v 2) (a_cons (e_v 2) (a_cons (e_bin op_addP m_add (e_v 2) (e_tup (a_cons e_int a_nil))) (a_cons (e_sl (e_v 2) (o_some e_int) o_none) (a_cons (e_callT call_list_of c_list (by rfl) z_list (by decide +kernel) (a_cons (e_v 2) a_nil)) (a_cons (e_bin op_addP m_add (e_bin op_addP m_add (e_sl (e_v 2) o_none (o_some (e_v 5))) (e_tup (a_cons e_bl a_nil))) (e_sl (e_v 2) (o_some (e_bin op_addP m_add (e_v 5) e_int)) o_none)) a_nil))))))))
    (s_cons (s_set sc_law_near_point.nd (e_bin op_addP m_add (e_v 6) (e_lst (a_cons (e_bin op_addP m_add (e_bin op_addP m_add (e_sl (e_v 2) o_none (o_some (e_v 5))) (e_tup (a_cons e_non a_nil))) (e_sl (e_v 2) (o_some (e_bin op_addP m_add (e_v 5) e_int)) o_none)) (a_cons (e_bin op_addP m_add (e_bin op_addP m_add (e_sl (e_v 2) o_none (o_some (e_v 5))) (e_tup (a_cons e_str a_nil))) (e_sl (e_v 2) (o_some (e_bin op_addP m_add (e_v 5) e_int)) o_none)) (a_cons e_non (a_cons (e_tup a_nil) (a_cons e_str (a_cons e_dic0 (a_cons e_int a_nil))))))))))
    (s_cons (s_ret (e_cal c_law_some hr hg (a_cons (e_v 0) (a_cons (e_v 6) a_nil))))
    s_nil))))))
/-! ### part_of -/
abbrev s_part_of : Stmt := topOf pw 7
abbrev N_part_of : List Str := ["question", "atom", "point", "column"]
abbrev P_part_of : List Str := ["question", "atom", "point"]
theorem sc_part_of : FnScope N_part_of P_part_of (defScope s_part_of) := ⟨rfl, rfl, rfl, by decide +kernel, rfl, by decide +kernel, by decide +kernel⟩
noncomputable def b_part_of : SM := (mSeq (mRet (mCall tupleM (mCons (mLc (mISeq (mBin ixM (mBin ixM (mBin ixM (mV 0) (mC (.int 1))) (mV 1)) (mC (.int 2)))) [3] (gV 3) mYes (mBin ixM (mV 2) (mTIdx (mBin ixM (mV 0) (mC (.int 0))) (mCons (mV 3) mNil)))) mNil)))
    mNx)
noncomputable def d_part_of : List D → M D := mDef N_part_of.length b_part_of
theorem ok_part_of {P : Program} {w : World} {K : PySem.W.Frag} {mg : Str → Option Value} {base : Heap} {a : Addr} {fd : FuncData} (F : Fun K "part_of" "part_of" s_part_of a fd) (z_tuple : mg "tuple" = none) : FnG P w K mg base 1 a fd P_part_of d_part_of :=
  fnG_of (N := N_part_of) b_part_of F sc_part_of fun cdv A outer s H E hr hg =>
    (s_cons (s_ret (e_callT call_tupF c_tuple (by rfl) z_tuple (by decide +kernel) (a_cons (e_lc rfl sc_part_of.nd (own := [("column", 3)]) (blkOk_by (own := [("column", 3)]) (N := N_part_of) (sc := defScope s_part_of) (by decide +kernel)) (i_seq (e_ix (e_ix (e_ix (e_v 0) e_int) (e_v 1)) e_int)) (fun _ _ _ _ _ => (g_v sc_part_of.nd)) (fun _ _ _ _ _ => ts_nil) (fun _ _ _ _ _ => (e_ix (e_v 2) (e_tidx (e_ix (e_v 0) e_int) (a_cons (e_v 3) a_nil))))) a_nil)))
    s_nil)
/-! ### _law_part -/
abbrev s_law_part : Stmt := topOf pw 29
abbrev N_law_part : List Str := ["_law_question", "_law_index", "_law_point", "_law_column"]
abbrev P_law_part : List Str := ["_law_question", "_law_index", "_law_point"]
theorem sc_law_part : FnScope N_law_part P_law_part (defScope s_law_part) := ⟨rfl, rfl, rfl, by decide +kernel, rfl, by decide +kernel, by decide +kernel⟩
noncomputable def b_law_part : SM := (mSeq (mRet (mCall tupleM (mCons (mLc (mISeq (mBin ixM (mBin ixM (mBin ixM (mV 0) (mC (.int 1))) (mV 1)) (mC (.int 2)))) [3] (gV 3) mYes (mBin ixM (mV 2) (mTIdx (mBin ixM (mV 0) (mC (.int 0))) (mCons (mV 3) mNil)))) mNil)))
    mNx)
noncomputable def d_law_part : List D → M D := mDef N_law_part.length b_law_part
theorem ok_law_part {P : Program} {w : World} {K : PySem.W.Frag} {mg : Str → Option Value} {base : Heap} {a : Addr} {fd : FuncData} (F : Fun K "_law_part" "_law_part" s_law_part a fd) (z_tuple : mg "tuple" = none) : FnG P w K mg base 1 a fd P_law_part d_law_part :=
  fnG_of (N := N_law_part) b_law_part F sc_law_part fun cdv A outer s H E hr hg =>
    (s_cons (s_ret (e_callT call_tupF c_tuple (by rfl) z_tuple (by decide +kernel) (a_cons (e_lc rfl sc_law_part.nd (own := [("_law_column", 3)]) (blkOk_by (own := [("_law_column", 3)]) (N := N_law_part) (sc := defScope s_law_part) (by decide +kernel)) (i_seq (e_ix (e_ix (e_ix (e_v 0) e_int) (e_v 1)) e_int)) (fun _ _ _ _ _ => (g_v sc_law_part.nd)) (fun _ _ _ _ _ => ts_nil) (fun _ _ _ _ _ => (e_ix (e_v 2) (e_tidx (e_ix (e_v 0) e_int) (a_cons (e_v 3) a_nil))))) a_nil)))
    s_nil)
/-! ### _law_atoms_of -/
abbrev s_law_atoms_of : Stmt := topOf pw 26
abbrev N_law_atoms_of : List Str := ["_law_question", "_law_column", "_law_index", "_law_atom"]
abbrev P_law_atoms_of : List Str := ["_law_question", "_law_column"]
theorem sc_law_atoms_of : FnScope N_law_atoms_of P_law_atoms_of (defScope s_law_atoms_of) := ⟨rfl, rfl, rfl, by decide +kernel, rfl, by decide +kernel, by decide +kernel⟩
noncomputable def b_law_atoms_of : SM := (mSeq (mRet (mLc (fun rho => bnd ((mCons (mBin ixM (mV 0) (mC (.int 1))) mNil) rho) enumM) [2, 3] (gT 2 (gsCons (gV 2) (gsCons (gV 3) gsNil))) (mB (mBin inM (mV 1) (mBin ixM (mV 3) (mC (.int 2))))) (mV 2)))
    mNx)
noncomputable def d_law_atoms_of : List D → M D := mDef N_law_atoms_of.length b_law_atoms_of
theorem ok_law_atoms_of {P : Program} {w : World} {K : PySem.W.Frag} {mg : Str → Option Value} {base : Heap} {a : Addr} {fd : FuncData} (F : Fun K "_law_atoms_of" "_law_atoms_of" s_law_atoms_of a fd) (z_enumerate : mg "enumerate" = none) : FnG P w K mg base 1 a fd P_law_atoms_of d_law_atoms_of :=
  fnG_of (N := N_law_atoms_of) b_law_atoms_of F sc_law_atoms_of fun cdv A outer s H E hr hg =>
    (s_cons (s_ret (e_lc rfl sc_law_atoms_of.nd (own := [("_law_index", 2), ("_law_atom", 3)]) (blkOk_by (own := [("_law_index", 2), ("_law_atom", 3)]) (N := N_law_atoms_of) (sc := defScope s_law_atoms_of) (by decide +kernel)) (i_enum z_enumerate (a_cons (e_ix (e_v 0) e_int) a_nil)) (fun _ _ _ _ _ => (g_tup (gs_cons (g_v sc_law_atoms_of.nd) (gs_cons (g_v sc_law_atoms_of.nd) gs_nil)))) (fun _ _ _ _ _ => (ts_one (t_cmp (op_inP (uOf hr)) m_in (e_v 1) (e_ix (e_v 3) e_int)))) (fun _ _ _ _ _ => (e_v 2))))
    s_nil)
/-! ### atoms_of -/
abbrev s_atoms_of : Stmt := topOf pw 3
abbrev N_atoms_of : List Str := ["question", "column", "index", "atom"]
abbrev P_atoms_of : List Str := ["question", "column"]
theorem sc_atoms_of : FnScope N_atoms_of P_atoms_of (defScope s_atoms_of) := ⟨rfl, rfl, rfl, by decide +kernel, rfl, by decide +kernel, by decide +kernel⟩
noncomputable def b_atoms_of : SM := (mSeq (mRet (mCall tupleM (mCons (mLc (fun rho => bnd ((mCons (mBin ixM (mV 0) (mC (.int 1))) mNil) rho) enumM) [2, 3] (gT 2 (gsCons (gV 2) (gsCons (gV 3) gsNil))) (mB (mBin inM (mV 1) (mBin ixM (mV 3) (mC (.int 2))))) (mV 2)) mNil)))
    mNx)
noncomputable def d_atoms_of : List D → M D := mDef N_atoms_of.length b_atoms_of
theorem ok_atoms_of {P : Program} {w : World} {K : PySem.W.Frag} {mg : Str → Option Value} {base : Heap} {a : Addr} {fd : FuncData} (F : Fun K "atoms_of" "atoms_of" s_atoms_of a fd) (z_enumerate : mg "enumerate" = none) (z_tuple : mg "tuple" = none) : FnG P w K mg base 1 a fd P_atoms_of d_atoms_of :=
  fnG_of (N := N_atoms_of) b_atoms_of F sc_atoms_of fun cdv A outer s H E hr hg =>
    (s_cons (s_ret (e_callT call_tupF c_tuple (by rfl) z_tuple (by decide +kernel) (a_cons (e_lc rfl sc_atoms_of.nd (own := [("index", 2), ("atom", 3)]) (blkOk_by (own := [("index", 2), ("atom", 3)]) (N := N_atoms_of) (sc := defScope s_atoms_of) (by decide +kernel)) (i_enum z_enumerate (a_cons (e_ix (e_v 0) e_int) a_nil)) (fun _ _ _ _ _ => (g_tup (gs_cons (g_v sc_atoms_of.nd) (gs_cons (g_v sc_atoms_of.nd) gs_nil)))) (fun _ _ _ _ _ => (ts_one (t_cmp (op_inP (uOf hr)) m_in (e_v 1) (e_ix (e_v 3) e_int)))) (fun _ _ _ _ _ => (e_v 2))) a_nil)))
    s_nil)
/-! ### names_of -/
abbrev s_names_of : Stmt := topOf pw 8
abbrev N_names_of : List Str := ["question", "atom"]
abbrev P_names_of : List Str := ["question"]
theorem sc_names_of : FnScope N_names_of P_names_of (defScope s_names_of) := ⟨rfl, rfl, rfl, by decide +kernel, rfl, by decide +kernel, by decide +kernel⟩
noncomputable def b_names_of : SM := (mSeq (mRet (mCall tupleM (mCons (mCall sortM (mCons (mLc (mISeq (mBin ixM (mV 0) (mC (.int 1)))) [1] (gV 1) mYes (mBin ixM (mV 1) (mC (.int 1)))) mNil)) mNil)))
    mNx)
noncomputable def d_names_of : List D → M D := mDef N_names_of.length b_names_of
theorem ok_names_of {P : Program} {w : World} {K : PySem.W.Frag} {mg : Str → Option Value} {base : Heap} {a : Addr} {fd : FuncData} (F : Fun K "names_of" "names_of" s_names_of a fd) (z_sorted : mg "sorted" = none) (z_tuple : mg "tuple" = none) : FnG P w K mg base 1 a fd P_names_of d_names_of :=
  fnG_of (N := N_names_of) b_names_of F sc_names_of fun cdv A outer s H E hr hg =>
    (s_cons (s_ret (e_callT call_tupF c_tuple (by rfl) z_tuple (by decide +kernel) (a_cons (e_callB (cr_sortP (uOf hr)) c_sort (by rfl) z_sorted (by decide +kernel) (a_cons (e_lc rfl sc_names_of.nd (own := [("atom", 1)]) (blkOk_by (own := [("atom", 1)]) (N := N_names_of) (sc := defScope s_names_of) (by decide +kernel)) (i_seq (e_ix (e_v 0) e_int)) (fun _ _ _ _ _ => (g_v sc_names_of.nd)) (fun _ _ _ _ _ => ts_nil) (fun _ _ _ _ _ => (e_ix (e_v 1) e_int))) a_nil)) a_nil)))
    s_nil)
/-! ### _law_ranges -/
abbrev s_law_ranges : Stmt := topOf pw 24
abbrev N_law_ranges : List Str := ["_law_bag_here", "_law_columns", "_law_found", "_law_column", "_law_low", "_law_high"]
abbrev P_law_ranges : List Str := ["_law_bag_here", "_law_columns"]
theorem sc_law_ranges : FnScope N_law_ranges P_law_ranges (defScope s_law_ranges) := ⟨rfl, rfl, rfl, by decide +kernel, rfl, by decide +kernel, by decide +kernel⟩
noncomputable def b_law_ranges : SM := (mSeq (mSet 2 (mNew mNil))
    (mSeq (mFor (mISeq (mFn P_law_mixed.length d_law_mixed (mCons (mV 0) (mCons (mCall listM (mCons (mV 1) mNil)) mNil)))) (gV 3) (mSeq (mIfS (mB (mBin eqM (mFn P_law_take.length d_law_take (mCons (mV 0) (mCons (mC (.int 3)) mNil))) (mC (.int 0)))) (mSeq (mSet 4 (mFn P_law_some.length d_law_some (mCons (mV 0) (mCons (mLst (mCons (mC .non) (mCons (mC (.int 0)) (mCons (mC (.int 1)) (mCons (mC (.int 2)) (mCons (mUn negM (mC (.int 3))) mNil)))))) mNil))))
    (mSeq (mSet 5 (mFn P_law_some.length d_law_some (mCons (mV 0) (mCons (mLst (mCons (mC .non) (mCons (mC (.int 3)) (mCons (mC (.int 4)) (mCons (mC (.int 6)) (mCons (mIf (mB (mNotN (mV 4))) (mV 4) (mC (.int 2))) (mCons (mC (.int 5)) mNil))))))) mNil))))
    (mSeq (mDrop (mMet (mV 2) (mCons (mTup (mCons (mV 3) (mCons (mV 4) (mCons (mIf (mOr (mB (mIsN (mV 4))) (mOr (mB (mIsN (mV 5))) (mB (mBin leM (mV 4) (mV 5))))) (mV 5) (mV 4)) mNil)))) mNil) appM))
    mNx))) mNx)
    mNx))
    (mSeq (mRet (mCall tupleM (mCons (mV 2) mNil)))
    mNx)))
noncomputable def d_law_ranges : List D → M D := mDef N_law_ranges.length b_law_ranges
theorem ok_law_ranges {P : Program} {w : World} {K : PySem.W.Frag} {mg : Str → Option Value} {base : Heap} {a : Addr} {fd : FuncData} (F : Fun K "_law_ranges" "_law_ranges" s_law_ranges a fd) (c_law_mixed : Cal P w K mg base 2 "_law_mixed" P_law_mixed d_law_mixed) (c_law_take : Cal P w K mg base 2 "_law_take" P_law_take d_law_take) (c_law_some : Cal P w K mg base 2 "_law_some" P_law_some d_law_some) (z_tuple : mg "tuple" = none) (z_list : mg "list" = none) : FnG P w K mg base 3 a fd P_law_ranges d_law_ranges :=
  fnG_of (N := N_law_ranges) b_law_ranges F sc_law_ranges fun cdv A outer s H E hr hg =>
    (s_cons (s_set sc_law_ranges.nd (e_new a_nil))
    (s_cons (s_for (vs := [3]) PassesOwn.never (i_seq (e_cal c_law_mixed hr hg (a_cons (e_v 0) (a_cons (e_callT call_list_of c_list (by rfl) z_list (by decide +kernel) (a_cons (e_v 1) a_nil)) a_nil)))) (g_v sc_law_ranges.nd) (s_cons (s_if (t_cmp (op_eqP (uOf hr)) m_eq (e_cal c_law_take hr hg (a_cons (e_v 0) (a_cons e_int a_nil))) e_int) (s_cons (s_set sc_law_ranges.nd (e_cal c_law_some hr hg (a_cons (e_v 0) (a_cons (e_lst (a_cons e_non (a_cons e_int (a_cons e_int (a_cons e_int (a_cons (e_un un_neg m_neg e_int) a_nil)))))) a_nil))))
    (s_cons (s_set sc_law_ranges.nd (e_cal c_law_some hr hg (a_cons (e_v 0) (a_cons (e_lst (a_cons e_non (a_cons e_int (a_cons e_int (a_cons e_int (a_cons (e_if (t_notN (e_v 4)) (e_v 4) e_int) (a_cons e_int a_nil))))))) a_nil))))
    (s_cons (s_expr (e_append (e_v 2) (a_cons (e_tup (a_cons (e_v 3) (a_cons (e_v 4) (a_cons (e_if (t_w (w_or (t_isN (e_v 4)) (w_or (t_isN (e_v 5)) (w_or1 (t_cmp op_le m_le (e_v 4) (e_v 5)))))) (e_v 5) (e_v 4)) a_nil)))) a_nil)))
    s_nil))) s_nil)
    s_nil))
    (s_cons (s_ret (e_callT call_tupF c_tuple (by rfl) z_tuple (by decide +kernel) (a_cons (e_v 2) a_nil)))
    s_nil)))
/-! ### _law_line -/
abbrev s_law_line : Stmt := topOf pw 21
abbrev N_law_line : List Str := ["_law_parents", "_law_at", "_law_found"]
abbrev P_law_line : List Str := ["_law_parents", "_law_at"]
theorem sc_law_line : FnScope N_law_line P_law_line (defScope s_law_line) := ⟨rfl, rfl, rfl, by decide +kernel, rfl, by decide +kernel, by decide +kernel⟩
noncomputable def b_law_line : SM := (mSeq (mSet 2 (mLst (mCons (mV 1) mNil)))
    (mSeq (mWhile (mB (mNotN (mBin ixM (mV 0) (mBin ixM (mV 2) (mC (.int 0)))))) (mSeq (mSet 2 (mBin addM (mLst (mCons (mBin ixM (mV 0) (mBin ixM (mV 2) (mC (.int 0)))) mNil)) (mV 2)))
    mNx))
    (mSeq (mRet (mV 2))
    mNx)))
noncomputable def d_law_line : List D → M D := mDef N_law_line.length b_law_line
theorem ok_law_line {P : Program} {w : World} {K : PySem.W.Frag} {mg : Str → Option Value} {base : Heap} {a : Addr} {fd : FuncData} (F : Fun K "_law_line" "_law_line" s_law_line a fd) : FnG P w K mg base 1 a fd P_law_line d_law_line :=
  fnG_of (N := N_law_line) b_law_line F sc_law_line fun cdv A outer s H E hr hg =>
    (s_cons (s_set sc_law_line.nd (e_lst (a_cons (e_v 1) a_nil)))
    (s_cons (s_while PassesOwn.never (t_notN (e_ix (e_v 0) (e_ix (e_v 2) e_int))) (s_cons (s_set sc_law_line.nd (e_bin op_addP m_add (e_lst (a_cons (e_ix (e_v 0) (e_ix (e_v 2) e_int)) a_nil)) (e_v 2)))
    s_nil))
    (s_cons (s_ret (e_v 2))
    s_nil)))
/-! ### _law_columns_mixed -/
abbrev s_law_columns_mixed : Stmt := topOf pw 23
abbrev N_law_columns_mixed : List Str := ["_law_bag_here", "_law_names", "_law_parents", "_law_at", "_law_one"]
abbrev P_law_columns_mixed : List Str := ["_law_bag_here", "_law_names", "_law_parents", "_law_at"]
theorem sc_law_columns_mixed : FnScope N_law_columns_mixed P_law_columns_mixed (defScope s_law_columns_mixed) := ⟨rfl, rfl, rfl, by decide +kernel, rfl, by decide +kernel, by decide +kernel⟩
noncomputable def b_law_columns_mixed : SM := (mSeq (mRet (mCall tupleM (mCons (mFn P_law_mixed.length d_law_mixed (mCons (mV 0) (mCons (mLc (mISeq (mFn P_law_line.length d_law_line (mCons (mV 2) (mCons (mV 3) mNil)))) [4] (gV 4) mYes (mBin ixM (mV 1) (mV 4))) mNil))) mNil)))
    mNx)
noncomputable def d_law_columns_mixed : List D → M D := mDef N_law_columns_mixed.length b_law_columns_mixed
theorem ok_law_columns_mixed {P : Program} {w : World} {K : PySem.W.Frag} {mg : Str → Option Value} {base : Heap} {a : Addr} {fd : FuncData} (F : Fun K "_law_columns_mixed" "_law_columns_mixed" s_law_columns_mixed a fd) (c_law_mixed : Cal P w K mg base 2 "_law_mixed" P_law_mixed d_law_mixed) (c_law_line : Cal P w K mg base 2 "_law_line" P_law_line d_law_line) (z_tuple : mg "tuple" = none) : FnG P w K mg base 3 a fd P_law_columns_mixed d_law_columns_mixed :=
  fnG_of (N := N_law_columns_mixed) b_law_columns_mixed F sc_law_columns_mixed fun cdv A outer s H E hr hg =>
    (s_cons (s_ret (e_callT call_tupF c_tuple (by rfl) z_tuple (by decide +kernel) (a_cons (e_cal c_law_mixed hr hg (a_cons (e_v 0) (a_cons (e_lc rfl sc_law_columns_mixed.nd (own := [("_law_one", 4)]) (blkOk_by (own := [("_law_one", 4)]) (N := N_law_columns_mixed) (sc := defScope s_law_columns_mixed) (by decide +kernel)) (i_seq (e_cal c_law_line hr hg (a_cons (e_v 2) (a_cons (e_v 3) a_nil)))) (fun _ _ _ _ _ => (g_v sc_law_columns_mixed.nd)) (fun _ _ _ _ _ => ts_nil) (fun _ _ _ _ _ => (e_ix (e_v 1) (e_v 4)))) a_nil))) a_nil)))
    s_nil)
/-! ### _law_forest -/
abbrev s_law_forest : Stmt := topOf pw 20
abbrev N_law_forest : List Str := ["_law_bag_here", "_law_many", "_law_found", "_law_at"]
abbrev P_law_forest : List Str := ["_law_bag_here", "_law_many"]
theorem sc_law_forest : FnScope N_law_forest P_law_forest (defScope s_law_forest) := ⟨rfl, rfl, rfl, by decide +kernel, rfl, by decide +kernel, by decide +kernel⟩
noncomputable def b_law_forest : SM := (mSeq (mSet 2 (mNew mNil))
    (mSeq (mFor (mIR rng1M (mCons (mV 1) mNil)) (gV 3) (mSeq (mDrop (mMet (mV 2) (mCons (mFn P_law_some.length d_law_some (mCons (mV 0) (mCons (mBin addM (mBin addM (mLst (mCons (mC .non) mNil)) (mUn rg1M (mV 3))) (mUn rg1M (mV 3))) mNil))) mNil) appM))
    mNx))
    (mSeq (mRet (mV 2))
    mNx)))
noncomputable def d_law_forest : List D → M D := mDef N_law_forest.length b_law_forest
theorem ok_law_forest {P : Program} {w : World} {K : PySem.W.Frag} {mg : Str → Option Value} {base : Heap} {a : Addr} {fd : FuncData} (F : Fun K "_law_forest" "_law_forest" s_law_forest a fd) (c_law_some : Cal P w K mg base 2 "_law_some" P_law_some d_law_some) (z_range : mg "range" = none) (z_list : mg "list" = none) : FnG P w K mg base 3 a fd P_law_forest d_law_forest :=
  fnG_of (N := N_law_forest) b_law_forest F sc_law_forest fun cdv A outer s H E hr hg =>
    (s_cons (s_set sc_law_forest.nd (e_new a_nil))
    (s_cons (s_for (vs := [3]) PassesOwn.never (i_rng1 z_range (a_cons (e_v 1) a_nil)) (g_v sc_law_forest.nd) (s_cons (s_expr (e_append (e_v 2) (a_cons (e_cal c_law_some hr hg (a_cons (e_v 0) (a_cons (e_bin op_addP m_add (e_bin op_addP m_add (e_lst (a_cons e_non a_nil)) (e_listRg1 z_list z_range (e_v 3))) (e_listRg1 z_list z_range (e_v 3))) a_nil))) a_nil)))
    s_nil))
    (s_cons (s_ret (e_v 2))
    s_nil)))
/-! ### _law_nested_question -/
abbrev s_law_nested_question : Stmt := topOf pw 22
abbrev N_law_nested_question : List Str := ["_law_bag_here", "_law_most", "_law_names", "_law_parents", "_law_ends", "_law_at", "_law_turn", "_law_tables", "_law_atoms", "_law_word", "_law_table", "_law_columns"]
abbrev P_law_nested_question : List Str := ["_law_bag_here", "_law_most"]
theorem sc_law_nested_question : FnScope N_law_nested_question P_law_nested_question (defScope s_law_nested_question) := ⟨rfl, rfl, rfl, by decide +kernel, rfl, by decide +kernel, by decide +kernel⟩
noncomputable def b_law_nested_question : SM := (mSeq (mSet 2 (mSl (mFn P_law_mixed.length d_law_mixed (mCons (mV 0) (mCons (mLst (mCons (mC (.str "a")) (mCons (mC (.str "b")) (mCons (mC (.str "c")) (mCons (mC (.str "d")) (mCons (mC (.str "x1")) (mCons (mC (.str "y")) mNil))))))) mNil))) (fun _ => ret none) (mPart (mBin addM (mC (.int 1)) (mFn P_law_take.length d_law_take (mCons (mV 0) (mCons (mV 1) mNil)))))))
    (mSeq (mSet 3 (mFn P_law_forest.length d_law_forest (mCons (mV 0) (mCons (mCall lenM (mCons (mV 2) mNil)) mNil))))
    (mSeq (mSet 4 (mLcN (mIR rng1M (mCons (mCall lenM (mCons (mV 2) mNil)) mNil)) [5] (gV 5) (mB (mBin niM (mV 5) (mV 3))) (mTup (mCons (mC (.str "has")) (mCons (mV 5) mNil)))))
    (mSeq (mFor (mIR rng1M (mCons (mCall lenM (mCons (mV 2) mNil)) mNil)) (gV 5) (mSeq (mFor (mIR rng1M (mCons (mFn P_law_some.length d_law_some (mCons (mV 0) (mCons (mLst (mCons (mC (.int 0)) (mCons (mC (.int 0)) (mCons (mC (.int 1)) (mCons (mC (.int 1)) (mCons (mC (.int 2)) mNil)))))) mNil))) mNil)) (gV 6) (mSeq (mDrop (mMet (mV 4) (mCons (mTup (mCons (mFn P_law_some.length d_law_some (mCons (mV 0) (mCons (mLst (mCons (mC (.str "has")) (mCons (mC (.str "not")) (mCons (mC (.str "has")) mNil)))) mNil))) (mCons (mV 5) mNil))) mNil) appM))
    mNx))
    mNx))
    (mSeq (mPar 7 8 (mCons (mFn P_law_mixed.length d_law_mixed (mCons (mV 0) (mCons (mLst (mCons (mC (.str "r")) (mCons (mC (.str "s")) (mCons (mC (.str "t")) (mCons (mC (.str "u")) (mCons (mC (.str "v")) (mCons (mC (.str "w")) (mCons (mC (.str "p")) (mCons (mC (.str "q7")) mNil))))))))) mNil))) (mCons (mNew mNil) mNil)))
    (mSeq (mFor (fun rho => bnd ((mCons (mV 4) (mCons (mV 7) mNil)) rho) zipM) (gT 2 (gsCons (gT 2 (gsCons (gV 9) (gsCons (gV 5) gsNil))) (gsCons (gV 10) gsNil))) (mSeq (mDrop (mMet (mV 8) (mCons (mTup (mCons (mV 9) (mCons (mV 10) (mCons (mFn P_law_columns_mixed.length d_law_columns_mixed (mCons (mV 0) (mCons (mV 2) (mCons (mV 3) (mCons (mV 5) mNil))))) mNil)))) mNil) appM))
    mNx))
    (mSeq (mSet 11 (mCall tupleM (mCons (mFn P_law_mixed.length d_law_mixed (mCons (mV 0) (mCons (mV 2) mNil))) mNil)))
    (mSeq (mRet (mTup (mCons (mV 11) (mCons (mCall tupleM (mCons (mFn P_law_mixed.length d_law_mixed (mCons (mV 0) (mCons (mV 8) mNil))) mNil)) (mCons (mFn P_law_ranges.length d_law_ranges (mCons (mV 0) (mCons (mV 11) mNil))) mNil)))))
    mNx))))))))
noncomputable def d_law_nested_question : List D → M D := mDef N_law_nested_question.length b_law_nested_question
theorem ok_law_nested_question {P : Program} {w : World} {K : PySem.W.Frag} {mg : Str → Option Value} {base : Heap} {a : Addr} {fd : FuncData} (F : Fun K "_law_nested_question" "_law_nested_question" s_law_nested_question a fd) (c_law_ranges : Cal P w K mg base 3 "_law_ranges" P_law_ranges d_law_ranges) (c_law_mixed : Cal P w K mg base 3 "_law_mixed" P_law_mixed d_law_mixed) (c_law_columns_mixed : Cal P w K mg base 3 "_law_columns_mixed" P_law_columns_mixed d_law_columns_mixed) (c_law_some : Cal P w K mg base 3 "_law_some" P_law_some d_law_some) (c_law_forest : Cal P w K mg base 3 "_law_forest" P_law_forest d_law_forest) (c_law_take : Cal P w K mg base 3 "_law_take" P_law_take d_law_take) (z_tuple : mg "tuple" = none) (z_zip : mg "zip" = none) (z_len : mg "len" = none) (z_range : mg "range" = none) : FnG P w K mg base 4 a fd P_law_nested_question d_law_nested_question :=
  fnG_of (N := N_law_nested_question) b_law_nested_question F sc_law_nested_question fun cdv A outer s H E hr hg =>
    (s_cons (s_set sc_law_nested_question.nd (e_sl (e_cal c_law_mixed hr hg (a_cons (e_v 0) (a_cons (e_lst (a_cons e_str (a_cons e_str (a_cons e_str (a_cons e_str (a_cons e_str (a_cons e_str a_nil))))))) a_nil))) o_none (o_some (e_bin op_addP m_add e_int (e_cal c_law_take hr hg (a_cons (e_v 0) (a_cons (e_v 1) a_nil)))))))
    (s_cons (s_set sc_law_nested_question.nd (e_cal c_law_forest hr hg (a_cons (e_v 0) (a_cons (e_callB cr_len c_len (by rfl) z_len (by decide +kernel) (a_cons (e_v 2) a_nil)) a_nil))))
    (s_cons (s_setLcN rfl sc_law_nested_question.nd (own := [("_law_at", 5)]) (blkOk_by (own := [("_law_at", 5)]) (N := N_law_nested_question) (sc := defScope s_law_nested_question) (by decide +kernel)) (i_rng1 z_range (a_cons (e_callB cr_len c_len (by rfl) z_len (by decide +kernel) (a_cons (e_v 2) a_nil)) a_nil)) (fun _ _ _ _ _ => (g_v sc_law_nested_question.nd)) (fun _ _ _ _ _ => (ts_one (t_cmp (op_niP (uOf hr)) m_ni (e_v 5) (e_v 3)))) (fun _ _ _ _ _ => (e_tup (a_cons e_str (a_cons (e_v 5) a_nil)))) (sw_true rfl rfl rfl (by decide +kernel)))
    (s_cons (s_for (vs := [5]) PassesOwn.never (i_rng1 z_range (a_cons (e_callB cr_len c_len (by rfl) z_len (by decide +kernel) (a_cons (e_v 2) a_nil)) a_nil)) (g_v sc_law_nested_question.nd) (s_cons (s_for (vs := [6]) PassesOwn.never (i_rng1 z_range (a_cons (e_cal c_law_some hr hg (a_cons (e_v 0) (a_cons (e_lst (a_cons e_int (a_cons e_int (a_cons e_int (a_cons e_int (a_cons e_int a_nil)))))) a_nil))) a_nil)) (g_v sc_law_nested_question.nd) (s_cons (s_expr (e_append (e_v 4) (a_cons (e_tup (a_cons (e_cal c_law_some hr hg (a_cons (e_v 0) (a_cons (e_lst (a_cons e_str (a_cons e_str (a_cons e_str a_nil)))) a_nil))) (a_cons (e_v 5) a_nil))) a_nil)))
    s_nil))
    s_nil))
    (s_cons (s_par sc_law_nested_question.nd (a_cons (e_cal c_law_mixed hr hg (a_cons (e_v 0) (a_cons (e_lst (a_cons e_str (a_cons e_str (a_cons e_str (a_cons e_str (a_cons e_str (a_cons e_str (a_cons e_str (a_cons e_str a_nil))))))))) a_nil))) (a_cons (e_new a_nil) a_nil)) (by rfl))
    (s_cons (s_for (vs := [9, 5, 10]) PassesOwn.never (i_zip z_zip (a_cons (e_v 4) (a_cons (e_v 7) a_nil))) (g_tup (gs_cons (g_tup (gs_cons (g_v sc_law_nested_question.nd) (gs_cons (g_v sc_law_nested_question.nd) gs_nil))) (gs_cons (g_v sc_law_nested_question.nd) gs_nil))) (s_cons (s_expr (e_append (e_v 8) (a_cons (e_tup (a_cons (e_v 9) (a_cons (e_v 10) (a_cons (e_cal c_law_columns_mixed hr hg (a_cons (e_v 0) (a_cons (e_v 2) (a_cons (e_v 3) (a_cons (e_v 5) a_nil))))) a_nil)))) a_nil)))
    s_nil))
    (s_cons (s_set sc_law_nested_question.nd (e_callT call_tupF c_tuple (by rfl) z_tuple (by decide +kernel) (a_cons (e_cal c_law_mixed hr hg (a_cons (e_v 0) (a_cons (e_v 2) a_nil))) a_nil)))
    (s_cons (s_ret (e_tup (a_cons (e_v 11) (a_cons (e_callT call_tupF c_tuple (by rfl) z_tuple (by decide +kernel) (a_cons (e_cal c_law_mixed hr hg (a_cons (e_v 0) (a_cons (e_v 8) a_nil))) a_nil)) (a_cons (e_cal c_law_ranges hr hg (a_cons (e_v 0) (a_cons (e_v 11) a_nil))) a_nil)))))
    s_nil))))))))
/-! ### _law_crossing_question -/
abbrev s_law_crossing_question : Stmt := topOf pw 25
abbrev N_law_crossing_question : List Str := ["_law_bag_here", "_law_names", "_law_tables", "_law_atoms", "_law_turn", "_law_columns", "_law_met", "_law_word", "_law_table", "_law_left", "_law_name"]
abbrev P_law_crossing_question : List Str := ["_law_bag_here"]
theorem sc_law_crossing_question : FnScope N_law_crossing_question P_law_crossing_question (defScope s_law_crossing_question) := ⟨rfl, rfl, rfl, by decide +kernel, rfl, by decide +kernel, by decide +kernel⟩
noncomputable def b_law_crossing_question : SM := (mSeq (mSet 1 (mSl (mFn P_law_mixed.length d_law_mixed (mCons (mV 0) (mCons (mLst (mCons (mC (.str "a")) (mCons (mC (.str "b")) (mCons (mC (.str "c")) (mCons (mC (.str "d")) (mCons (mC (.str "x1")) mNil)))))) mNil))) (fun _ => ret none) (mPart (mBin addM (mC (.int 2)) (mFn P_law_take.length d_law_take (mCons (mV 0) (mCons (mC (.int 3)) mNil)))))))
    (mSeq (mPar 2 3 (mCons (mLst (mCons (mC (.str "r")) (mCons (mC (.str "s")) (mCons (mC (.str "t")) (mCons (mC (.str "u")) (mCons (mC (.str "v")) (mCons (mC (.str "w")) (mCons (mC (.str "p")) (mCons (mC (.str "q7")) mNil))))))))) (mCons (mNew mNil) mNil)))
    (mSeq (mFor (mIR rng1M (mCons (mBin addM (mC (.int 1)) (mFn P_law_take.length d_law_take (mCons (mV 0) (mCons (mC (.int 4)) mNil)))) mNil)) (gV 4) (mSeq (mSet 5 (mSl (mFn P_law_mixed.length d_law_mixed (mCons (mV 0) (mCons (mV 1) mNil))) (fun _ => ret none) (mPart (mFn P_law_some.length d_law_some (mCons (mV 0) (mCons (mLst (mCons (mC (.int 2)) (mCons (mC (.int 1)) (mCons (mC (.int 2)) (mCons (mC (.int 3)) mNil))))) mNil))))))
    (mSeq (mDrop (mMet (mV 3) (mCons (mTup (mCons (mFn P_law_some.length d_law_some (mCons (mV 0) (mCons (mLst (mCons (mC (.str "has")) (mCons (mC (.str "has")) (mCons (mC (.str "not")) mNil)))) mNil))) (mCons (mBin ixM (mV 2) (mV 4)) (mCons (mCall tupleM (mCons (mV 5) mNil)) mNil)))) mNil) appM))
    mNx)))
    (mSeq (mSet 6 (mNew mNil))
    (mSeq (mFor (mISeq (mV 3)) (gT 3 (gsCons (gV 7) (gsCons (gV 8) (gsCons (gV 5) gsNil)))) (mSeq (mDrop (mMet (mV 6) (mCons (mIf (mB (mBin eqM (mV 7) (mC (.str "has")))) (mCall listM (mCons (mV 5) mNil)) (mLst mNil)) mNil) extM))
    mNx))
    (mSeq (mSet 9 (mLc (mISeq (mV 1)) [10] (gV 10) (mB (mBin niM (mV 10) (mV 6))) (mV 10)))
    (mSeq (mIfS (mB (mBin neM (mV 9) (mLst mNil))) (mSeq (mDrop (mMet (mV 3) (mCons (mTup (mCons (mC (.str "has")) (mCons (mC (.str "q7")) (mCons (mCall tupleM (mCons (mV 9) mNil)) mNil)))) mNil) appM))
    mNx) mNx)
    (mSeq (mSet 5 (mCall tupleM (mCons (mFn P_law_mixed.length d_law_mixed (mCons (mV 0) (mCons (mV 1) mNil))) mNil)))
    (mSeq (mRet (mTup (mCons (mV 5) (mCons (mCall tupleM (mCons (mFn P_law_mixed.length d_law_mixed (mCons (mV 0) (mCons (mV 3) mNil))) mNil)) (mCons (mFn P_law_ranges.length d_law_ranges (mCons (mV 0) (mCons (mV 5) mNil))) mNil)))))
    mNx)))))))))
noncomputable def d_law_crossing_question : List D → M D := mDef N_law_crossing_question.length b_law_crossing_question
theorem ok_law_crossing_question {P : Program} {w : World} {K : PySem.W.Frag} {mg : Str → Option Value} {base : Heap} {a : Addr} {fd : FuncData} (F : Fun K "_law_crossing_question" "_law_crossing_question" s_law_crossing_question a fd) (c_law_ranges : Cal P w K mg base 3 "_law_ranges" P_law_ranges d_law_ranges) (c_law_mixed : Cal P w K mg base 3 "_law_mixed" P_law_mixed d_law_mixed) (c_law_take : Cal P w K mg base 3 "_law_take" P_law_take d_law_take) (c_law_some : Cal P w K mg base 3 "_law_some" P_law_some d_law_some) (z_tuple : mg "tuple" = none) (z_list : mg "list" = none) (z_range : mg "range" = none) : FnG P w K mg base 4 a fd P_law_crossing_question d_law_crossing_question :=
  fnG_of (N := N_law_crossing_question) b_law_crossing_question F sc_law_crossing_question fun cdv A outer s H E hr hg =>
    (s_cons (s_set sc_law_crossing_question.nd (e_sl (e_cal c_law_mixed hr hg (a_cons (e_v 0) (a_cons (e_lst (a_cons e_str (a_cons e_str (a_cons e_str (a_cons e_str (a_cons e_str a_nil)))))) a_nil))) o_none (o_some (e_bin op_addP m_add e_int (e_cal c_law_take hr hg (a_cons (e_v 0) (a_cons e_int a_nil)))))))
    (s_cons (s_par sc_law_crossing_question.nd (a_cons (e_lst (a_cons e_str (a_cons e_str (a_cons e_str (a_cons e_str (a_cons e_str (a_cons e_str (a_cons e_str (a_cons e_str a_nil))))))))) (a_cons (e_new a_nil) a_nil)) (by rfl))
    (s_cons (s_for (vs := [4]) PassesOwn.never (i_rng1 z_range (a_cons (e_bin op_addP m_add e_int (e_cal c_law_take hr hg (a_cons (e_v 0) (a_cons e_int a_nil)))) a_nil)) (g_v sc_law_crossing_question.nd) (s_cons (s_set sc_law_crossing_question.nd (e_sl (e_cal c_law_mixed hr hg (a_cons (e_v 0) (a_cons (e_v 1) a_nil))) o_none (o_some (e_cal c_law_some hr hg (a_cons (e_v 0) (a_cons (e_lst (a_cons e_int (a_cons e_int (a_cons e_int (a_cons e_int a_nil))))) a_nil))))))
    (s_cons (s_expr (e_append (e_v 3) (a_cons (e_tup (a_cons (e_cal c_law_some hr hg (a_cons (e_v 0) (a_cons (e_lst (a_cons e_str (a_cons e_str (a_cons e_str a_nil)))) a_nil))) (a_cons (e_ix (e_v 2) (e_v 4)) (a_cons (e_callT call_tupF c_tuple (by rfl) z_tuple (by decide +kernel) (a_cons (e_v 5) a_nil)) a_nil)))) a_nil)))
    s_nil)))
    (s_cons (s_set sc_law_crossing_question.nd (e_new a_nil))
    (s_cons (s_for (vs := [7, 8, 5]) PassesOwn.never (i_seq (e_v 3)) (g_tup (gs_cons (g_v sc_law_crossing_question.nd) (gs_cons (g_v sc_law_crossing_question.nd) (gs_cons (g_v sc_law_crossing_question.nd) gs_nil)))) (s_cons (s_expr (e_extend (e_v 6) (a_cons (e_if (t_cmp (op_eqP (uOf hr)) m_eq (e_v 7) e_str) (e_callT call_list_of c_list (by rfl) z_list (by decide +kernel) (a_cons (e_v 5) a_nil)) (e_lst a_nil)) a_nil)))
    s_nil))
    (s_cons (s_setLc rfl sc_law_crossing_question.nd (own := [("_law_name", 10)]) (blkOk_by (own := [("_law_name", 10)]) (N := N_law_crossing_question) (sc := defScope s_law_crossing_question) (by decide +kernel)) (i_seq (e_v 1)) (fun _ _ _ _ _ => (g_v sc_law_crossing_question.nd)) (fun _ _ _ _ _ => (ts_one (t_cmp (op_niP (uOf hr)) m_ni (e_v 10) (e_v 6)))) (fun _ _ _ _ _ => (e_v 10)) (sw_true rfl rfl rfl (by decide +kernel)))
    (s_cons (s_if (t_cmp (op_neP (uOf hr)) m_ne (e_v 9) (e_lst a_nil)) (s_cons (s_expr (e_append (e_v 3) (a_cons (e_tup (a_cons e_str (a_cons e_str (a_cons (e_callT call_tupF c_tuple (by rfl) z_tuple (by decide +kernel) (a_cons (e_v 9) a_nil)) a_nil)))) a_nil)))
    s_nil) s_nil)
    (s_cons (s_set sc_law_crossing_question.nd (e_callT call_tupF c_tuple (by rfl) z_tuple (by decide +kernel) (a_cons (e_cal c_law_mixed hr hg (a_cons (e_v 0) (a_cons (e_v 1) a_nil))) a_nil)))
    (s_cons (s_ret (e_tup (a_cons (e_v 5) (a_cons (e_callT call_tupF c_tuple (by rfl) z_tuple (by decide +kernel) (a_cons (e_cal c_law_mixed hr hg (a_cons (e_v 0) (a_cons (e_v 3) a_nil))) a_nil)) (a_cons (e_cal c_law_ranges hr hg (a_cons (e_v 0) (a_cons (e_v 5) a_nil))) a_nil)))))
    s_nil)))))))))
/-! ### _law_bag -/
abbrev s_law_bag : Stmt := topOf pw 14
abbrev N_law_bag : List Str := ["_law_script", "_law_cell"]
abbrev P_law_bag : List Str := ["_law_script"]
theorem sc_law_bag : FnScope N_law_bag P_law_bag (defScope s_law_bag) := ⟨rfl, rfl, rfl, by decide +kernel, rfl, by decide +kernel, by decide +kernel⟩
noncomputable def b_law_bag : SM := (mSeq (mRet (mNew (mCons (mC (.int 0)) (mCons (mC (.int 1234567891)) (mCons (mC (.int 0)) (mCons (mLc (mISeq (mSl (mV 0) (fun _ => ret none) (mPart (mC (.int 63))))) [1] (gV 1) mYes (mCall absM (mCons (mV 1) mNil))) mNil))))))
    mNx)
noncomputable def d_law_bag : List D → M D := mDef N_law_bag.length b_law_bag
theorem ok_law_bag {P : Program} {w : World} {K : PySem.W.Frag} {mg : Str → Option Value} {base : Heap} {a : Addr} {fd : FuncData} (F : Fun K "_law_bag" "_law_bag" s_law_bag a fd) (z_abs : mg "abs" = none) : FnG P w K mg base 1 a fd P_law_bag d_law_bag :=
  fnG_of (N := N_law_bag) b_law_bag F sc_law_bag fun cdv A outer s H E hr hg =>
    (s_cons (s_ret (e_new (a_cons e_int (a_cons e_int (a_cons e_int (a_cons (e_lc rfl sc_law_bag.nd (own := [("_law_cell", 1)]) (blkOk_by (own := [("_law_cell", 1)]) (N := N_law_bag) (sc := defScope s_law_bag) (by decide +kernel)) (i_seq (e_sl (e_v 0) o_none (o_some e_int))) (fun _ _ _ _ _ => (g_v sc_law_bag.nd)) (fun _ _ _ _ _ => ts_nil) (fun _ _ _ _ _ => (e_callB call_abs c_abs (by rfl) z_abs (by decide +kernel) (a_cons (e_v 1) a_nil)))) a_nil))))))
    s_nil)
/-! ### law -/
abbrev s_law : Stmt := topOf pw 33
abbrev N_law : List Str := ["_law_script", "_law_bag_here", "_law_turn", "_law_question", "_law_shown", "_law_columns", "_law_column", "_law_told", "_law_value", "_law_due", "_law_point", "_law_again", "_law_thing", "_law_low", "_law_high", "_law_kept", "_law_mixed_here", "_law_atom", "_law_end", "_law_more", "_law_index"]
abbrev P_law : List Str := ["_law_script"]
theorem sc_law : FnScope N_law P_law (defScope s_law) := ⟨rfl, rfl, rfl, by decide +kernel, rfl, by decide +kernel, by decide +kernel⟩
noncomputable def b_law : SM := (mSeq (mSet 1 (mFn P_law_bag.length d_law_bag (mCons (mV 0) mNil)))
    (mSeq (mFor (mIR rng1M (mCons (mC (.int 4)) mNil)) (gV 2) (mSeq (mSet 3 (mIf (mB (mBin gtM (mFn P_law_take.length d_law_take (mCons (mV 1) (mCons (mC (.int 3)) mNil))) (mC (.int 0)))) (mFn P_law_nested_question.length d_law_nested_question (mCons (mV 1) (mCons (mC (.int 5)) mNil))) (mFn P_law_crossing_question.length d_law_crossing_question (mCons (mV 1) mNil))))
    (mSeq (mPar 4 5 (mCons (mCall reprM (mCons (mV 3) mNil)) (mCons (mBin ixM (mV 3) (mC (.int 0))) mNil)))
    (mSeq (mIfS (mNot (mTru (mFn P_law_alike.length d_law_alike (mCons (mFn P_names_of.length d_names_of (mCons (mV 3) mNil)) (mCons (mCall tupleM (mCons (mCall sortM (mCons (mLc (mISeq (mBin ixM (mV 3) (mC (.int 1)))) [17] (gV 17) mYes (mBin ixM (mV 17) (mC (.int 1)))) mNil)) mNil)) mNil))))) (mSeq (mRet (mC (.bl false)))
    mNx) mNx)
    (mSeq (mFor (mISeq (mV 5)) (gV 6) (mSeq (mSet 7 (mLst (mCons (mFn P_atoms_of.length d_atoms_of (mCons (mV 3) (mCons (mV 6) mNil))) (mCons (mFn P_range_of.length d_range_of (mCons (mV 3) (mCons (mV 6) mNil))) mNil))))
    (mSeq (mIfS (mNot (mTru (mFn P_law_alike.length d_law_alike (mCons (mV 7) (mCons (mLst (mCons (mCall tupleM (mCons (mFn P_law_atoms_of.length d_law_atoms_of (mCons (mV 3) (mCons (mV 6) mNil))) mNil)) (mCons (mFn P_law_range_of.length d_law_range_of (mCons (mV 3) (mCons (mV 6) mNil))) mNil))) mNil))))) (mSeq (mRet (mC (.bl false)))
    mNx) mNx)
    (mSeq (mFor (mISeq (mBin addM (mLc (mISeq (mFn P_law_range_of.length d_law_range_of (mCons (mV 3) (mCons (mV 6) mNil)))) [18] (gV 18) (mB (mNotN (mV 18))) (mV 18)) (mLst (mCons (mC (.int 0)) (mCons (mBin subM (mC (.int 2)) (mBin powM (mC (.int 10)) (mC (.int 9)))) mNil))))) (gV 8) (mSeq (mSet 9 (mLc (mISeq (mTup (mCons (mUn negM (mC (.int 1))) (mCons (mC (.int 0)) (mCons (mC (.int 1)) mNil))))) [19] (gV 19) mYes (mFn P_law_is_in_range.length d_law_is_in_range (mCons (mV 3) (mCons (mV 6) (mCons (mBin addM (mV 8) (mV 19)) mNil))))))
    (mSeq (mIfS (mNot (mTru (mFn P_law_alike.length d_law_alike (mCons (mLc (mISeq (mTup (mCons (mUn negM (mC (.int 1))) (mCons (mC (.int 0)) (mCons (mC (.int 1)) mNil))))) [19] (gV 19) mYes (mFn P_lets.length d_lets (mCons (mV 3) (mCons (mV 6) (mCons (mBin addM (mV 8) (mV 19)) mNil))))) (mCons (mV 9) mNil))))) (mSeq (mRet (mC (.bl false)))
    mNx) mNx)
    mNx)))
    mNx))))
    (mSeq (mSet 10 (mCall tupleM (mCons (mLc (mISeq (mV 5)) [6] (gV 6) mYes (mFn P_law_take.length d_law_take (mCons (mV 1) (mCons (mC (.int 9)) mNil)))) mNil)))
    (mSeq (mSet 9 (mLc (mIR rng1M (mCons (mCall lenM (mCons (mBin ixM (mV 3) (mC (.int 1))) mNil)) mNil)) [20] (gV 20) mYes (mFn P_law_part.length d_law_part (mCons (mV 3) (mCons (mV 20) (mCons (mV 10) mNil))))))
    (mSeq (mIfS (mNot (mTru (mFn P_law_alike.length d_law_alike (mCons (mLc (mIR rng1M (mCons (mCall lenM (mCons (mBin ixM (mV 3) (mC (.int 1))) mNil)) mNil)) [20] (gV 20) mYes (mFn P_part_of.length d_part_of (mCons (mV 3) (mCons (mV 20) (mCons (mV 10) mNil))))) (mCons (mV 9) mNil))))) (mSeq (mRet (mC (.bl false)))
    mNx) mNx)
    (mSeq (mFor (mIR rng1M (mCons (mC (.int 5)) mNil)) (gV 11) (mSeq (mAsg (mTup (mCons (mFn P_law_near_point.length d_law_near_point (mCons (mV 1) (mCons (mV 3) mNil))) (mCons (mFn P_law_some.length d_law_some (mCons (mV 1) (mCons (mV 5) mNil))) mNil))) (gT 2 (gsCons (gV 12) (gsCons (gV 6) gsNil))))
    (mSeq (mPar 13 14 (mCons (mFn P_law_some.length d_law_some (mCons (mV 1) (mCons (mLst (mCons (mC .non) (mCons (mC (.int 0)) (mCons (mC (.int 2)) (mCons (mUn negM (mC (.int 3))) (mCons (mC (.int 5)) mNil)))))) mNil))) (mCons (mFn P_law_some.length d_law_some (mCons (mV 1) (mCons (mLst (mCons (mC .non) (mCons (mC (.int 4)) (mCons (mC (.int 1)) (mCons (mC (.int 6)) (mCons (mUn negM (mC (.int 4))) (mCons (mC (.int 2)) mNil))))))) mNil))) mNil)))
    (mSeq (mSet 15 (mCall reprM (mCons (mV 12) mNil)))
    (mSeq (mIfS (mOr (mNot (mTru (mFn P_law_alike.length d_law_alike (mCons (mFn P_is_point.length d_is_point (mCons (mV 3) (mCons (mV 12) mNil))) (mCons (mFn P_law_is_point.length d_law_is_point (mCons (mV 3) (mCons (mV 12) mNil))) mNil))))) (mB (mBin neM (mCall reprM (mCons (mV 12) mNil)) (mV 15)))) (mSeq (mRet (mC (.bl false)))
    mNx) mNx)
    (mSeq (mIfS (mNot (mTru (mFn P_law_alike.length d_law_alike (mCons (mFn P_narrowed.length d_narrowed (mCons (mV 3) (mCons (mV 6) (mCons (mV 13) (mCons (mV 14) mNil))))) (mCons (mFn P_law_narrowed.length d_law_narrowed (mCons (mV 3) (mCons (mV 6) (mCons (mV 13) (mCons (mV 14) mNil))))) mNil))))) (mSeq (mRet (mC (.bl false)))
    mNx) mNx)
    mNx))))))
    (mSeq (mSet 16 (mCall tupleM (mCons (mFn P_law_mixed.length d_law_mixed (mCons (mV 1) (mCons (mCall listM (mCons (mV 5) mNil)) mNil))) mNil)))
    (mSeq (mIfS (mOr (mNot (mTru (mFn P_law_alike.length d_law_alike (mCons (mFn P_in_order.length d_in_order (mCons (mV 3) (mCons (mV 16) mNil))) (mCons (mBin addM (mTup (mCons (mV 16) mNil)) (mSl (mV 3) (mPart (mC (.int 1))) (fun _ => ret none))) mNil))))) (mB (mBin neM (mCall reprM (mCons (mV 3) mNil)) (mV 4)))) (mSeq (mRet (mC (.bl false)))
    mNx) mNx)
    mNx)))))))))))
    (mSeq (mRet (mC (.bl true)))
    mNx)))
noncomputable def d_law : List D → M D := mDef N_law.length b_law
theorem ok_law {P : Program} {w : World} {K : PySem.W.Frag} {mg : Str → Option Value} {base : Heap} {a : Addr} {fd : FuncData} (F : Fun K "law" "law" s_law a fd) (c_law_alike : Cal P w K mg base 4 "_law_alike" P_law_alike d_law_alike) (c_in_order : Cal P w K mg base 4 "in_order" P_in_order d_in_order) (c_law_mixed : Cal P w K mg base 4 "_law_mixed" P_law_mixed d_law_mixed) (c_law_narrowed : Cal P w K mg base 4 "_law_narrowed" P_law_narrowed d_law_narrowed) (c_narrowed : Cal P w K mg base 4 "narrowed" P_narrowed d_narrowed) (c_law_is_point : Cal P w K mg base 4 "_law_is_point" P_law_is_point d_law_is_point) (c_is_point : Cal P w K mg base 4 "is_point" P_is_point d_is_point) (c_law_some : Cal P w K mg base 4 "_law_some" P_law_some d_law_some) (c_law_near_point : Cal P w K mg base 4 "_law_near_point" P_law_near_point d_law_near_point) (c_part_of : Cal P w K mg base 4 "part_of" P_part_of d_part_of) (c_law_part : Cal P w K mg base 4 "_law_part" P_law_part d_law_part) (c_law_take : Cal P w K mg base 4 "_law_take" P_law_take d_law_take) (c_law_range_of : Cal P w K mg base 4 "_law_range_of" P_law_range_of d_law_range_of) (c_lets : Cal P w K mg base 4 "lets" P_lets d_lets) (c_law_is_in_range : Cal P w K mg base 4 "_law_is_in_range" P_law_is_in_range d_law_is_in_range) (c_law_atoms_of : Cal P w K mg base 4 "_law_atoms_of" P_law_atoms_of d_law_atoms_of) (c_range_of : Cal P w K mg base 4 "range_of" P_range_of d_range_of) (c_atoms_of : Cal P w K mg base 4 "atoms_of" P_atoms_of d_atoms_of) (c_names_of : Cal P w K mg base 4 "names_of" P_names_of d_names_of) (c_law_nested_question : Cal P w K mg base 4 "_law_nested_question" P_law_nested_question d_law_nested_question) (c_law_crossing_question : Cal P w K mg base 4 "_law_crossing_question" P_law_crossing_question d_law_crossing_question) (c_law_bag : Cal P w K mg base 4 "_law_bag" P_law_bag d_law_bag) (z_range : mg "range" = none) (z_repr : mg "repr" = none) (z_list : mg "list" = none) (z_tuple : mg "tuple" = none) (z_len : mg "len" = none) (z_sorted : mg "sorted" = none) : FnG P w K mg base 5 a fd P_law d_law :=
  fnG_of (N := N_law) b_law F sc_law fun cdv A outer s H E hr hg =>
    (s_cons (s_set sc_law.nd (e_cal c_law_bag hr hg (a_cons (e_v 0) a_nil)))
    (s_cons (s_for (vs := [2]) PassesOwn.never (i_rng1 z_range (a_cons e_int a_nil)) (g_v sc_law.nd) (s_cons (s_set sc_law.nd (e_if (t_cmp op_gt m_gt (e_cal c_law_take hr hg (a_cons (e_v 1) (a_cons e_int a_nil))) e_int) (e_cal c_law_nested_question hr hg (a_cons (e_v 1) (a_cons e_int a_nil))) (e_cal c_law_crossing_question hr hg (a_cons (e_v 1) a_nil))))
    (s_cons (s_par sc_law.nd (a_cons (e_callB (cr_repr hg (uOf hr)) c_repr (by rfl) z_repr (by decide +kernel) (a_cons (e_v 3) a_nil)) (a_cons (e_ix (e_v 3) e_int) a_nil)) (by rfl))
    (s_cons (s_if (t_not (t_tru (e_cal c_law_alike hr hg (a_cons (e_cal c_names_of hr hg (a_cons (e_v 3) a_nil)) (a_cons (e_callT call_tupF c_tuple (by rfl) z_tuple (by decide +kernel) (a_cons (e_callB (cr_sortP (uOf hr)) c_sort (by rfl) z_sorted (by decide +kernel) (a_cons (e_lc rfl sc_law.nd (own := [("_law_atom", 17)]) (blkOk_by (own := [("_law_atom", 17)]) (N := N_law) (sc := defScope s_law) (by decide +kernel)) (i_seq (e_ix (e_v 3) e_int)) (fun _ _ _ _ _ => (g_v sc_law.nd)) (fun _ _ _ _ _ => ts_nil) (fun _ _ _ _ _ => (e_ix (e_v 17) e_int))) a_nil)) a_nil)) a_nil))))) (s_cons (s_ret e_bl)
    s_nil) s_nil)
    (s_cons (s_for (vs := [6]) PassesOwn.never (i_seq (e_v 5)) (g_v sc_law.nd) (s_cons (s_set sc_law.nd (e_lst (a_cons (e_cal c_atoms_of hr hg (a_cons (e_v 3) (a_cons (e_v 6) a_nil))) (a_cons (e_cal c_range_of hr hg (a_cons (e_v 3) (a_cons (e_v 6) a_nil))) a_nil))))
    (s_cons (s_if (t_not (t_tru (e_cal c_law_alike hr hg (a_cons (e_v 7) (a_cons (e_lst (a_cons (e_callT call_tupF c_tuple (by rfl) z_tuple (by decide +kernel) (a_cons (e_cal c_law_atoms_of hr hg (a_cons (e_v 3) (a_cons (e_v 6) a_nil))) a_nil)) (a_cons (e_cal c_law_range_of hr hg (a_cons (e_v 3) (a_cons (e_v 6) a_nil))) a_nil))) a_nil))))) (s_cons (s_ret e_bl)
    s_nil) s_nil)
    (s_cons (s_for (vs := [8]) PassesOwn.never (i_seq (e_bin op_addP m_add (e_lc rfl sc_law.nd (own := [("_law_end", 18)]) (blkOk_by (own := [("_law_end", 18)]) (N := N_law) (sc := defScope s_law) (by decide +kernel)) (i_seq (e_cal c_law_range_of hr hg (a_cons (e_v 3) (a_cons (e_v 6) a_nil)))) (fun _ _ _ _ _ => (g_v sc_law.nd)) (fun _ _ _ _ _ => (ts_one (t_notN (e_v 18)))) (fun _ _ _ _ _ => (e_v 18))) (e_lst (a_cons e_int (a_cons (e_bin op_sub m_sub e_int (e_bin op_pow m_pow e_int e_int)) a_nil))))) (g_v sc_law.nd) (s_cons (s_setLc rfl sc_law.nd (own := [("_law_more", 19)]) (blkOk_by (own := [("_law_more", 19)]) (N := N_law) (sc := defScope s_law) (by decide +kernel)) (i_seq (e_tup (a_cons (e_un un_neg m_neg e_int) (a_cons e_int (a_cons e_int a_nil))))) (fun _ _ _ _ _ => (g_v sc_law.nd)) (fun _ _ _ _ _ => ts_nil) (fun _ _ _ _ _ => (e_cal c_law_is_in_range hr hg (a_cons (e_v 3) (a_cons (e_v 6) (a_cons (e_bin op_addP m_add (e_v 8) (e_v 19)) a_nil))))) (sw_true rfl rfl rfl (by decide +kernel)))
    (s_cons (s_if (t_not (t_tru (e_cal c_law_alike hr hg (a_cons (e_lc rfl sc_law.nd (own := [("_law_more", 19)]) (blkOk_by (own := [("_law_more", 19)]) (N := N_law) (sc := defScope s_law) (by decide +kernel)) (i_seq (e_tup (a_cons (e_un un_neg m_neg e_int) (a_cons e_int (a_cons e_int a_nil))))) (fun _ _ _ _ _ => (g_v sc_law.nd)) (fun _ _ _ _ _ => ts_nil) (fun _ _ _ _ _ => (e_cal c_lets hr hg (a_cons (e_v 3) (a_cons (e_v 6) (a_cons (e_bin op_addP m_add (e_v 8) (e_v 19)) a_nil)))))) (a_cons (e_v 9) a_nil))))) (s_cons (s_ret e_bl)
    s_nil) s_nil)
    s_nil)))
    s_nil))))
    (s_cons (s_set sc_law.nd (e_callT call_tupF c_tuple (by rfl) z_tuple (by decide +kernel) (a_cons (e_lc rfl sc_law.nd (own := [("_law_column", 6)]) (blkOk_by (own := [("_law_column", 6)]) (N := N_law) (sc := defScope s_law) (by decide +kernel)) (i_seq (e_v 5)) (fun _ _ _ _ _ => (g_v sc_law.nd)) (fun _ _ _ _ _ => ts_nil) (fun _ _ _ _ _ => (e_cal c_law_take hr hg (a_cons (e_v 1) (a_cons e_int a_nil))))) a_nil)))
    (s_cons (s_setLc rfl sc_law.nd (own := [("_law_index", 20)]) (blkOk_by (own := [("_law_index", 20)]) (N := N_law) (sc := defScope s_law) (by decide +kernel)) (i_rng1 z_range (a_cons (e_callB cr_len c_len (by rfl) z_len (by decide +kernel) (a_cons (e_ix (e_v 3) e_int) a_nil)) a_nil)) (fun _ _ _ _ _ => (g_v sc_law.nd)) (fun _ _ _ _ _ => ts_nil) (fun _ _ _ _ _ => (e_cal c_law_part hr hg (a_cons (e_v 3) (a_cons (e_v 20) (a_cons (e_v 10) a_nil))))) (sw_true rfl rfl rfl (by decide +kernel)))
    (s_cons (s_if (t_not (t_tru (e_cal c_law_alike hr hg (a_cons (e_lc rfl sc_law.nd (own := [("_law_index", 20)]) (blkOk_by (own := [("_law_index", 20)]) (N := N_law) (sc := defScope s_law) (by decide +kernel)) (i_rng1 z_range (a_cons (e_callB cr_len c_len (by rfl) z_len (by decide +kernel) (a_cons (e_ix (e_v 3) e_int) a_nil)) a_nil)) (fun _ _ _ _ _ => (g_v sc_law.nd)) (fun _ _ _ _ _ => ts_nil) (fun _ _ _ _ _ => (e_cal c_part_of hr hg (a_cons (e_v 3) (a_cons (e_v 20) (a_cons (e_v 10) a_nil)))))) (a_cons (e_v 9) a_nil))))) (s_cons (s_ret e_bl)
    s_nil) s_nil)
    (s_cons (s_for (vs := [11]) PassesOwn.never (i_rng1 z_range (a_cons e_int a_nil)) (g_v sc_law.nd) (s_cons (s_asg (vs := [12, 6]) (e_tup (a_cons (e_cal c_law_near_point hr hg (a_cons (e_v 1) (a_cons (e_v 3) a_nil))) (a_cons (e_cal c_law_some hr hg (a_cons (e_v 1) (a_cons (e_v 5) a_nil))) a_nil))) (g_tup (gs_cons (g_v sc_law.nd) (gs_cons (g_v sc_law.nd) gs_nil))))
    (s_cons (s_par sc_law.nd (a_cons (e_cal c_law_some hr hg (a_cons (e_v 1) (a_cons (e_lst (a_cons e_non (a_cons e_int (a_cons e_int (a_cons (e_un un_neg m_neg e_int) (a_cons e_int a_nil)))))) a_nil))) (a_cons (e_cal c_law_some hr hg (a_cons (e_v 1) (a_cons (e_lst (a_cons e_non (a_cons e_int (a_cons e_int (a_cons e_int (a_cons (e_un un_neg m_neg e_int) (a_cons e_int a_nil))))))) a_nil))) a_nil)) (by rfl))
    (s_cons (s_set sc_law.nd (e_callB (cr_repr hg (uOf hr)) c_repr (by rfl) z_repr (by decide +kernel) (a_cons (e_v 12) a_nil)))
    (s_cons (s_if (t_w (w_or (t_not (t_tru (e_cal c_law_alike hr hg (a_cons (e_cal c_is_point hr hg (a_cons (e_v 3) (a_cons (e_v 12) a_nil))) (a_cons (e_cal c_law_is_point hr hg (a_cons (e_v 3) (a_cons (e_v 12) a_nil))) a_nil))))) (w_or1 (t_cmp (op_neP (uOf hr)) m_ne (e_callB (cr_repr hg (uOf hr)) c_repr (by rfl) z_repr (by decide +kernel) (a_cons (e_v 12) a_nil)) (e_v 15))))) (s_cons (s_ret e_bl)
    s_nil) s_nil)
    (s_cons (s_if (t_not (t_tru (e_cal c_law_alike hr hg (a_cons (e_cal c_narrowed hr hg (a_cons (e_v 3) (a_cons (e_v 6) (a_cons (e_v 13) (a_cons (e_v 14) a_nil))))) (a_cons (e_cal c_law_narrowed hr hg (a_cons (e_v 3) (a_cons (e_v 6) (a_cons (e_v 13) (a_cons (e_v 14) a_nil))))) a_nil))))) (s_cons (s_ret e_bl)
    s_nil) s_nil)
    s_nil))))))
    (s_cons (s_set sc_law.nd (e_callT call_tupF c_tuple (by rfl) z_tuple (by decide +kernel) (a_cons (e_cal c_law_mixed hr hg (a_cons (e_v 1) (a_cons (e_callT call_list_of c_list (by rfl) z_list (by decide +kernel) (a_cons (e_v 5) a_nil)) a_nil))) a_nil)))
    (s_cons (s_if (t_w (w_or (t_not (t_tru (e_cal c_law_alike hr hg (a_cons (e_cal c_in_order hr hg (a_cons (e_v 3) (a_cons (e_v 16) a_nil))) (a_cons (e_bin op_addP m_add (e_tup (a_cons (e_v 16) a_nil)) (e_sl (e_v 3) (o_some e_int) o_none)) a_nil))))) (w_or1 (t_cmp (op_neP (uOf hr)) m_ne (e_callB (cr_repr hg (uOf hr)) c_repr (by rfl) z_repr (by decide +kernel) (a_cons (e_v 3) a_nil)) (e_v 4))))) (s_cons (s_ret e_bl)
    s_nil) s_nil)
    s_nil)))))))))))
    (s_cons (s_ret e_bl)
    s_nil)))
/-! ### all of it -/
theorem all_mk {l : PySem.W.OpenLaw} {w : World} {K : PySem.W.Frag} {h : Heap} {mg : Str → Option Value} {fa : Addr} (X : K.In h) (G : h.Ns mainGlobals mg) (hfa : mg "law" = some (.ref fa))
    {f1 : Addr} {od1 an1 : Option Addr} {sl1 : Array (Option Value)} {oc1 kV1 dc1 pm1 cd1 ct1 : Value}
    (a1 : PySem.W.nsIn K mainGlobals "_law_alike" = some (some (.ref f1))) (l1 : K.lookup f1 = some ⟨oc1, od1, .func (PySem.W.fnOf "_law_alike" "_law_alike" (defArgs s_law_alike) (defBody s_law_alike) (defScope s_law_alike) .none kV1 dc1 pm1 an1 cd1 ct1), sl1⟩) (c1 : PySem.W.codeIn K cd1 "_law_alike" = true) (k1 : PySem.W.keepIn K (.ref f1) = true)
    {f2 : Addr} {od2 an2 : Option Addr} {sl2 : Array (Option Value)} {oc2 kV2 dc2 pm2 cd2 ct2 : Value}
    (a2 : PySem.W.nsIn K mainGlobals "in_order" = some (some (.ref f2))) (l2 : K.lookup f2 = some ⟨oc2, od2, .func (PySem.W.fnOf "in_order" "in_order" (defArgs s_in_order) (defBody s_in_order) (defScope s_in_order) .none kV2 dc2 pm2 an2 cd2 ct2), sl2⟩) (c2 : PySem.W.codeIn K cd2 "in_order" = true) (k2 : PySem.W.keepIn K (.ref f2) = true)
    {f3 : Addr} {od3 an3 : Option Addr} {sl3 : Array (Option Value)} {oc3 kV3 dc3 pm3 cd3 ct3 : Value}
    (a3 : PySem.W.nsIn K mainGlobals "_law_take" = some (some (.ref f3))) (l3 : K.lookup f3 = some ⟨oc3, od3, .func (PySem.W.fnOf "_law_take" "_law_take" (defArgs s_law_take) (defBody s_law_take) (defScope s_law_take) .none kV3 dc3 pm3 an3 cd3 ct3), sl3⟩) (c3 : PySem.W.codeIn K cd3 "_law_take" = true) (k3 : PySem.W.keepIn K (.ref f3) = true)
    {f4 : Addr} {od4 an4 : Option Addr} {sl4 : Array (Option Value)} {oc4 kV4 dc4 pm4 cd4 ct4 : Value}
    (a4 : PySem.W.nsIn K mainGlobals "_law_mixed" = some (some (.ref f4))) (l4 : K.lookup f4 = some ⟨oc4, od4, .func (PySem.W.fnOf "_law_mixed" "_law_mixed" (defArgs s_law_mixed) (defBody s_law_mixed) (defScope s_law_mixed) .none kV4 dc4 pm4 an4 cd4 ct4), sl4⟩) (c4 : PySem.W.codeIn K cd4 "_law_mixed" = true) (k4 : PySem.W.keepIn K (.ref f4) = true)
    {f5 : Addr} {od5 an5 : Option Addr} {sl5 : Array (Option Value)} {oc5 kV5 dc5 pm5 cd5 ct5 : Value}
    (a5 : PySem.W.nsIn K mainGlobals "_law_range_of" = some (some (.ref f5))) (l5 : K.lookup f5 = some ⟨oc5, od5, .func (PySem.W.fnOf "_law_range_of" "_law_range_of" (defArgs s_law_range_of) (defBody s_law_range_of) (defScope s_law_range_of) .none kV5 dc5 pm5 an5 cd5 ct5), sl5⟩) (c5 : PySem.W.codeIn K cd5 "_law_range_of" = true) (k5 : PySem.W.keepIn K (.ref f5) = true)
    {f6 : Addr} {od6 an6 : Option Addr} {sl6 : Array (Option Value)} {oc6 kV6 dc6 pm6 cd6 ct6 : Value}
    (a6 : PySem.W.nsIn K mainGlobals "_law_narrowed" = some (some (.ref f6))) (l6 : K.lookup f6 = some ⟨oc6, od6, .func (PySem.W.fnOf "_law_narrowed" "_law_narrowed" (defArgs s_law_narrowed) (defBody s_law_narrowed) (defScope s_law_narrowed) .none kV6 dc6 pm6 an6 cd6 ct6), sl6⟩) (c6 : PySem.W.codeIn K cd6 "_law_narrowed" = true) (k6 : PySem.W.keepIn K (.ref f6) = true)
    {f7 : Addr} {od7 an7 : Option Addr} {sl7 : Array (Option Value)} {oc7 kV7 dc7 pm7 cd7 ct7 : Value}
    (a7 : PySem.W.nsIn K mainGlobals "less_of" = some (some (.ref f7))) (l7 : K.lookup f7 = some ⟨oc7, od7, .func (PySem.W.fnOf "less_of" "less_of" (defArgs s_less_of) (defBody s_less_of) (defScope s_less_of) .none kV7 dc7 pm7 an7 cd7 ct7), sl7⟩) (c7 : PySem.W.codeIn K cd7 "less_of" = true) (k7 : PySem.W.keepIn K (.ref f7) = true)
    {f8 : Addr} {od8 an8 : Option Addr} {sl8 : Array (Option Value)} {oc8 kV8 dc8 pm8 cd8 ct8 : Value}
    (a8 : PySem.W.nsIn K mainGlobals "greater_of" = some (some (.ref f8))) (l8 : K.lookup f8 = some ⟨oc8, od8, .func (PySem.W.fnOf "greater_of" "greater_of" (defArgs s_greater_of) (defBody s_greater_of) (defScope s_greater_of) .none kV8 dc8 pm8 an8 cd8 ct8), sl8⟩) (c8 : PySem.W.codeIn K cd8 "greater_of" = true) (k8 : PySem.W.keepIn K (.ref f8) = true)
    {f9 : Addr} {od9 an9 : Option Addr} {sl9 : Array (Option Value)} {oc9 kV9 dc9 pm9 cd9 ct9 : Value}
    (a9 : PySem.W.nsIn K mainGlobals "range_of" = some (some (.ref f9))) (l9 : K.lookup f9 = some ⟨oc9, od9, .func (PySem.W.fnOf "range_of" "range_of" (defArgs s_range_of) (defBody s_range_of) (defScope s_range_of) .none kV9 dc9 pm9 an9 cd9 ct9), sl9⟩) (c9 : PySem.W.codeIn K cd9 "range_of" = true) (k9 : PySem.W.keepIn K (.ref f9) = true)
    {f10 : Addr} {od10 an10 : Option Addr} {sl10 : Array (Option Value)} {oc10 kV10 dc10 pm10 cd10 ct10 : Value}
    (a10 : PySem.W.nsIn K mainGlobals "narrowed" = some (some (.ref f10))) (l10 : K.lookup f10 = some ⟨oc10, od10, .func (PySem.W.fnOf "narrowed" "narrowed" (defArgs s_narrowed) (defBody s_narrowed) (defScope s_narrowed) .none kV10 dc10 pm10 an10 cd10 ct10), sl10⟩) (c10 : PySem.W.codeIn K cd10 "narrowed" = true) (k10 : PySem.W.keepIn K (.ref f10) = true)
    {f11 : Addr} {od11 an11 : Option Addr} {sl11 : Array (Option Value)} {oc11 kV11 dc11 pm11 cd11 ct11 : Value}
    (a11 : PySem.W.nsIn K mainGlobals "_law_is_in_range" = some (some (.ref f11))) (l11 : K.lookup f11 = some ⟨oc11, od11, .func (PySem.W.fnOf "_law_is_in_range" "_law_is_in_range" (defArgs s_law_is_in_range) (defBody s_law_is_in_range) (defScope s_law_is_in_range) .none kV11 dc11 pm11 an11 cd11 ct11), sl11⟩) (c11 : PySem.W.codeIn K cd11 "_law_is_in_range" = true) (k11 : PySem.W.keepIn K (.ref f11) = true)
    {f12 : Addr} {od12 an12 : Option Addr} {sl12 : Array (Option Value)} {oc12 kV12 dc12 pm12 cd12 ct12 : Value}
    (a12 : PySem.W.nsIn K mainGlobals "_law_is_int" = some (some (.ref f12))) (l12 : K.lookup f12 = some ⟨oc12, od12, .func (PySem.W.fnOf "_law_is_int" "_law_is_int" (defArgs s_law_is_int) (defBody s_law_is_int) (defScope s_law_is_int) .none kV12 dc12 pm12 an12 cd12 ct12), sl12⟩) (c12 : PySem.W.codeIn K cd12 "_law_is_int" = true) (k12 : PySem.W.keepIn K (.ref f12) = true)
    {f13 : Addr} {od13 an13 : Option Addr} {sl13 : Array (Option Value)} {oc13 kV13 dc13 pm13 cd13 ct13 : Value}
    (a13 : PySem.W.nsIn K mainGlobals "_law_is_point" = some (some (.ref f13))) (l13 : K.lookup f13 = some ⟨oc13, od13, .func (PySem.W.fnOf "_law_is_point" "_law_is_point" (defArgs s_law_is_point) (defBody s_law_is_point) (defScope s_law_is_point) .none kV13 dc13 pm13 an13 cd13 ct13), sl13⟩) (c13 : PySem.W.codeIn K cd13 "_law_is_point" = true) (k13 : PySem.W.keepIn K (.ref f13) = true)
    {f14 : Addr} {od14 an14 : Option Addr} {sl14 : Array (Option Value)} {oc14 kV14 dc14 pm14 cd14 ct14 : Value}
    (a14 : PySem.W.nsIn K mainGlobals "is_integer" = some (some (.ref f14))) (l14 : K.lookup f14 = some ⟨oc14, od14, .func (PySem.W.fnOf "is_integer" "is_integer" (defArgs s_is_integer) (defBody s_is_integer) (defScope s_is_integer) .none kV14 dc14 pm14 an14 cd14 ct14), sl14⟩) (c14 : PySem.W.codeIn K cd14 "is_integer" = true) (k14 : PySem.W.keepIn K (.ref f14) = true)
    {f15 : Addr} {od15 an15 : Option Addr} {sl15 : Array (Option Value)} {oc15 kV15 dc15 pm15 cd15 ct15 : Value}
    (a15 : PySem.W.nsIn K mainGlobals "lets" = some (some (.ref f15))) (l15 : K.lookup f15 = some ⟨oc15, od15, .func (PySem.W.fnOf "lets" "lets" (defArgs s_lets) (defBody s_lets) (defScope s_lets) .none kV15 dc15 pm15 an15 cd15 ct15), sl15⟩) (c15 : PySem.W.codeIn K cd15 "lets" = true) (k15 : PySem.W.keepIn K (.ref f15) = true)
    {f16 : Addr} {od16 an16 : Option Addr} {sl16 : Array (Option Value)} {oc16 kV16 dc16 pm16 cd16 ct16 : Value}
    (a16 : PySem.W.nsIn K mainGlobals "is_point" = some (some (.ref f16))) (l16 : K.lookup f16 = some ⟨oc16, od16, .func (PySem.W.fnOf "is_point" "is_point" (defArgs s_is_point) (defBody s_is_point) (defScope s_is_point) .none kV16 dc16 pm16 an16 cd16 ct16), sl16⟩) (c16 : PySem.W.codeIn K cd16 "is_point" = true) (k16 : PySem.W.keepIn K (.ref f16) = true)
    {f17 : Addr} {od17 an17 : Option Addr} {sl17 : Array (Option Value)} {oc17 kV17 dc17 pm17 cd17 ct17 : Value}
    (a17 : PySem.W.nsIn K mainGlobals "_law_some" = some (some (.ref f17))) (l17 : K.lookup f17 = some ⟨oc17, od17, .func (PySem.W.fnOf "_law_some" "_law_some" (defArgs s_law_some) (defBody s_law_some) (defScope s_law_some) .none kV17 dc17 pm17 an17 cd17 ct17), sl17⟩) (c17 : PySem.W.codeIn K cd17 "_law_some" = true) (k17 : PySem.W.keepIn K (.ref f17) = true)
    {f18 : Addr} {od18 an18 : Option Addr} {sl18 : Array (Option Value)} {oc18 kV18 dc18 pm18 cd18 ct18 : Value}
    (a18 : PySem.W.nsIn K mainGlobals "_law_near_point" = some (some (.ref f18))) (l18 : K.lookup f18 = some ⟨oc18, od18, .func (PySem.W.fnOf "_law_near_point" "_law_near_point" (defArgs s_law_near_point) (defBody s_law_near_point) (defScope s_law_near_point) .none kV18 dc18 pm18 an18 cd18 ct18), sl18⟩) (c18 : PySem.W.codeIn K cd18 "_law_near_point" = true) (k18 : PySem.W.keepIn K (.ref f18) = true)
    {f19 : Addr} {od19 an19 : Option Addr} {sl19 : Array (Option Value)} {oc19 kV19 dc19 pm19 cd19 ct19 : Value}
    (a19 : PySem.W.nsIn K mainGlobals "part_of" = some (some (.ref f19))) (l19 : K.lookup f19 = some ⟨oc19, od19, .func (PySem.W.fnOf "part_of" "part_of" (defArgs s_part_of) (defBody s_part_of) (defScope s_part_of) .none kV19 dc19 pm19 an19 cd19 ct19), sl19⟩) (c19 : PySem.W.codeIn K cd19 "part_of" = true) (k19 : PySem.W.keepIn K (.ref f19) = true)
    {f20 : Addr} {od20 an20 : Option Addr} {sl20 : Array (Option Value)} {oc20 kV20 dc20 pm20 cd20 ct20 : Value}
    (a20 : PySem.W.nsIn K mainGlobals "_law_part" = some (some (.ref f20))) (l20 : K.lookup f20 = some ⟨oc20, od20, .func (PySem.W.fnOf "_law_part" "_law_part" (defArgs s_law_part) (defBody s_law_part) (defScope s_law_part) .none kV20 dc20 pm20 an20 cd20 ct20), sl20⟩) (c20 : PySem.W.codeIn K cd20 "_law_part" = true) (k20 : PySem.W.keepIn K (.ref f20) = true)
    {f21 : Addr} {od21 an21 : Option Addr} {sl21 : Array (Option Value)} {oc21 kV21 dc21 pm21 cd21 ct21 : Value}
    (a21 : PySem.W.nsIn K mainGlobals "_law_atoms_of" = some (some (.ref f21))) (l21 : K.lookup f21 = some ⟨oc21, od21, .func (PySem.W.fnOf "_law_atoms_of" "_law_atoms_of" (defArgs s_law_atoms_of) (defBody s_law_atoms_of) (defScope s_law_atoms_of) .none kV21 dc21 pm21 an21 cd21 ct21), sl21⟩) (c21 : PySem.W.codeIn K cd21 "_law_atoms_of" = true) (k21 : PySem.W.keepIn K (.ref f21) = true)
    {f22 : Addr} {od22 an22 : Option Addr} {sl22 : Array (Option Value)} {oc22 kV22 dc22 pm22 cd22 ct22 : Value}
    (a22 : PySem.W.nsIn K mainGlobals "atoms_of" = some (some (.ref f22))) (l22 : K.lookup f22 = some ⟨oc22, od22, .func (PySem.W.fnOf "atoms_of" "atoms_of" (defArgs s_atoms_of) (defBody s_atoms_of) (defScope s_atoms_of) .none kV22 dc22 pm22 an22 cd22 ct22), sl22⟩) (c22 : PySem.W.codeIn K cd22 "atoms_of" = true) (k22 : PySem.W.keepIn K (.ref f22) = true)
    {f23 : Addr} {od23 an23 : Option Addr} {sl23 : Array (Option Value)} {oc23 kV23 dc23 pm23 cd23 ct23 : Value}
    (a23 : PySem.W.nsIn K mainGlobals "names_of" = some (some (.ref f23))) (l23 : K.lookup f23 = some ⟨oc23, od23, .func (PySem.W.fnOf "names_of" "names_of" (defArgs s_names_of) (defBody s_names_of) (defScope s_names_of) .none kV23 dc23 pm23 an23 cd23 ct23), sl23⟩) (c23 : PySem.W.codeIn K cd23 "names_of" = true) (k23 : PySem.W.keepIn K (.ref f23) = true)
    {f24 : Addr} {od24 an24 : Option Addr} {sl24 : Array (Option Value)} {oc24 kV24 dc24 pm24 cd24 ct24 : Value}
    (a24 : PySem.W.nsIn K mainGlobals "_law_ranges" = some (some (.ref f24))) (l24 : K.lookup f24 = some ⟨oc24, od24, .func (PySem.W.fnOf "_law_ranges" "_law_ranges" (defArgs s_law_ranges) (defBody s_law_ranges) (defScope s_law_ranges) .none kV24 dc24 pm24 an24 cd24 ct24), sl24⟩) (c24 : PySem.W.codeIn K cd24 "_law_ranges" = true) (k24 : PySem.W.keepIn K (.ref f24) = true)
    {f25 : Addr} {od25 an25 : Option Addr} {sl25 : Array (Option Value)} {oc25 kV25 dc25 pm25 cd25 ct25 : Value}
    (a25 : PySem.W.nsIn K mainGlobals "_law_line" = some (some (.ref f25))) (l25 : K.lookup f25 = some ⟨oc25, od25, .func (PySem.W.fnOf "_law_line" "_law_line" (defArgs s_law_line) (defBody s_law_line) (defScope s_law_line) .none kV25 dc25 pm25 an25 cd25 ct25), sl25⟩) (c25 : PySem.W.codeIn K cd25 "_law_line" = true) (k25 : PySem.W.keepIn K (.ref f25) = true)
    {f26 : Addr} {od26 an26 : Option Addr} {sl26 : Array (Option Value)} {oc26 kV26 dc26 pm26 cd26 ct26 : Value}
    (a26 : PySem.W.nsIn K mainGlobals "_law_columns_mixed" = some (some (.ref f26))) (l26 : K.lookup f26 = some ⟨oc26, od26, .func (PySem.W.fnOf "_law_columns_mixed" "_law_columns_mixed" (defArgs s_law_columns_mixed) (defBody s_law_columns_mixed) (defScope s_law_columns_mixed) .none kV26 dc26 pm26 an26 cd26 ct26), sl26⟩) (c26 : PySem.W.codeIn K cd26 "_law_columns_mixed" = true) (k26 : PySem.W.keepIn K (.ref f26) = true)
    {f27 : Addr} {od27 an27 : Option Addr} {sl27 : Array (Option Value)} {oc27 kV27 dc27 pm27 cd27 ct27 : Value}
    (a27 : PySem.W.nsIn K mainGlobals "_law_forest" = some (some (.ref f27))) (l27 : K.lookup f27 = some ⟨oc27, od27, .func (PySem.W.fnOf "_law_forest" "_law_forest" (defArgs s_law_forest) (defBody s_law_forest) (defScope s_law_forest) .none kV27 dc27 pm27 an27 cd27 ct27), sl27⟩) (c27 : PySem.W.codeIn K cd27 "_law_forest" = true) (k27 : PySem.W.keepIn K (.ref f27) = true)
    {f28 : Addr} {od28 an28 : Option Addr} {sl28 : Array (Option Value)} {oc28 kV28 dc28 pm28 cd28 ct28 : Value}
    (a28 : PySem.W.nsIn K mainGlobals "_law_nested_question" = some (some (.ref f28))) (l28 : K.lookup f28 = some ⟨oc28, od28, .func (PySem.W.fnOf "_law_nested_question" "_law_nested_question" (defArgs s_law_nested_question) (defBody s_law_nested_question) (defScope s_law_nested_question) .none kV28 dc28 pm28 an28 cd28 ct28), sl28⟩) (c28 : PySem.W.codeIn K cd28 "_law_nested_question" = true) (k28 : PySem.W.keepIn K (.ref f28) = true)
    {f29 : Addr} {od29 an29 : Option Addr} {sl29 : Array (Option Value)} {oc29 kV29 dc29 pm29 cd29 ct29 : Value}
    (a29 : PySem.W.nsIn K mainGlobals "_law_crossing_question" = some (some (.ref f29))) (l29 : K.lookup f29 = some ⟨oc29, od29, .func (PySem.W.fnOf "_law_crossing_question" "_law_crossing_question" (defArgs s_law_crossing_question) (defBody s_law_crossing_question) (defScope s_law_crossing_question) .none kV29 dc29 pm29 an29 cd29 ct29), sl29⟩) (c29 : PySem.W.codeIn K cd29 "_law_crossing_question" = true) (k29 : PySem.W.keepIn K (.ref f29) = true)
    {f30 : Addr} {od30 an30 : Option Addr} {sl30 : Array (Option Value)} {oc30 kV30 dc30 pm30 cd30 ct30 : Value}
    (a30 : PySem.W.nsIn K mainGlobals "_law_bag" = some (some (.ref f30))) (l30 : K.lookup f30 = some ⟨oc30, od30, .func (PySem.W.fnOf "_law_bag" "_law_bag" (defArgs s_law_bag) (defBody s_law_bag) (defScope s_law_bag) .none kV30 dc30 pm30 an30 cd30 ct30), sl30⟩) (c30 : PySem.W.codeIn K cd30 "_law_bag" = true) (k30 : PySem.W.keepIn K (.ref f30) = true)
    {f31 : Addr} {od31 an31 : Option Addr} {sl31 : Array (Option Value)} {oc31 kV31 dc31 pm31 cd31 ct31 : Value}
    (a31 : PySem.W.nsIn K mainGlobals "law" = some (some (.ref f31))) (l31 : K.lookup f31 = some ⟨oc31, od31, .func (PySem.W.fnOf "law" "law" (defArgs s_law) (defBody s_law) (defScope s_law) .none kV31 dc31 pm31 an31 cd31 ct31), sl31⟩) (c31 : PySem.W.codeIn K cd31 "law" = true) (k31 : PySem.W.keepIn K (.ref f31) = true)
    (z_repr : PySem.W.nsIn K mainGlobals "repr" = some none)
    (z_tuple : PySem.W.nsIn K mainGlobals "tuple" = some none)
    (z_int : PySem.W.nsIn K mainGlobals "int" = some none)
    (z_len : PySem.W.nsIn K mainGlobals "len" = some none)
    (z_min : PySem.W.nsIn K mainGlobals "min" = some none)
    (z_max : PySem.W.nsIn K mainGlobals "max" = some none)
    (z_isinstance : PySem.W.nsIn K mainGlobals "isinstance" = some none)
    (z_bool : PySem.W.nsIn K mainGlobals "bool" = some none)
    (z_zip : PySem.W.nsIn K mainGlobals "zip" = some none)
    (z_all : PySem.W.nsIn K mainGlobals "all" = some none)
    (z_list : PySem.W.nsIn K mainGlobals "list" = some none)
    (z_enumerate : PySem.W.nsIn K mainGlobals "enumerate" = some none)
    (z_sorted : PySem.W.nsIn K mainGlobals "sorted" = some none)
    (z_range : PySem.W.nsIn K mainGlobals "range" = some none)
    (z_abs : PySem.W.nsIn K mainGlobals "abs" = some none)
    : ∃ fd : FuncData, (∀ (s : Shared) (v : Value), BindsTo s fd ⟨[v], []⟩ [("_law_script", v)]) ∧ ∀ base : Heap, K.In base → base.Ns mainGlobals mg → FnG l.prog w K mg base 5 fa fd ["_law_script"] d_law := by
  have e := hfa.symm.trans (PySem.W.mg_of X G a31)
  cases e
  refine ⟨PySem.W.fnOf "law" "law" (defArgs s_law) (defBody s_law) (defScope s_law) .none kV31 dc31 pm31 an31 cd31 ct31, fun s v => .of_eq rfl, fun base _ _ => ?_⟩
  have y_repr := PySem.W.mg_none_of X G z_repr
  have y_tuple := PySem.W.mg_none_of X G z_tuple
  have y_int := PySem.W.mg_none_of X G z_int
  have y_len := PySem.W.mg_none_of X G z_len
  have y_min := PySem.W.mg_none_of X G z_min
  have y_max := PySem.W.mg_none_of X G z_max
  have y_isinstance := PySem.W.mg_none_of X G z_isinstance
  have y_bool := PySem.W.mg_none_of X G z_bool
  have y_zip := PySem.W.mg_none_of X G z_zip
  have y_all := PySem.W.mg_none_of X G z_all
  have y_list := PySem.W.mg_none_of X G z_list
  have y_enumerate := PySem.W.mg_none_of X G z_enumerate
  have y_sorted := PySem.W.mg_none_of X G z_sorted
  have y_range := PySem.W.mg_none_of X G z_range
  have y_abs := PySem.W.mg_none_of X G z_abs
  have F1 := fun_mk (st := s_law_alike) l1 c1 k1
  have C_law_alike : Cal l.prog w K mg base 1 "_law_alike" P_law_alike d_law_alike := ⟨f1, _, ok_law_alike F1 y_repr, PySem.W.mg_of X G a1, k1, F1.binds (ps := P_law_alike) fun _ _ _ _ _ _ us hl => match us, hl with | [_, _], _ => rfl⟩
  have F2 := fun_mk (st := s_in_order) l2 c2 k2
  have C_in_order : Cal l.prog w K mg base 1 "in_order" P_in_order d_in_order := ⟨f2, _, ok_in_order F2 y_tuple, PySem.W.mg_of X G a2, k2, F2.binds (ps := P_in_order) fun _ _ _ _ _ _ us hl => match us, hl with | [_, _], _ => rfl⟩
  have F3 := fun_mk (st := s_law_take) l3 c3 k3
  have C_law_take : Cal l.prog w K mg base 1 "_law_take" P_law_take d_law_take := ⟨f3, _, ok_law_take F3 y_int, PySem.W.mg_of X G a3, k3, F3.binds (ps := P_law_take) fun _ _ _ _ _ _ us hl => match us, hl with | [_, _], _ => rfl⟩
  have F4 := fun_mk (st := s_law_mixed) l4 c4 k4
  have C_law_mixed : Cal l.prog w K mg base 2 "_law_mixed" P_law_mixed d_law_mixed := ⟨f4, _, ok_law_mixed F4 (C_law_take.mono (by decide)) y_len, PySem.W.mg_of X G a4, k4, F4.binds (ps := P_law_mixed) fun _ _ _ _ _ _ us hl => match us, hl with | [_, _], _ => rfl⟩
  have F5 := fun_mk (st := s_law_range_of) l5 c5 k5
  have C_law_range_of : Cal l.prog w K mg base 1 "_law_range_of" P_law_range_of d_law_range_of := ⟨f5, _, ok_law_range_of F5, PySem.W.mg_of X G a5, k5, F5.binds (ps := P_law_range_of) fun _ _ _ _ _ _ us hl => match us, hl with | [_, _], _ => rfl⟩
  have F6 := fun_mk (st := s_law_narrowed) l6 c6 k6
  have C_law_narrowed : Cal l.prog w K mg base 2 "_law_narrowed" P_law_narrowed d_law_narrowed := ⟨f6, _, ok_law_narrowed F6 (C_law_range_of.mono (by decide)) y_tuple y_min y_max, PySem.W.mg_of X G a6, k6, F6.binds (ps := P_law_narrowed) fun _ _ _ _ _ _ us hl => match us, hl with | [_, _, _, _], _ => rfl⟩
  have F7 := fun_mk (st := s_less_of) l7 c7 k7
  have C_less_of : Cal l.prog w K mg base 1 "less_of" P_less_of d_less_of := ⟨f7, _, ok_less_of F7 y_min, PySem.W.mg_of X G a7, k7, F7.binds (ps := P_less_of) fun _ _ _ _ _ _ us hl => match us, hl with | [_, _], _ => rfl⟩
  have F8 := fun_mk (st := s_greater_of) l8 c8 k8
  have C_greater_of : Cal l.prog w K mg base 1 "greater_of" P_greater_of d_greater_of := ⟨f8, _, ok_greater_of F8 y_max, PySem.W.mg_of X G a8, k8, F8.binds (ps := P_greater_of) fun _ _ _ _ _ _ us hl => match us, hl with | [_, _], _ => rfl⟩
  have F9 := fun_mk (st := s_range_of) l9 c9 k9
  have C_range_of : Cal l.prog w K mg base 1 "range_of" P_range_of d_range_of := ⟨f9, _, ok_range_of F9, PySem.W.mg_of X G a9, k9, F9.binds (ps := P_range_of) fun _ _ _ _ _ _ us hl => match us, hl with | [_, _], _ => rfl⟩
  have F10 := fun_mk (st := s_narrowed) l10 c10 k10
  have C_narrowed : Cal l.prog w K mg base 2 "narrowed" P_narrowed d_narrowed := ⟨f10, _, ok_narrowed F10 (C_less_of.mono (by decide)) (C_greater_of.mono (by decide)) (C_range_of.mono (by decide)) y_tuple, PySem.W.mg_of X G a10, k10, F10.binds (ps := P_narrowed) fun _ _ _ _ _ _ us hl => match us, hl with | [_, _, _, _], _ => rfl⟩
  have F11 := fun_mk (st := s_law_is_in_range) l11 c11 k11
  have C_law_is_in_range : Cal l.prog w K mg base 2 "_law_is_in_range" P_law_is_in_range d_law_is_in_range := ⟨f11, _, ok_law_is_in_range F11 (C_law_range_of.mono (by decide)), PySem.W.mg_of X G a11, k11, F11.binds (ps := P_law_is_in_range) fun _ _ _ _ _ _ us hl => match us, hl with | [_, _, _], _ => rfl⟩
  have F12 := fun_mk (st := s_law_is_int) l12 c12 k12
  have C_law_is_int : Cal l.prog w K mg base 1 "_law_is_int" P_law_is_int d_law_is_int := ⟨f12, _, ok_law_is_int F12 y_isinstance y_int y_bool, PySem.W.mg_of X G a12, k12, F12.binds (ps := P_law_is_int) fun _ _ _ _ _ _ us hl => match us, hl with | [_], _ => rfl⟩
  have F13 := fun_mk (st := s_law_is_point) l13 c13 k13
  have C_law_is_point : Cal l.prog w K mg base 3 "_law_is_point" P_law_is_point d_law_is_point := ⟨f13, _, ok_law_is_point F13 (C_law_is_in_range.mono (by decide)) (C_law_is_int.mono (by decide)) y_zip y_isinstance y_tuple y_len, PySem.W.mg_of X G a13, k13, F13.binds (ps := P_law_is_point) fun _ _ _ _ _ _ us hl => match us, hl with | [_, _], _ => rfl⟩
  have F14 := fun_mk (st := s_is_integer) l14 c14 k14
  have C_is_integer : Cal l.prog w K mg base 1 "is_integer" P_is_integer d_is_integer := ⟨f14, _, ok_is_integer F14 y_isinstance y_int y_bool, PySem.W.mg_of X G a14, k14, F14.binds (ps := P_is_integer) fun _ _ _ _ _ _ us hl => match us, hl with | [_], _ => rfl⟩
  have F15 := fun_mk (st := s_lets) l15 c15 k15
  have C_lets : Cal l.prog w K mg base 2 "lets" P_lets d_lets := ⟨f15, _, ok_lets F15 (C_range_of.mono (by decide)), PySem.W.mg_of X G a15, k15, F15.binds (ps := P_lets) fun _ _ _ _ _ _ us hl => match us, hl with | [_, _, _], _ => rfl⟩
  have F16 := fun_mk (st := s_is_point) l16 c16 k16
  have C_is_point : Cal l.prog w K mg base 3 "is_point" P_is_point d_is_point := ⟨f16, _, ok_is_point F16 (C_is_integer.mono (by decide)) (C_lets.mono (by decide)) y_zip y_all y_isinstance y_tuple y_len, PySem.W.mg_of X G a16, k16, F16.binds (ps := P_is_point) fun _ _ _ _ _ _ us hl => match us, hl with | [_, _], _ => rfl⟩
  have F17 := fun_mk (st := s_law_some) l17 c17 k17
  have C_law_some : Cal l.prog w K mg base 2 "_law_some" P_law_some d_law_some := ⟨f17, _, ok_law_some F17 (C_law_take.mono (by decide)) y_len, PySem.W.mg_of X G a17, k17, F17.binds (ps := P_law_some) fun _ _ _ _ _ _ us hl => match us, hl with | [_, _], _ => rfl⟩
  have F18 := fun_mk (st := s_law_near_point) l18 c18 k18
  have C_law_near_point : Cal l.prog w K mg base 3 "_law_near_point" P_law_near_point d_law_near_point := ⟨f18, _, ok_law_near_point F18 (C_law_some.mono (by decide)) (C_law_take.mono (by decide)) (C_law_range_of.mono (by decide)) y_list y_len y_tuple, PySem.W.mg_of X G a18, k18, F18.binds (ps := P_law_near_point) fun _ _ _ _ _ _ us hl => match us, hl with | [_, _], _ => rfl⟩
  have F19 := fun_mk (st := s_part_of) l19 c19 k19
  have C_part_of : Cal l.prog w K mg base 1 "part_of" P_part_of d_part_of := ⟨f19, _, ok_part_of F19 y_tuple, PySem.W.mg_of X G a19, k19, F19.binds (ps := P_part_of) fun _ _ _ _ _ _ us hl => match us, hl with | [_, _, _], _ => rfl⟩
  have F20 := fun_mk (st := s_law_part) l20 c20 k20
  have C_law_part : Cal l.prog w K mg base 1 "_law_part" P_law_part d_law_part := ⟨f20, _, ok_law_part F20 y_tuple, PySem.W.mg_of X G a20, k20, F20.binds (ps := P_law_part) fun _ _ _ _ _ _ us hl => match us, hl with | [_, _, _], _ => rfl⟩
  have F21 := fun_mk (st := s_law_atoms_of) l21 c21 k21
  have C_law_atoms_of : Cal l.prog w K mg base 1 "_law_atoms_of" P_law_atoms_of d_law_atoms_of := ⟨f21, _, ok_law_atoms_of F21 y_enumerate, PySem.W.mg_of X G a21, k21, F21.binds (ps := P_law_atoms_of) fun _ _ _ _ _ _ us hl => match us, hl with | [_, _], _ => rfl⟩
  have F22 := fun_mk (st := s_atoms_of) l22 c22 k22
  have C_atoms_of : Cal l.prog w K mg base 1 "atoms_of" P_atoms_of d_atoms_of := ⟨f22, _, ok_atoms_of F22 y_enumerate y_tuple, PySem.W.mg_of X G a22, k22, F22.binds (ps := P_atoms_of) fun _ _ _ _ _ _ us hl => match us, hl with | [_, _], _ => rfl⟩
  have F23 := fun_mk (st := s_names_of) l23 c23 k23
  have C_names_of : Cal l.prog w K mg base 1 "names_of" P_names_of d_names_of := ⟨f23, _, ok_names_of F23 y_sorted y_tuple, PySem.W.mg_of X G a23, k23, F23.binds (ps := P_names_of) fun _ _ _ _ _ _ us hl => match us, hl with | [_], _ => rfl⟩
  have F24 := fun_mk (st := s_law_ranges) l24 c24 k24
  have C_law_ranges : Cal l.prog w K mg base 3 "_law_ranges" P_law_ranges d_law_ranges := ⟨f24, _, ok_law_ranges F24 (C_law_mixed.mono (by decide)) (C_law_take.mono (by decide)) (C_law_some.mono (by decide)) y_tuple y_list, PySem.W.mg_of X G a24, k24, F24.binds (ps := P_law_ranges) fun _ _ _ _ _ _ us hl => match us, hl with | [_, _], _ => rfl⟩
  have F25 := fun_mk (st := s_law_line) l25 c25 k25
  have C_law_line : Cal l.prog w K mg base 1 "_law_line" P_law_line d_law_line := ⟨f25, _, ok_law_line F25, PySem.W.mg_of X G a25, k25, F25.binds (ps := P_law_line) fun _ _ _ _ _ _ us hl => match us, hl with | [_, _], _ => rfl⟩
  have F26 := fun_mk (st := s_law_columns_mixed) l26 c26 k26
  have C_law_columns_mixed : Cal l.prog w K mg base 3 "_law_columns_mixed" P_law_columns_mixed d_law_columns_mixed := ⟨f26, _, ok_law_columns_mixed F26 (C_law_mixed.mono (by decide)) (C_law_line.mono (by decide)) y_tuple, PySem.W.mg_of X G a26, k26, F26.binds (ps := P_law_columns_mixed) fun _ _ _ _ _ _ us hl => match us, hl with | [_, _, _, _], _ => rfl⟩
  have F27 := fun_mk (st := s_law_forest) l27 c27 k27
  have C_law_forest : Cal l.prog w K mg base 3 "_law_forest" P_law_forest d_law_forest := ⟨f27, _, ok_law_forest F27 (C_law_some.mono (by decide)) y_range y_list, PySem.W.mg_of X G a27, k27, F27.binds (ps := P_law_forest) fun _ _ _ _ _ _ us hl => match us, hl with | [_, _], _ => rfl⟩
  have F28 := fun_mk (st := s_law_nested_question) l28 c28 k28
  have C_law_nested_question : Cal l.prog w K mg base 4 "_law_nested_question" P_law_nested_question d_law_nested_question := ⟨f28, _, ok_law_nested_question F28 (C_law_ranges.mono (by decide)) (C_law_mixed.mono (by decide)) (C_law_columns_mixed.mono (by decide)) (C_law_some.mono (by decide)) (C_law_forest.mono (by decide)) (C_law_take.mono (by decide)) y_tuple y_zip y_len y_range, PySem.W.mg_of X G a28, k28, F28.binds (ps := P_law_nested_question) fun _ _ _ _ _ _ us hl => match us, hl with | [_, _], _ => rfl⟩
  have F29 := fun_mk (st := s_law_crossing_question) l29 c29 k29
  have C_law_crossing_question : Cal l.prog w K mg base 4 "_law_crossing_question" P_law_crossing_question d_law_crossing_question := ⟨f29, _, ok_law_crossing_question F29 (C_law_ranges.mono (by decide)) (C_law_mixed.mono (by decide)) (C_law_take.mono (by decide)) (C_law_some.mono (by decide)) y_tuple y_list y_range, PySem.W.mg_of X G a29, k29, F29.binds (ps := P_law_crossing_question) fun _ _ _ _ _ _ us hl => match us, hl with | [_], _ => rfl⟩
  have F30 := fun_mk (st := s_law_bag) l30 c30 k30
  have C_law_bag : Cal l.prog w K mg base 1 "_law_bag" P_law_bag d_law_bag := ⟨f30, _, ok_law_bag F30 y_abs, PySem.W.mg_of X G a30, k30, F30.binds (ps := P_law_bag) fun _ _ _ _ _ _ us hl => match us, hl with | [_], _ => rfl⟩
  have F31 := fun_mk (st := s_law) l31 c31 k31
  exact ok_law F31 (C_law_alike.mono (by decide)) (C_in_order.mono (by decide)) (C_law_mixed.mono (by decide)) (C_law_narrowed.mono (by decide)) (C_narrowed.mono (by decide)) (C_law_is_point.mono (by decide)) (C_is_point.mono (by decide)) (C_law_some.mono (by decide)) (C_law_near_point.mono (by decide)) (C_part_of.mono (by decide)) (C_law_part.mono (by decide)) (C_law_take.mono (by decide)) (C_law_range_of.mono (by decide)) (C_lets.mono (by decide)) (C_law_is_in_range.mono (by decide)) (C_law_atoms_of.mono (by decide)) (C_range_of.mono (by decide)) (C_atoms_of.mono (by decide)) (C_names_of.mono (by decide)) (C_law_nested_question.mono (by decide)) (C_law_crossing_question.mono (by decide)) (C_law_bag.mono (by decide)) y_range y_repr y_list y_tuple y_len y_sorted
end K16

set_option maxRecDepth 100000
set_option maxHeartbeats 1000000
namespace K16
open PySem PySem.Spec PyProof.Rows L2 Mn
/-! ### what the law draws -/
def Bag (S : Sto) (b : Nat) : Prop := ∃ (h st i : Int) (cs : List Int), S.ob b = some (.lst [.int h, .int st, .int i, .lst (cs.map .int)]) ∧ cs.length ≤ 63
/-- all but b is as it was -/
def Kp (b : Nat) (S S' : Sto) : Prop := S.nx ≤ S'.nx ∧ ∀ n, n ≠ b → n < S.nx → S'.ob n = S.ob n
theorem Kp.refl {b : Nat} {S : Sto} : Kp b S S := ⟨Nat.le_refl _, fun _ _ _ => rfl⟩
theorem Kp.trans {b : Nat} {S S1 S2 : Sto} (h : Kp b S S1) (k : Kp b S1 S2) : Kp b S S2 := ⟨Nat.le_trans h.1 k.1, fun n h1 h2 => (k.2 n h1 (Nat.lt_of_lt_of_le h2 h.1)).trans (h.2 n h1 h2)⟩
theorem Kp.set {b : Nat} {S S1 : Sto} {o : Ob} (h : Kp b S S1) : Kp b S (S1.set b o) := ⟨h.1, fun n h1 h2 => by rw [Sto.set_ob, if_neg h1]; exact h.2 n h1 h2⟩
theorem ob_set {S : Sto} {b : Nat} {o : Ob} : (S.set b o).ob b = some o := by rw [Sto.set_ob, if_pos rfl]
theorem cut_map {α β : Type} {f : α → β} {l : List α} {a b : Option Int} : Mn.cutD (l.map f) a b = (Mn.cutD l a b).map f := by
  unfold Mn.cutD
  rw [List.length_map, ← List.map_drop, ← List.map_take]
theorem cut_len {α : Type} {l : List α} {a b : Option Int} : (Mn.cutD l a b).length ≤ l.length := by
  unfold Mn.cutD
  rw [List.length_take, List.length_drop]
  omega
theorem head_int (l : List Int) : ∃ c, atI (l.map D.int ++ [D.int 0]) 0 = some (D.int c) := by
  cases l with
  | nil => exact ⟨0, rfl⟩
  | cons x l => exact ⟨x, by unfold atI ixN; rw [if_pos (Int.le_refl 0), if_pos (by simp; omega)]; rfl⟩
theorem wp_seq {a b : SM} {rho : Mn.Env} {S : Sto} {Q : Fl × Mn.Env → Sto → Prop} {R : Mn.Env → Sto → Prop} (h : Wp (a rho) S fun p S1 => p.1 = .nx ∧ R p.2 S1) (k : ∀ r S1, R r S1 → Wp (b r) S1 Q) : Wp (mSeq a b rho) S Q := by
  rw [wp_mSeq]
  refine h.mono fun p S1 ⟨e, r⟩ => ?_
  rw [e]
  exact k _ _ r
theorem wp_ret1 {a : EM D} {rho : Mn.Env} {S : Sto} {Q : Fl × Mn.Env → Sto → Prop} (h : Wp (a rho) S fun d S1 => Q (.rt d, rho) S1) : Wp (mSeq (mRet a) mNx rho) S Q := by
  rw [wp_mSeq, wp_mRet]
  simp only [wp_ret]
  exact h
theorem take_spec {S : Sto} {b : Nat} {m : Int} (hb : Bag S b) (h0 : 0 < m) (h1 : m < 1073741824) :
    Wp (d_law_take [.ref b, .int m]) S fun d S' => ∃ v, d = .int v ∧ 0 ≤ v ∧ v < m ∧ Bag S' b ∧ Kp b S S' := by
  obtain ⟨h, st, i, cs, hob, hl⟩ := hb
  -- the third part alone
  have part3 : ∀ (S1 : Sto) (h st i : Int) (c2 c3 : Option D), S1.ob b = some (.lst [.int h, .int st, .int i, .lst (cs.map .int)]) → Kp b S S1 →
      Wp ((mSeq (mIfS (mB (mBin gtM (mBin ixM (mV 0) (mC (.int 0))) (mC (.int 0)))) (mSeq (mSet 4 (mBin modM (mCall toIntM (mCons (mBin ixM (mV 0) (mC (.int 0))) mNil)) (mV 1)))
    (mSeq (mPut (mV 0) (mC (.int 0)) (mBin divM (mCall toIntM (mCons (mBin ixM (mV 0) (mC (.int 0))) mNil)) (mV 1)))
    (mSeq (mRet (mV 4))
    mNx))) mNx)
    (mSeq (mSet 5 (mBin modM (mCall toIntM (mCons (mBin mulM (mBin addM (mBin ixM (mV 0) (mC (.int 1))) (mC (.int 1))) (mC (.int 39373))) mNil)) (mC (.int 1000000007))))
    (mSeq (mSet 6 (mBin modM (mCall toIntM (mCons (mBin mulM (mBin modM (mCall toIntM (mCons (mBin mulM (mV 5) (mV 5)) mNil)) (mC (.int 998244353))) (mC (.int 30011))) mNil)) (mC (.int 998244353))))
    (mSeq (mRet (mBin modM (mCall toIntM (mCons (mBin divM (mV 6) (mC (.int 7))) mNil)) (mV 1)))
    mNx)))) [some (.ref b), some (.int m), c2, c3, none, none, none]) S1 fun p S2 => ∃ v, p.1 = .rt (.int v) ∧ 0 ≤ v ∧ v < m ∧ Bag S2 b ∧ Kp b S S2 := by
    intro S1 h st i c2 c3 ho kp
    have x0 : ∀ Q : D → Sto → Prop, Wp (ixM (.ref b) (.int 0)) S1 Q ↔ Q (.int h) S1 := fun Q => wp_ixR ho rfl
    have x1 : ∀ Q : D → Sto → Prop, Wp (ixM (.ref b) (.int 1)) S1 Q ↔ Q (.int st) S1 := fun Q => wp_ixR ho rfl
    have pm : ∀ (j : Int) (Q : D → Sto → Prop), Wp (modM (.int j) (.int m)) S1 Q ↔ Q (.int (j % m)) S1 := fun j Q => wp_mod h0
    have pd : ∀ (j : Int) (Q : D → Sto → Prop), Wp (divM (.int j) (.int m)) S1 Q ↔ Q (.int (j / m)) S1 := fun j Q => wp_div h0 h1
    have q1 : ∀ (j : Int) (Q : D → Sto → Prop), Wp (modM (.int j) (.int 1000000007)) S1 Q ↔ Q (.int (j % 1000000007)) S1 := fun j Q => wp_mod (by decide)
    have q2 : ∀ (j : Int) (Q : D → Sto → Prop), Wp (modM (.int j) (.int 998244353)) S1 Q ↔ Q (.int (j % 998244353)) S1 := fun j Q => wp_mod (by decide)
    have q3 : ∀ (j : Int) (Q : D → Sto → Prop), Wp (divM (.int j) (.int 7)) S1 Q ↔ Q (.int (j / 7)) S1 := fun j Q => wp_div (by decide) (by decide)
    have m1 : ∀ (j : Int) (Q : D → Sto → Prop), Wp (mulM (.int j) (.int 39373)) S1 Q ↔ Q (.int (j * 39373)) S1 := fun j Q => wp_mul (.inr (by decide))
    have m2 : ∀ (j : Int) (Q : D → Sto → Prop), Wp (mulM (.int j) (.int 30011)) S1 Q ↔ Q (.int (j * 30011)) S1 := fun j Q => wp_mul (.inr (by decide))
    have m3 : ∀ (j : Int) (Q : D → Sto → Prop), Wp (mulM (.int (j % 1000000007)) (.int (j % 1000000007))) S1 Q ↔ Q (.int (j % 1000000007 * (j % 1000000007))) S1 := fun j Q => wp_mul (.inr (by
      have := Int.emod_nonneg j (show (1000000007 : Int) ≠ 0 by decide)
      have := Int.emod_lt_of_pos j (show (0 : Int) < 1000000007 by decide)
      omega))
    have pt : ∀ (z : D) (Q : Unit → Sto → Prop), Wp (putM (.ref b) (.int 0) z) S1 Q ↔ Q () (S1.set b (.lst [z, .int st, .int i, .lst (cs.map .int)])) := fun z Q => wp_put ho (j := 0) rfl
    simp only [wp_mSeq, wp_mIfS, wp_mB, wp_mBin, wp_mV0, wp_mVs, wp_mC, x0, wp_gt, wp_asB]
    by_cases hp : 0 < h
    · simp only [hp, decide_true, if_true, wp_mSeq, wp_mSet, wp_mBin, wp_mCall, wp_mCons, wp_mNil, wp_mV0, wp_mVs, wp_mC, x0, wp_toI, pm, List.set_cons_succ, List.set_cons_zero, wp_mPut, pd, pt, wp_mRet, wp_ret]
      exact ⟨h % m, rfl, Int.emod_nonneg _ (by omega), Int.emod_lt_of_pos _ h0, ⟨_, _, _, cs, ob_set, hl⟩, kp.set⟩
    · simp only [hp, decide_false, Bool.false_eq_true, if_false, wp_mNx, wp_mSeq, wp_mSet, wp_mBin, wp_mCall, wp_mCons, wp_mNil, wp_mV0, wp_mVs, wp_mC, x1, wp_toI, wp_addI, m1, q1, List.set_cons_succ, List.set_cons_zero, m3, q2, m2, q3, pm, wp_mRet, wp_ret]
      exact ⟨_, rfl, Int.emod_nonneg _ (by omega), Int.emod_lt_of_pos _ h0, ⟨_, _, _, cs, ho, hl⟩, kp⟩
  unfold d_law_take
  rw [wp_def]
  have e : startR N_law_take.length [D.ref b, .int m] = [some (.ref b), some (.int m), none, none, none, none, none] := rfl
  rw [e]
  unfold b_law_take
  have fin : ∀ (p : Fl × Mn.Env) (S2 : Sto), (∃ v, p.1 = .rt (.int v) ∧ 0 ≤ v ∧ v < m ∧ Bag S2 b ∧ Kp b S S2) → Wp (match p.1 with | .rt d => ret d | .nx => ret .non | _ => fail) S2 (fun d S' => ∃ v, d = .int v ∧ 0 ≤ v ∧ v < m ∧ Bag S' b ∧ Kp b S S') := fun p S2 ⟨v, e, q⟩ => by
    rw [e]
    exact wp_ret.mpr ⟨v, rfl, q⟩
  refine Wp.mono ?_ fin
  refine wp_seq (R := fun r S1 => ∃ c2 c3, r = [some (.ref b), some (.int m), c2, c3, none, none, none] ∧ ∃ h st i, S1.ob b = some (.lst [.int h, .int st, .int i, .lst (cs.map .int)]) ∧ Kp b S S1) ?_ fun r S1 ⟨c2, c3, e1, h, st, i, o, k⟩ => by
    rw [e1]
    exact part3 S1 h st i c2 c3 o k
  have x0 : ∀ Q : D → Sto → Prop, Wp (ixM (.ref b) (.int 0)) S Q ↔ Q (.int h) S := fun Q => wp_ixR hob rfl
  simp only [wp_mIfS, wp_mB, wp_mBin, wp_mV0, wp_mVs, wp_mC, x0, wp_eqI, wp_asB]
  by_cases hz : h = 0
  · subst hz
    have x2 : ∀ Q : D → Sto → Prop, Wp (ixM (.ref b) (.int 2)) S Q ↔ Q (.int i) S := fun Q => wp_ixR hob rfl
    have x3 : ∀ Q : D → Sto → Prop, Wp (ixM (.ref b) (.int 3)) S Q ↔ Q (.lst (cs.map .int)) S := fun Q => wp_ixR hob rfl
    have g2 : ∀ Q : D → Sto → Prop, Wp (getM (.ref b) (.int 2)) S Q ↔ Q (.int i) S := fun Q => wp_get hob (j := 2) rfl rfl
    have p2 : ∀ (z : D) (Q : Unit → Sto → Prop), Wp (putM (.ref b) (.int 2) z) S Q ↔ Q () (S.set b (.lst [.int 0, .int st, z, .lst (cs.map .int)])) := fun z Q => wp_put hob (j := 2) rfl
    obtain ⟨c, hc⟩ := head_int (Mn.cutD cs (some i) none)
    have ad : ∀ Q : D → Sto → Prop, Wp (addM (.lst (Mn.cutD (cs.map D.int) (some i) none)) (.lst [.int 0])) S Q ↔ Q (.lst ((Mn.cutD cs (some i) none).map D.int ++ [.int 0])) S := fun Q => by
      rw [cut_map]
      refine wp_addL ?_
      have := cut_len (l := cs) (a := some i) (b := none)
      rw [List.length_map]
      show _ + 1 ≤ 1000000
      omega
    have mk : ∀ Q : D → Sto → Prop, Wp (mkLst [D.int 0]) S Q ↔ Q (.lst [.int 0]) S := fun Q => wp_mkLst (by decide)
    have xc : ∀ Q : D → Sto → Prop, Wp (ixM (.lst ((Mn.cutD cs (some i) none).map D.int ++ [.int 0])) (.int 0)) S Q ↔ Q (.int c) S := fun Q => wp_ixL hc
    simp only [beq_self_eq_true, if_true]
    refine wp_seq (R := fun r S1 => r = [some (.ref b), some (.int m), some (.int c), none, none, none, none] ∧ S1 = S) ?_ ?_
    · simp only [wp_mSet, wp_mBin, wp_mSl, wp_mPart, wp_mLst, wp_mCons, wp_mNil, wp_mV0, wp_mVs, wp_mC, x3, x2, wp_asI, wp_ret, wp_slL, mk, ad, xc, List.set_cons_succ, List.set_cons_zero]
      exact ⟨trivial, trivial, trivial⟩
    rintro r S1 ⟨rfl, rfl⟩
    refine wp_seq (R := fun r S2 => r = [some (.ref b), some (.int m), some (.int c), none, none, none, none] ∧ S2.ob b = some (.lst [.int 0, .int st, .int (i + 1), .lst (cs.map .int)]) ∧ Kp b S1 S2) ?_ ?_
    · simp only [wp_mAugS, wp_mV0, wp_mC, g2, wp_intF, p2]
      exact ⟨trivial, trivial, ob_set, Kp.refl.set⟩
    rintro r S2 ⟨rfl, o2, k2⟩
    refine wp_seq (R := fun r S2 => r = [some (.ref b), some (.int m), some (.int c), none, none, none, none] ∧ ∃ h2, S2.ob b = some (.lst [.int h2, .int st, .int (i + 1), .lst (cs.map .int)]) ∧ Kp b S1 S2) ?_ ?_
    · have pw : ∀ Q : D → Sto → Prop, Wp (powM (.int 10) (.int 18)) S2 Q ↔ Q (.int (10 ^ 18)) S2 := fun Q => wp_pow (by decide) (by decide) (by decide)
      have p0 : ∀ (z : D) (Q : Unit → Sto → Prop), Wp (putM (.ref b) (.int 0) z) S2 Q ↔ Q () (S2.set b (.lst [z, .int st, .int (i + 1), .lst (cs.map .int)])) := fun z Q => wp_put o2 (j := 0) rfl
      simp only [wp_mIfS, wp_mB, wp_mBin, wp_mV0, wp_mVs, wp_mC, pw, wp_ge, wp_asB]
      by_cases hc2 : (10 : Int) ^ 18 ≤ c
      · simp only [hc2, decide_true, if_true, wp_mSeq, wp_mPut, wp_mV0, wp_mVs, wp_mC, p0, wp_mNx]
        exact ⟨trivial, trivial, c, ob_set, k2.set⟩
      · simp only [hc2, decide_false, Bool.false_eq_true, if_false, wp_mNx]
        exact ⟨trivial, trivial, 0, o2, k2⟩
    rintro r S3 ⟨rfl, h3, o3, k3⟩
    have y1 : ∀ Q : D → Sto → Prop, Wp (ixM (.ref b) (.int 1)) S3 Q ↔ Q (.int st) S3 := fun Q => wp_ixR o3 rfl
    have y2 : ∀ Q : D → Sto → Prop, Wp (ixM (.ref b) (.int 2)) S3 Q ↔ Q (.int (i + 1)) S3 := fun Q => wp_ixR o3 rfl
    have n1 : ∀ (j : Int) (Q : D → Sto → Prop), Wp (mulM (.int j) (.int 48271)) S3 Q ↔ Q (.int (j * 48271)) S3 := fun j Q => wp_mul (.inr (by decide))
    have n2 : ∀ (j : Int) (Q : D → Sto → Prop), Wp (mulM (.int 7919) (.int j)) S3 Q ↔ Q (.int (7919 * j)) S3 := fun j Q => wp_mul (.inl (by decide))
    have n3 : ∀ (j : Int) (Q : D → Sto → Prop), Wp (modM (.int j) (.int 2147483647)) S3 Q ↔ Q (.int (j % 2147483647)) S3 := fun j Q => wp_mod (by decide)
    have pp : ∀ (z : D) (Q : Unit → Sto → Prop), Wp (putM (.ref b) (.int 1) z) S3 Q ↔ Q () (S3.set b (.lst [.int h3, z, .int (i + 1), .lst (cs.map .int)])) := fun z Q => wp_put o3 (j := 1) rfl
    simp only [wp_mSeq, wp_mSet, wp_mBin, wp_mCall, wp_mCons, wp_mNil, wp_mV0, wp_mVs, wp_mC, y1, y2, n1, n2, n3, wp_addI, wp_toI, List.set_cons_succ, List.set_cons_zero, wp_mPut, pp, wp_mNx]
    exact ⟨trivial, _, _, rfl, h3, _, _, ob_set, k3.set⟩
  · simp only [show (h == 0) = false from by simpa using hz, Bool.false_eq_true, if_false, wp_mNx]
    exact ⟨trivial, _, _, rfl, h, st, i, hob, Kp.refl⟩
theorem atI_in {α : Type} {ds : List α} {v : Int} (h0 : 0 ≤ v) (h1 : v < ds.length) : ∃ d ∈ ds, atI ds v = some d := by
  have hl : v.toNat < ds.length := by omega
  refine ⟨ds[v.toNat], List.getElem_mem hl, ?_⟩
  unfold atI ixN
  rw [if_pos h0, if_pos h1]
  exact List.getElem?_eq_getElem hl
theorem take_fn {S : Sto} {b : Nat} {m : Int} {Q : D → Sto → Prop} (hb : Bag S b) (h0 : 0 < m) (h1 : m < 1073741824) (k : ∀ v S', 0 ≤ v → v < m → Bag S' b → Kp b S S' → Q (.int v) S') :
    Wp (if [D.ref b, D.int m].length = P_law_take.length then d_law_take [.ref b, .int m] else fail) S Q := by
  rw [if_pos (show [D.ref b, D.int m].length = P_law_take.length from rfl)]
  exact (take_spec hb h0 h1).mono fun d S' ⟨v, e, a, c, g, kp⟩ => by rw [e]; exact k v S' a c g kp
theorem some_spec {S : Sto} {b : Nat} {th : D} {ds : List D} (hb : Bag S b) (hth : th = .lst ds ∨ th = .tup ds) (h0 : 0 < ds.length) (h1 : ds.length < 1000) :
    Wp (d_law_some [.ref b, th]) S fun d S' => d ∈ ds ∧ Bag S' b ∧ Kp b S S' := by
  unfold d_law_some
  rw [wp_def]
  have e : startR N_law_some.length [D.ref b, th] = [some (.ref b), some th] := rfl
  rw [e]
  unfold b_law_some
  refine wp_ret1 ?_
  have ln : ∀ (S : Sto) (Q : D → Sto → Prop), Wp (lenM [th]) S Q ↔ Q (.int ds.length) S := fun S Q => by rcases hth with rfl | rfl; exact wp_lenL; exact wp_lenT
  simp only [wp_mBin, wp_mV0, wp_mVs, wp_mFn, wp_mCons, wp_mNil, wp_mCall, ln]
  refine take_fn hb (by omega) (by omega) fun v S1 a c g k => ?_
  obtain ⟨d, hd, hi⟩ := atI_in a c
  have ix : ∀ Q : D → Sto → Prop, Wp (ixM th (.int v)) S1 Q ↔ Q d S1 := fun Q => by
    rcases hth with rfl | rfl
    · exact wp_ixL hi
    · exact wp_ixT hi
  rw [ix]
  exact wp_ret.mpr ⟨hd, g, k⟩
theorem some_fn {S : Sto} {b : Nat} {th : D} {ds : List D} {Q : D → Sto → Prop} (hb : Bag S b) (hth : th = .lst ds ∨ th = .tup ds) (h0 : 0 < ds.length) (h1 : ds.length < 1000) (k : ∀ d S', d ∈ ds → Bag S' b → Kp b S S' → Q d S') :
    Wp (if [D.ref b, th].length = P_law_some.length then d_law_some [.ref b, th] else fail) S Q := by
  rw [if_pos (show [D.ref b, th].length = P_law_some.length from rfl)]
  exact (some_spec hb hth h0 h1).mono fun d S' ⟨a, g, kp⟩ => k d S' a g kp
/-! ### comparing -/
theorem alike_self {S : Sto} {c n : Nat} {d : D} {p : PyData} (h : OkD c n d p) (hc : c ≤ 1048576) (hn : n ≤ 64) : Wp (d_law_alike [d, d]) S fun r S' => r = .bl true ∧ S' = S := by
  unfold d_law_alike
  rw [wp_def]
  have e : startR N_law_alike.length [d, d] = [some d, some d] := rfl
  rw [e]
  unfold b_law_alike
  refine wp_ret1 ?_
  simp only [wp_mAndV, wp_mBin, wp_mV0, wp_mVs, wp_eqSelf h hn, wp_truB, if_true, wp_mCall, wp_mCons, wp_mNil, wp_repr h hc hn]
  simp only [wp_eqS, beq_self_eq_true, wp_ret]
  trivial
/-! ### bag -/
theorem bag_spec {S : Sto} {ns : List Int} : Wp (d_law_bag [scr ns]) S fun d S' => ∃ b, d = .ref b ∧ Bag S' b ∧ b < S'.nx := by
  unfold d_law_bag
  rw [wp_def]
  have e : startR N_law_bag.length [scr ns] = [some (scr ns), none] := rfl
  rw [e]
  unfold b_law_bag
  refine wp_ret1 ?_
  have sl : ∀ Q : D → Sto → Prop, Wp (slM (scr ns) none (some 63)) S Q ↔ Q (.lst ((Mn.cutD ns none (some 63)).map .int)) S := fun Q => by
    unfold scr
    rw [wp_slO, cut_map]
  have src : ∀ Q : Src → Sto → Prop, Wp (fun S => (srcOf (.lst ((Mn.cutD ns none (some 63)).map D.int)) S).map fun s => (s, S)) S Q ↔ Q ⟨(Mn.cutD ns none (some 63)).map D.int, []⟩ S := fun Q => wp_some rfl
  have lc := lc_pure (S := S) (rho := wipeR [some (scr ns), none] [1]) (src := ⟨(Mn.cutD ns none (some 63)).map D.int, []⟩) (g := gV 1) (mt := mYes) (me := mCall absM (mCons (mV 1) mNil)) (t := fun _ => true) (f := fun d => match d with | .int i => .int (if i < 0 then -i else i) | d => d) srcOk_nil (ds := (Mn.cutD ns none (some 63)).map D.int) fun d hd => by
    obtain ⟨i, _, rfl⟩ := List.mem_map.mp hd
    exact ⟨_, rfl, rfl, fun _ => rfl⟩
  have hlen : (Mn.cutD ns none (some 63)).length ≤ 63 := by
    unfold Mn.cutD
    rw [List.length_take]
    have : HT.sIx ns.length ns.length (some 63) ≤ 63 := by
      rw [show HT.sIx ns.length ns.length (some 63) = min 63 ns.length from HT.sIx_nat ns.length ns.length 63]
      omega
    omega
  simp only [wp_mNew, wp_mCons, wp_mNil, wp_mC, wp_mLc, wp_mISeq, wp_mSl, wp_mPart, wp_mV0, sl, wp_ret, src, wp_asI]
  refine Wp.to lc ?_
  have el : (List.map (fun d => match d with | D.int i => D.int (if i < 0 then -i else i) | d => d) (List.filter (fun _ => true) ((Mn.cutD ns none (some 63)).map D.int))) = ((Mn.cutD ns none (some 63)).map fun i => if i < 0 then -i else i).map D.int := by
    rw [List.filter_eq_self.mpr (fun _ _ => rfl), List.map_map, List.map_map]
    rfl
  rw [el, wp_lim (by rw [List.length_map, List.length_map]; omega)]
  refine Wp.to (show mkNew _ S = some (.ref S.nx, _) by unfold mkNew; rw [if_pos (limP (by simp))]) ?_
  refine ⟨_, rfl, ⟨0, 1234567891, 0, (Mn.cutD ns none (some 63)).map fun i => if i < 0 then -i else i, ?_, by rw [List.length_map]; exact hlen⟩, Nat.lt_succ_self _⟩
  rw [Sto.new_ob, if_pos rfl]
/-! ### small words -/
theorem eq_of {S : Sto} {m : M D} {d : D} (h : Wp m S fun x S' => x = d ∧ S' = S) : m S = some (d, S) := by
  obtain ⟨x, S', e, rfl, rfl⟩ := h
  exact e
theorem tr_of {S : Sto} {m : M Bool} {b : Bool} (h : Wp m S fun x S' => x = b ∧ S' = S) : m S = some (b, S) := by
  obtain ⟨x, S', e, rfl, rfl⟩ := h
  exact e
/-- walked items, the done ones told -/
theorem loop_done {src : Src} {g : GM} {mb : SM} {I : List D → Mn.Env → Sto → Prop} (ok : ∀ n r S, I n r S → srcOk src S) : ∀ {ds pre : List D} {rho : Mn.Env} {S : Sto}, I pre rho S →
    (∀ done d rest, pre ++ ds = done ++ d :: rest → ∀ r S, I done r S → ∃ r1, g d r = some r1 ∧ Wp (mb r1) S fun p S1 => p.1 = .nx ∧ I (done ++ [d]) p.2 S1) →
    Wp (loopGo src g mb ds rho) S fun p S1 => p.1 = .nx ∧ I (pre ++ ds) p.2 S1
  | [], pre, rho, S, i, _ => ⟨(.nx, rho), S, by unfold loopGo; rw [if_pos (ok pre rho S i)], rfl, by rw [List.append_nil]; exact i⟩
  | d :: ds, pre, rho, S, i, h => by
    obtain ⟨r1, h1, ⟨fl, r2⟩, S1, e1, h2, i2⟩ := h pre d ds rfl rho S i
    cases h2
    have e0 : pre ++ d :: ds = pre ++ [d] ++ ds := by simp
    obtain ⟨p, S3, e3, hl, i3⟩ := loop_done (ds := ds) (pre := pre ++ [d]) ok i2 fun done x rest e => h done x rest (by rw [e0]; exact e)
    refine ⟨p, S3, ?_, hl, by rw [e0]; exact i3⟩
    unfold loopGo
    rw [if_pos (ok pre rho S i), h1, Option.bind_some]
    unfold bnd
    rw [e1]
    exact e3
/-- walked items, the first that answers ends it -/
theorem loop_find {src : Src} {g : GM} {mb : SM} {I : Mn.Env → Sto → Prop} {J : Sto → Prop} {f : D → Option D} (ok : ∀ r S, I r S → srcOk src S) : ∀ {ds : List D} {rho : Mn.Env} {S : Sto}, I rho S →
    (∀ d ∈ ds, ∀ r S, I r S → ∃ r1, g d r = some r1 ∧ Wp (mb r1) S fun p S1 => match f d with | some v => p.1 = .rt v ∧ J S1 | none => p.1 = .nx ∧ I p.2 S1) →
    Wp (loopGo src g mb ds rho) S fun p S1 => match ds.findSome? f with | some v => p.1 = .rt v ∧ J S1 | none => p.1 = .nx ∧ I p.2 S1
  | [], rho, S, i, _ => ⟨(.nx, rho), S, by unfold loopGo; rw [if_pos (ok rho S i)], rfl, i⟩
  | d :: ds, rho, S, i, h => by
    obtain ⟨r1, h1, ⟨fl, r2⟩, S1, e1, h2⟩ := h d List.mem_cons_self rho S i
    rw [List.findSome?_cons]
    have e0 : loopGo src g mb (d :: ds) rho S = bnd (mb r1) (fun p => match p.1 with
        | .nx => loopGo src g mb ds p.2
        | .ct => loopGo src g mb ds p.2
        | .bk => Mn.ret (.nx, p.2)
        | .rt r => Mn.ret (.rt r, p.2)) S := by
      conv => lhs; unfold loopGo
      rw [if_pos (ok rho S i), h1, Option.bind_some] <;> rfl
    cases hf : f d with
    | some v =>
      rw [hf] at h2
      obtain ⟨e2, j⟩ := h2
      have e2 : fl = .rt v := e2
      subst e2
      refine ⟨(.rt v, r2), S1, ?_, rfl, j⟩
      rw [e0]; unfold bnd; rw [e1]; rfl
    | none =>
      rw [hf] at h2
      obtain ⟨e2, i2⟩ := h2
      have e2 : fl = .nx := e2
      subst e2
      obtain ⟨p, S3, e3, q⟩ := loop_find (ds := ds) ok i2 fun x hx => h x (List.mem_cons_of_mem _ hx)
      refine ⟨p, S3, ?_, q⟩
      rw [e0]; unfold bnd; rw [e1]; exact e3
/-- while, with a measure -/
theorem wp_while {c : EM Bool} {mb : SM} {I : Nat → Mn.Env → Sto → Prop} {Q : Fl × Mn.Env → Sto → Prop} (h : ∀ n r S, I n r S → Wp (c r) S fun t S1 => if t = true then Wp (mb r) S1 fun p S2 => p.1 = .nx ∧ ∃ k, k < n ∧ I k p.2 S2 else Q (.nx, r) S1) :
    ∀ {n : Nat} {rho : Mn.Env} {S : Sto}, I n rho S → Wp (mWhile c mb rho) S Q := by
  have key : ∀ n rho S, I n rho S → ∃ k r, whileN c mb k rho S = some r ∧ Q r.1 r.2 := by
    intro n
    induction n using Nat.strongRecOn with
    | _ n ih =>
      intro rho S i
      obtain ⟨t, S1, e1, h1⟩ := h n rho S i
      cases t with
      | false =>
        exact ⟨1, ((.nx, rho), S1), by unfold whileN bnd; rw [e1]; rfl, h1⟩
      | true =>
        obtain ⟨⟨fl, r2⟩, S2, e2, hfl, k, hk, i2⟩ := h1
        have hfl : fl = .nx := hfl
        subst hfl
        obtain ⟨j, r, e3, q⟩ := ih k hk r2 S2 i2
        refine ⟨j + 1, r, ?_, q⟩
        unfold whileN bnd
        rw [e1]
        show ((mb rho S1).bind _) = _
        rw [e2]
        exact e3
  intro n rho S i
  obtain ⟨k, r, e, q⟩ := key n rho S i
  have mono : ∀ a b rho S r, whileN c mb a rho S = some r → a ≤ b → whileN c mb b rho S = some r := by
    intro a
    induction a with
    | zero => intro b rho S r e; cases e
    | succ a ih =>
      intro b rho S r e hb
      obtain ⟨b, rfl⟩ : ∃ b', b = b' + 1 := ⟨b - 1, by omega⟩
      unfold whileN bnd at e ⊢
      cases e1 : c rho S with
      | none => rw [e1] at e; cases e
      | some p =>
        rw [e1] at e
        rw [Option.bind_some] at e ⊢
        cases ht : p.1 with
        | false => rw [ht] at e; exact e
        | true =>
          rw [ht] at e
          simp only [if_true] at e ⊢
          cases e2 : mb rho p.2 with
          | none => rw [e2] at e; cases e
          | some u =>
            rw [e2] at e
            rw [Option.bind_some] at e ⊢
            cases hu : u.1.1 with
            | nx => rw [hu] at e; exact ih b _ _ _ e (by omega)
            | ct => rw [hu] at e; exact ih b _ _ _ e (by omega)
            | bk => rw [hu] at e; exact e
            | rt v => rw [hu] at e; exact e
  refine ⟨r.1, r.2, ?_, q⟩
  unfold mWhile
  have hex : ∃ n r, whileN c mb n rho S = some r := ⟨k, r, e⟩
  rw [dif_pos hex]
  have hn := Classical.choose_spec (Classical.choose_spec hex)
  have h1 := mono _ (max k (Classical.choose hex)) _ _ _ e (Nat.le_max_left _ _)
  have h2 := mono _ (max k (Classical.choose hex)) _ _ _ hn (Nat.le_max_right _ _)
  rw [h1] at h2
  exact h2.symm
/-! ### mixed -/
theorem Bag.kp {S S' : Sto} {b n : Nat} {o : Ob} (h : Bag S b) (hn : n ≠ b) : Bag (S.set n o) b := by
  obtain ⟨x, st, i, cs, ho, hl⟩ := h
  exact ⟨x, st, i, cs, by rw [Sto.set_ob, if_neg (Ne.symm hn)]; exact ho, hl⟩
theorem Bag.new {S : Sto} {b : Nat} {o : Ob} (h : Bag S b) (hlt : b < S.nx) : Bag (S.new o) b := by
  obtain ⟨x, st, i, cs, ho, hl⟩ := h
  exact ⟨x, st, i, cs, by rw [Sto.new_ob, if_neg (Nat.ne_of_lt hlt)]; exact ho, hl⟩
theorem Kp.new {S0 S : Sto} {b : Nat} {o : Ob} (h : Kp b S0 S) : Kp b S0 (S.new o) := ⟨Nat.le_succ_of_le h.1, fun n h1 h2 => by rw [Sto.new_ob, if_neg (Nat.ne_of_lt (Nat.lt_of_lt_of_le h2 h.1))]; exact h.2 n h1 h2⟩
theorem Kp.setN {S0 S : Sto} {b n : Nat} {o : Ob} (h : Kp b S0 S) (hn : S0.nx ≤ n) : Kp b S0 (S.set n o) := ⟨h.1, fun k h1 h2 => by rw [Sto.set_ob, if_neg (Nat.ne_of_lt (Nat.lt_of_lt_of_le h2 hn))]; exact h.2 k h1 h2⟩
theorem mixed_spec {S : Sto} {b : Nat} {th : D} {src : Src} {Q : D → Sto → Prop} (hb : Bag S b) (hlt : b < S.nx) (hs : srcOf th S = some src) (ok : srcOk src S) (hg : ∀ p ∈ src.n, p.1 ≠ b ∧ p.1 < S.nx) (hl : src.ds.length ≤ 1000)
    (fin : ∀ (es : List D) (n : Nat) S', es.Perm src.ds → S'.ob n = some (.lst es) → S.nx ≤ n → n < S'.nx → Bag S' b → Kp b S S' → Q (.ref n) S') :
    Wp (if [D.ref b, th].length = P_law_mixed.length then d_law_mixed [.ref b, th] else fail) S Q := by
  rw [if_pos (show [D.ref b, th].length = P_law_mixed.length from rfl)]
  unfold d_law_mixed
  rw [wp_def]
  rw [show startR N_law_mixed.length [D.ref b, th] = [some (.ref b), some th, none, none] from rfl]
  unfold b_law_mixed
  refine wp_seq (R := fun r S1 => r = [some (.ref b), some th, some (.ref S.nx), none] ∧ S1 = S.new (.lst [])) ?_ ?_
  · simp only [wp_mSet, wp_mNew, wp_mNil]
    exact Wp.to (show mkNew [] S = some (.ref S.nx, S.new (.lst [])) by unfold mkNew; rw [if_pos (limP (by simp))]) ⟨trivial, rfl, rfl⟩
  rintro r S1 ⟨rfl, rfl⟩
  have nb : b ≠ S.nx := Nat.ne_of_lt hlt
  have src1 : srcOf th (S.new (.lst [])) = some src := by
    unfold srcOf at hs ⊢
    split at hs
    · exact hs
    · exact hs
    · exact hs
    · rename_i n
      split at hs
      · rename_i ds hd
        cases hs
        have h1 := hg (n, ds) (List.mem_singleton.mpr rfl)
        rw [Sto.new_ob, if_neg (Nat.ne_of_lt h1.2), hd]
      · cases hs
    · cases hs
  refine wp_seq (R := fun r S1 => ∃ x3, r = [some (.ref b), some th, some (.ref S.nx), x3] ∧ ∃ es : List D, es.Perm src.ds ∧ S1.ob S.nx = some (.lst es) ∧ Bag S1 b ∧ Kp b S S1 ∧ S.nx < S1.nx) ?_ ?_
  · simp only [wp_mFor, wp_mISeq, wp_mVs, wp_mV0]
    have srcW : ∀ (Q : Src → Sto → Prop), Wp (fun S => (srcOf th S).map fun s => (s, S)) (S.new (.lst [])) Q ↔ Q src (S.new (.lst [])) := fun Q => wp_some (by rw [src1]; rfl)
    rw [srcW]
    refine Wp.mono (loop_done (src := src) (ds := src.ds) (pre := []) (g := gV 3) (I := fun done r S1 => ∃ x3, r = [some (.ref b), some th, some (.ref S.nx), x3] ∧ ∃ es : List D, es.Perm done ∧ done.length ≤ 1000 ∧ S1.ob S.nx = some (.lst es) ∧ Bag S1 b ∧ Kp b S S1 ∧ S.nx < S1.nx) ?_ ⟨none, rfl, [], .refl _, by simp, by rw [Sto.new_ob, if_pos rfl], hb.new hlt, Kp.refl.new, Nat.lt_succ_self _⟩ ?_) ?_
    · rintro done r S1 ⟨_, _, es, _, _, _, _, kp, _⟩ p hp
      rw [kp.2 p.1 (hg p hp).1 (hg p hp).2]
      exact ok p hp
    · rintro done d rest e r S1 ⟨x3, rfl, es, hp, hd, ho, g, kp, hx⟩
      refine ⟨_, rfl, ?_⟩
      have hdl : done.length + 1 ≤ 1000 := by
        have h9 := congrArg List.length e
        rw [List.nil_append, List.length_append, List.length_cons] at h9
        omega
      have hob : ∀ S2, S2.ob S.nx = some (.lst es) → (∀ xs Q, Wp (fun S' => match (D.ref S.nx) with
          | .ref n => match S'.ob n with
            | some (.lst _) => bnd ((mCons (mFn P_law_take.length d_law_take (mCons (mV 0) (mCons (mBin addM (mCall lenM (mCons (mV 2) mNil)) (mC (.int 1))) mNil))) (mCons (mV 3) mNil)) xs) (fun ds => insM (D.ref S.nx) ds) S'
            | _ => none
          | _ => none) S2 Q ↔ Wp ((mCons (mFn P_law_take.length d_law_take (mCons (mV 0) (mCons (mBin addM (mCall lenM (mCons (mV 2) mNil)) (mC (.int 1))) mNil))) (mCons (mV 3) mNil)) xs) S2 fun ds S3 => Wp (insM (.ref S.nx) ds) S3 Q) := fun S2 h xs Q => wp_ref h
      have hel := hp.length_eq
      rw [wp_mSeq, wp_mDrop, wp_mMet]
      simp only [List.set_cons_succ, List.set_cons_zero, wp_mVs, wp_mV0]
      refine (hob S1 ho _ _).mpr ?_
      simp only [wp_mCons, wp_mNil, wp_mFn, wp_mBin, wp_mCall, wp_mVs, wp_mV0, wp_mC, wp_lenR ho, wp_addI]
      refine take_fn g (by omega) (by omega) fun v S2 a c g2 k2 => ?_
      have ho2 : S2.ob S.nx = some (.lst es) := (k2.2 S.nx (Ne.symm nb) hx).trans ho
      rw [wp_ins ho2 (by omega) a (by omega)]
      simp only [wp_mNx]
      refine ⟨trivial, _, rfl, _, ?_, by simp; omega, ob_set, Bag.kp (S' := S2) g2 (Ne.symm nb), (kp.trans k2).setN (Nat.le_refl _), Nat.lt_of_lt_of_le hx k2.1⟩
      refine List.perm_middle.trans ?_
      rw [List.take_append_drop]
      exact (List.Perm.cons d hp).trans (List.perm_append_singleton d done).symm
    · rintro ⟨fl, r⟩ S1 ⟨e1, x3, e2, es, hp, _, ho, g, kp, hx⟩
      exact ⟨e1, x3, e2, es, hp, ho, g, kp, hx⟩
  rintro r S1 ⟨x3, rfl, es, hp, ho, g, kp, hx⟩
  refine wp_ret1 ?_
  simp only [wp_mVs, wp_mV0, wp_ret]
  exact fin es _ S1 hp ho (Nat.le_refl _) hx g kp
/-! ### questions -/
structure Atom where
  w : Str
  t : Str
  cs : List Str
def atomD (a : Atom) : D := .tup [.str a.w, .str a.t, .tup (a.cs.map .str)]
structure Rn where
  c : Str
  lo : D
  hi : D
def rnD (r : Rn) : D := .tup [.str r.c, r.lo, r.hi]
def rgD (rs : List Rn) : D := .tup (rs.map rnD)
structure Qu where
  cols : List Str
  atoms : List Atom
  rs : List Rn
def qD (q : Qu) : D := .tup [.tup (q.cols.map .str), .tup (q.atoms.map atomD), rgD q.rs]
/-- a short text -/
def Sm (x : Str) : Prop := PyData.strOk x = true ∧ x.cps.size ≤ 10
/-- an end of a range -/
def Bnd (d : D) : Prop := d = .non ∨ ∃ i : Int, d = .int i ∧ -10 ≤ i ∧ i ≤ 10
def LeB (lo hi : D) : Prop := ∀ i j, lo = .int i → hi = .int j → i ≤ j
def OkR (r : Rn) : Prop := Sm r.c ∧ Bnd r.lo ∧ Bnd r.hi
def OkA (nm : List Str) (x : Atom) : Prop := (Sm x.w ∧ Sm x.t ∧ x.cs.length ≤ 6 ∧ ∀ y ∈ x.cs, Sm y) ∧ ∀ y ∈ x.cs, y ∈ nm
structure OkQ (q : Qu) : Prop where
  c : q.cols.length ≤ 6
  c1 : 1 ≤ q.cols.length
  cs : ∀ x ∈ q.cols, Sm x
  nd : q.cols.Nodup
  a : q.atoms.length ≤ 9
  ok : ∀ x ∈ q.atoms, OkA q.cols x
  rl : q.rs.length ≤ 6
  rok : ∀ r ∈ q.rs, OkR r
  rle : ∀ r ∈ q.rs, LeB r.lo r.hi
  rnd : (q.rs.map Rn.c).Nodup
  rsub : ∀ r ∈ q.rs, r.c ∈ q.cols
theorem OkD.str {n : Nat} {x : Str} (h : Sm x) : OkD 10 n (.str x) (.str x) := ⟨by rw [pdT, if_pos h.1], by rw [PyData.showable], by rw [PyData.depth]; omega, by rw [PyData.weight]; exact h.2, by rw [PyData.intsShort]⟩
theorem ok_strs {n : Nat} {l : List Str} (hl : l.length ≤ 6) (h : ∀ x ∈ l, Sm x) : OkD 66 (n + 1) (.tup (l.map .str)) (.tuple (l.map .str)) :=
  ((OkL.map (f := D.str) (g := PyData.str) fun x hx => OkD.str (h x hx)).tup).mono (by omega) (Nat.le_refl _)
theorem ok_atom {x : Atom} (h : Sm x.w ∧ Sm x.t ∧ x.cs.length ≤ 6 ∧ ∀ y ∈ x.cs, Sm y) : OkD 100 2 (atomD x) (.tuple [.str x.w, .str x.t, .tuple (x.cs.map .str)]) :=
  ((OkL.cons (OkD.str h.1) (OkL.cons (OkD.str h.2.1) (OkL.cons (ok_strs (n := 0) h.2.2.1 h.2.2.2) OkL.nil))).tup).mono (by omega) (Nat.le_refl _)
def atomP (x : Atom) : PyData := .tuple [.str x.w, .str x.t, .tuple (x.cs.map .str)]
theorem Bnd.ok {d : D} (h : Bnd d) : ∃ p, OkD 41 0 d p := by
  rcases h with rfl | ⟨i, rfl, h1, h2⟩
  · exact ⟨_, OkD.non⟩
  · exact ⟨_, OkD.int (by omega) (by omega)⟩
theorem ok_rn {r : Rn} (h : OkR r) : ∃ p, OkD 110 1 (rnD r) p := by
  obtain ⟨p1, o1⟩ := h.2.1.ok
  obtain ⟨p2, o2⟩ := h.2.2.ok
  exact ⟨_, (OkL.cons (OkD.str h.1) (OkL.cons o1 (OkL.cons o2 OkL.nil))).tup.mono (by omega) (Nat.le_refl _)⟩
theorem ok_rg {rs : List Rn} (hl : rs.length ≤ 7) (h : ∀ r ∈ rs, OkR r) : ∃ p, OkD 2000 3 (rgD rs) p := by
  have : ∃ ps, OkL (rs.length * 111) 1 (rs.map rnD) ps := by
    clear hl
    induction rs with
    | nil => exact ⟨[], by rw [List.length_nil, Nat.zero_mul]; exact OkL.nil⟩
    | cons d l ih =>
      obtain ⟨ps, hp⟩ := ih fun x hx => h x (List.mem_cons_of_mem _ hx)
      obtain ⟨p, hd⟩ := ok_rn (h d List.mem_cons_self)
      have := OkL.cons hd hp
      refine ⟨_, this.pd, this.sh, this.dp, Nat.le_trans this.wt ?_, this.si⟩
      rw [List.length_cons, Nat.add_mul]; omega
  obtain ⟨ps, hp⟩ := this
  exact ⟨_, hp.tup.mono (by omega) (by omega)⟩
theorem ok_qd {cs : List Str} {as : List Atom} {rs : List Rn} (hc : cs.length ≤ 6) (hcs : ∀ x ∈ cs, Sm x) (ha : as.length ≤ 9) (hA : ∀ x ∈ as, Sm x.w ∧ Sm x.t ∧ x.cs.length ≤ 6 ∧ ∀ y ∈ x.cs, Sm y) (hl : rs.length ≤ 7) (h : ∀ r ∈ rs, OkR r) :
    ∃ r, OkD 5000 4 (qD ⟨cs, as, rs⟩) (.tuple [.tuple (cs.map .str), .tuple (as.map atomP), r]) ∧ pdT (rgD rs) = some r := by
  obtain ⟨r, hr⟩ := ok_rg hl h
  have h2 := (OkL.map (n := 2) (f := atomD) (g := atomP) (l := as) fun x hx => ok_atom (hA x hx)).tup
  exact ⟨r, ((OkL.cons (ok_strs (n := 2) hc hcs) (OkL.cons h2 (OkL.cons hr OkL.nil))).tup).mono (by omega) (Nat.le_refl _), hr.pd⟩
theorem ok_q {q : Qu} (h : OkQ q) : ∃ r, OkD 5000 4 (qD q) (.tuple [.tuple (q.cols.map .str), .tuple (q.atoms.map atomP), r]) ∧ pdT (rgD q.rs) = some r :=
  ok_qd h.c h.cs h.a (fun x hx => (h.ok x hx).1) (Nat.le_succ_of_le h.rl) h.rok
theorem eqvAll_strs : ∀ a b : List Str, PyData.eqvAll (a.map PyData.str) (b.map PyData.str) = decide (a = b)
  | [], [] => by rw [List.map_nil, PyData.eqvAll]; rfl
  | [], b :: bs => by rw [List.map_nil, List.map_cons, PyData.eqvAll]; rfl
  | a :: as, [] => by rw [List.map_nil, List.map_cons, PyData.eqvAll]; rfl
  | a :: as, b :: bs => by
    rw [List.map_cons, List.map_cons, PyData.eqvAll, eqvAll_strs as bs, PyData.eqv]
    by_cases h1 : a = b <;> by_cases h2 : as = bs <;> simp [h1, h2]
theorem any_str (a : Str) (l : List Str) : ((l.map PyData.str).any fun z => PyData.eqv z (.str a)) = decide (a ∈ l) := by
  induction l with
  | nil => rfl
  | cons r rs ih =>
    rw [List.map_cons, List.any_cons, ih, PyData.eqv]
    by_cases h1 : r = a
    · subst h1; simp
    · by_cases h2 : a ∈ rs
      · simp [h2]
      · simp [h1, h2, Ne.symm h1]
theorem pdL_strs {l : List Str} (h : ∀ x ∈ l, Sm x) : pdL (l.map D.str) = some (l.map PyData.str) := by
  induction l with
  | nil => rfl
  | cons x l ih => rw [List.map_cons, pdL, pdT, if_pos (h x List.mem_cons_self).1, ih fun y hy => h y (List.mem_cons_of_mem _ hy)]; rfl
section
variable {S : Sto} {Q : D → Sto → Prop}
theorem wp_inStr {a : Str} {l : List Str} (ha : Sm a) (hl : ∀ x ∈ l, Sm x) : Wp (inM (.str a) (.tup (l.map D.str))) S Q ↔ Q (.bl (decide (a ∈ l))) S := by
  refine wp_some ?_
  have h1 : pds S (.str a) = some (.str a) := by show pdT (.str a) = _; rw [pdT, if_pos ha.1]
  have h2 : pds S (.tup (l.map D.str)) = some (.tuple (l.map PyData.str)) := by show pdT _ = _; rw [pdT, pdL_strs hl]; rfl
  unfold inM inL
  simp only [h1, h2]
  rw [if_pos (show (PyData.str a).depth ≤ 100 by rw [PyData.depth]; omega), any_str]; rfl
/-- which atoms have the column -/
def idx (as : List Atom) (c : Str) : List Int := (as.zipIdx.filter fun p => decide (c ∈ p.1.cs)).map fun p => (p.2 : Int)
theorem pairs_map {as : List Atom} : pairs0 (as.map atomD) = as.zipIdx.map fun p => D.tup [.int (p.2 : Nat), atomD p.1] := by
  unfold pairs0
  rw [List.zipIdx_map, List.map_map]
  rfl
theorem lc_any {α : Type} {g : GM} {mt : EM Bool} {me : EM D} {rho : Mn.Env} {t : α → Bool} {f c : α → D} {src : Src} (ok : srcOk src S) : ∀ {l : List α}, (∀ x ∈ l, ∃ r1, g (c x) rho = some r1 ∧ mt r1 S = some (t x, S) ∧ (t x = true → me r1 S = some (f x, S))) →
    lcGo src g mt me rho (l.map c) S = some ((l.filter t).map f, S)
  | [], _ => by unfold lcGo; rw [List.map_nil]; simp only; rw [if_pos ok]; rfl
  | x :: l, h => by
    obtain ⟨r1, h1, h2, h3⟩ := h x List.mem_cons_self
    have ih := lc_any (f := f) (t := t) (c := c) (mt := mt) (me := me) (g := g) (rho := rho) ok (l := l) fun y hy => h y (List.mem_cons_of_mem _ hy)
    rw [List.map_cons]
    unfold lcGo
    rw [if_pos ok, h1, Option.bind_some]
    unfold bnd
    rw [h2]
    cases ht : t x with
    | true => simp only [Option.bind_some, if_true, h3 ht, ih, Mn.ret, List.filter_cons_of_pos ht, List.map_cons]
    | false =>
      simp only [Option.bind_some, Bool.false_eq_true, if_false, ih]
      rw [List.filter_cons_of_neg (by rw [ht]; decide)]
theorem idx_wp {q : Qu} {c : Str} {rho : Mn.Env} (h : OkQ q) (hc : Sm c) (e0 : ∀ S Q, Wp (mV 0 rho) S Q ↔ Q (qD q) S) (e1 : ∀ x y S Q, Wp (mV 1 (((wipeR rho [2, 3]).set 2 (some x)).set 3 (some y))) S Q ↔ Q (.str c) S) (e2 : ∀ x y S Q, Wp (mV 2 (((wipeR rho [2, 3]).set 2 (some x)).set 3 (some y))) S Q ↔ Q x S) (e3 : ∀ x y S Q, Wp (mV 3 (((wipeR rho [2, 3]).set 2 (some x)).set 3 (some y))) S Q ↔ Q y S) :
    Wp (mLc (fun rho => bnd ((mCons (mBin ixM (mV 0) (mC (.int 1))) mNil) rho) enumM) [2, 3] (gT 2 (gsCons (gV 2) (gsCons (gV 3) gsNil))) (mB (mBin inM (mV 1) (mBin ixM (mV 3) (mC (.int 2))))) (mV 2) rho) S Q ↔ Q (.lst ((idx q.atoms c).map .int)) S := by
  have ix : ∀ (S : Sto) (Q : D → Sto → Prop), Wp (ixM (qD q) (.int 1)) S Q ↔ Q (.tup (q.atoms.map atomD)) S := fun S Q => wp_ixT rfl
  have src : ∀ (S : Sto) (Q : Src → Sto → Prop), Wp (enumM [.tup (q.atoms.map atomD)]) S Q ↔ Q ⟨q.atoms.zipIdx.map fun p => D.tup [.int (p.2 : Nat), atomD p.1], []⟩ S := fun S Q => wp_some (by rw [← pairs_map]; rfl)
  simp only [wp_mLc, wp_bnd, wp_mCons, wp_mNil, wp_mBin, e0, wp_mC, ix, src]
  have := lc_any (S := S) (g := gT 2 (gsCons (gV 2) (gsCons (gV 3) gsNil))) (rho := wipeR rho [2, 3]) (mt := mB (mBin inM (mV 1) (mBin ixM (mV 3) (mC (.int 2))))) (me := mV 2) (src := ⟨q.atoms.zipIdx.map fun p => D.tup [.int (p.2 : Nat), atomD p.1], []⟩) (t := fun p : Atom × Nat => decide (c ∈ p.1.cs)) (f := fun p => D.int (p.2 : Nat)) (c := fun p => D.tup [.int (p.2 : Nat), atomD p.1]) srcOk_nil (l := q.atoms.zipIdx) fun p hp => ⟨_, rfl, tr_of (by
      have hm : p.1 ∈ q.atoms := by
        have := List.mem_zipIdx hp
        rw [this.2.2]
        exact List.getElem_mem _
      have ix2 : ∀ (S : Sto) (Q : D → Sto → Prop), Wp (ixM (atomD p.1) (.int 2)) S Q ↔ Q (.tup (p.1.cs.map .str)) S := fun S Q => wp_ixT rfl
      simp only [wp_mB, wp_mBin, e1, e3, wp_mC, ix2]
      rw [wp_inStr hc (h.ok p.1 hm).1.2.2.2, wp_asB]
      exact ⟨rfl, rfl⟩), fun _ => eq_of (by
      rw [e2]
      exact ⟨rfl, rfl⟩)⟩
  rw [wp_some this, wp_lim]
  · unfold idx
    rw [List.map_map]
    rfl
  · rw [List.length_map]
    have := List.length_filter_le (fun p : Atom × Nat => decide (c ∈ p.1.cs)) q.atoms.zipIdx
    rw [List.length_zipIdx] at this
    have := h.a
    omega
theorem atoms_fn {q : Qu} {c : Str} (h : OkQ q) (hc : Sm c) : Wp (if [qD q, .str c].length = P_atoms_of.length then d_atoms_of [qD q, .str c] else fail) S Q ↔ Q (.tup ((idx q.atoms c).map .int)) S := by
  rw [if_pos (show [qD q, .str c].length = P_atoms_of.length from rfl)]
  refine wp_some (eq_of ?_)
  unfold d_atoms_of
  rw [wp_def]
  rw [show startR N_atoms_of.length [qD q, .str c] = [some (qD q), some (.str c), none, none] from rfl]
  unfold b_atoms_of
  refine wp_ret1 ?_
  rw [wp_mCall, wp_mCons, idx_wp h hc (fun S Q => by simp only [wp_mV0]) (fun x y S Q => by simp only [wipeR, List.set_cons_succ, List.set_cons_zero, wp_mVs, wp_mV0]) (fun x y S Q => by simp only [wipeR, List.set_cons_succ, List.set_cons_zero, wp_mVs, wp_mV0]) (fun x y S Q => by simp only [wipeR, List.set_cons_succ, List.set_cons_zero, wp_mVs, wp_mV0]), wp_mNil, wp_tupL]
  exact wp_ret.mpr ⟨rfl, rfl⟩
theorem law_atoms_fn {q : Qu} {c : Str} (h : OkQ q) (hc : Sm c) : Wp (if [qD q, .str c].length = P_law_atoms_of.length then d_law_atoms_of [qD q, .str c] else fail) S Q ↔ Q (.lst ((idx q.atoms c).map .int)) S := by
  rw [if_pos (show [qD q, .str c].length = P_law_atoms_of.length from rfl)]
  refine wp_some (eq_of ?_)
  unfold d_law_atoms_of
  rw [wp_def]
  rw [show startR N_law_atoms_of.length [qD q, .str c] = [some (qD q), some (.str c), none, none] from rfl]
  unfold b_law_atoms_of
  refine wp_ret1 ?_
  rw [idx_wp h hc (fun S Q => by simp only [wp_mV0]) (fun x y S Q => by simp only [wipeR, List.set_cons_succ, List.set_cons_zero, wp_mVs, wp_mV0]) (fun x y S Q => by simp only [wipeR, List.set_cons_succ, List.set_cons_zero, wp_mVs, wp_mV0]) (fun x y S Q => by simp only [wipeR, List.set_cons_succ, List.set_cons_zero, wp_mVs, wp_mV0])]
  exact wp_ret.mpr ⟨rfl, rfl⟩
def Gr (S S' : Sto) : Prop := S.nx ≤ S'.nx ∧ ∀ n, n < S.nx → S'.ob n = S.ob n
theorem Gr.refl {S : Sto} : Gr S S := ⟨Nat.le_refl _, fun _ _ => rfl⟩
theorem Gr.trans {S S1 S2 : Sto} (h : Gr S S1) (k : Gr S1 S2) : Gr S S2 := ⟨Nat.le_trans h.1 k.1, fun n h1 => (k.2 n (Nat.lt_of_lt_of_le h1 h.1)).trans (h.2 n h1)⟩
theorem Gr.new {S0 S : Sto} {o : Ob} (h : Gr S0 S) : Gr S0 (S.new o) := ⟨Nat.le_succ_of_le h.1, fun n h2 => by rw [Sto.new_ob, if_neg (Nat.ne_of_lt (Nat.lt_of_lt_of_le h2 h.1))]; exact h.2 n h2⟩
theorem Gr.setN {S0 S : Sto} {n : Nat} {o : Ob} (h : Gr S0 S) (hn : S0.nx ≤ n) : Gr S0 (S.set n o) := ⟨h.1, fun k h2 => by rw [Sto.set_ob, if_neg (Nat.ne_of_lt (Nat.lt_of_lt_of_le h2 hn))]; exact h.2 k h2⟩
theorem Bag.gr {S S' : Sto} {b : Nat} (h : Bag S b) (hlt : b < S.nx) (g : Gr S S') : Bag S' b := by
  obtain ⟨x, st, i, cs, ho, hl⟩ := h
  exact ⟨x, st, i, cs, (g.2 b hlt).trans ho, hl⟩
end
/-! ### forests and lines -/
def parD : Option Nat → D
  | none => .non
  | some j => .int (j : Nat)
theorem rng_split {n : Nat} {pre rest : List D} {d : D} (h : rngD 0 n = pre ++ d :: rest) : d = .int (pre.length : Nat) ∧ pre.length < n := by
  have hl := congrArg List.length h
  rw [rng_len, List.length_append, List.length_cons] at hl
  have hk : pre.length < n := by omega
  have this : (rngD 0 n)[pre.length]? = (pre ++ d :: rest)[pre.length]? := by rw [h]
  rw [List.getElem?_append_right (Nat.le_refl _), Nat.sub_self, List.getElem?_cons_zero] at this
  unfold rngD at this
  rw [List.getElem?_map, List.getElem?_range hk] at this
  have e := Option.some.inj this
  exact ⟨by rw [← e]; simp, hk⟩
where rng_len {lo : Int} {n : Nat} : (rngD lo n).length = n := by unfold rngD; rw [List.length_map, List.length_range]
theorem rngl {lo : Int} {n : Nat} : (rngD lo n).length = n := by unfold rngD; rw [List.length_map, List.length_range]
theorem rng_src {k : Int} (h0 : 0 ≤ k) (h1 : k ≤ 1000) {S : Sto} {Q : Src → Sto → Prop} : Wp (fun S => (rng1M [.int k]).map fun s => (s, S)) S Q ↔ Q ⟨rngD 0 k.toNat, []⟩ S := wp_some (by
  unfold rng1M rngOk
  simp only
  rw [if_pos (by simp only [Bool.and_eq_true, decide_eq_true_eq]; omega)]
  rfl)
theorem rg1_wp {k : Nat} (h1 : k ≤ 1000) {S : Sto} {Q : D → Sto → Prop} : Wp (rg1M (.int (k : Nat))) S Q ↔ Q (.lst (rngD 0 k)) S := wp_some (by
  unfold rg1M rgOk
  simp only
  rw [if_pos (by simp only [Bool.and_eq_true, decide_eq_true_eq]; omega), Int.sub_zero, Int.toNat_natCast])
theorem mem_rng {n : Nat} {d : D} (h : d ∈ rngD 0 n) : ∃ j : Nat, j < n ∧ d = .int (j : Nat) := by
  unfold rngD at h
  obtain ⟨j, hj, rfl⟩ := List.mem_map.mp h
  exact ⟨j, List.mem_range.mp hj, by simp⟩
def Fo (P : List (Option Nat)) : Prop := ∀ (k j : Nat), P[k]? = some (some j) → j < k
theorem app_wp {S : Sto} {n : Nat} {ds : List D} {y : D} {Q : D → Sto → Prop} (h : S.ob n = some (.lst ds)) (hl : ds.length ≤ 1000) : Wp (appM (.ref n) [y]) S Q ↔ Q .non (S.set n (.lst (ds ++ [y]))) := wp_some (by
  unfold appM
  simp only [h]
  exact if_pos (Nat.lt_of_le_of_lt hl (by decide)))
section
variable {S : Sto} {b : Nat} {Q : D → Sto → Prop}
theorem forest_spec {m : Nat} (hb : Bag S b) (hlt : b < S.nx) (hm : m ≤ 6) (fin : ∀ (P : List (Option Nat)) (n : Nat) S', P.length = m → Fo P → S'.ob n = some (.lst (P.map parD)) → S.nx ≤ n → n < S'.nx → Bag S' b → Kp b S S' → Q (.ref n) S') :
    Wp (if [D.ref b, D.int (m : Nat)].length = P_law_forest.length then d_law_forest [.ref b, .int (m : Nat)] else fail) S Q := by
  rw [if_pos (show [D.ref b, D.int (m : Nat)].length = P_law_forest.length from rfl)]
  unfold d_law_forest
  rw [wp_def]
  rw [show startR N_law_forest.length [D.ref b, D.int (m : Nat)] = [some (.ref b), some (.int (m : Nat)), none, none] from rfl]
  unfold b_law_forest
  refine wp_seq (R := fun r S1 => r = [some (.ref b), some (.int (m : Nat)), some (.ref S.nx), none] ∧ S1 = S.new (.lst [])) ?_ ?_
  · simp only [wp_mSet, wp_mNew, wp_mNil]
    exact Wp.to (show mkNew [] S = some (.ref S.nx, S.new (.lst [])) by unfold mkNew; rw [if_pos (limP (by simp))]) ⟨trivial, rfl, rfl⟩
  rintro r S1 ⟨rfl, rfl⟩
  have nb : b ≠ S.nx := Nat.ne_of_lt hlt
  refine wp_seq (R := fun r S1 => ∃ x3, r = [some (.ref b), some (.int (m : Nat)), some (.ref S.nx), x3] ∧ ∃ P : List (Option Nat), P.length = m ∧ Fo P ∧ S1.ob S.nx = some (.lst (P.map parD)) ∧ Bag S1 b ∧ Kp b S S1 ∧ S.nx < S1.nx) ?_ ?_
  · rw [wp_mFor, wp_mIR]
    simp only [wp_mCons, wp_mNil, wp_mVs, wp_mV0]
    rw [rng_src (by omega) (by omega), Int.toNat_natCast]
    refine Wp.mono (loop_done (src := ⟨rngD 0 m, []⟩) (ds := rngD 0 m) (pre := []) (g := gV 3) (I := fun done r S1 => ∃ x3, r = [some (.ref b), some (.int (m : Nat)), some (.ref S.nx), x3] ∧ ∃ P : List (Option Nat), P.length = done.length ∧ Fo P ∧ S1.ob S.nx = some (.lst (P.map parD)) ∧ Bag S1 b ∧ Kp b S S1 ∧ S.nx < S1.nx) (fun _ _ _ _ => srcOk_nil) ⟨none, rfl, [], rfl, fun k j h => by simp at h, by rw [Sto.new_ob, if_pos rfl]; rfl, hb.new hlt, Kp.refl.new, Nat.lt_succ_self _⟩ ?_) ?_
    · rintro done d rest e r S1 ⟨x3, rfl, P, hl, hF, ho, g, kp, hx⟩
      obtain ⟨rfl, hk⟩ := rng_split e
      refine ⟨_, rfl, ?_⟩
      rw [wp_mSeq, wp_mDrop, wp_mMet]
      simp only [List.set_cons_succ, List.set_cons_zero, wp_mVs, wp_mV0]
      refine (wp_ref (a := mCons (mFn P_law_some.length d_law_some (mCons (mV 0) (mCons (mBin addM (mBin addM (mLst (mCons (mC .non) mNil)) (mUn rg1M (mV 3))) (mUn rg1M (mV 3))) mNil))) mNil) (f := appM) ho).mpr ?_
      have l1 : ∀ (S : Sto) (Q : D → Sto → Prop), Wp (mkLst [D.non]) S Q ↔ Q (.lst [.non]) S := fun S Q => wp_mkLst (by simp)
      have a1 : ∀ (S : Sto) (Q : D → Sto → Prop), Wp (addM (.lst [.non]) (.lst (rngD 0 done.length))) S Q ↔ Q (.lst ([.non] ++ rngD 0 done.length)) S := fun S Q => wp_addL (by rw [rngl]; simp; omega)
      have a2 : ∀ (S : Sto) (Q : D → Sto → Prop), Wp (addM (.lst ([.non] ++ rngD 0 done.length)) (.lst (rngD 0 done.length))) S Q ↔ Q (.lst ([.non] ++ rngD 0 done.length ++ rngD 0 done.length)) S := fun S Q => wp_addL (by rw [List.length_append, rngl]; simp; omega)
      simp only [wp_mCons, wp_mNil, wp_mFn, wp_mBin, wp_mLst, wp_mC, l1, wp_mUn, wp_mVs, wp_mV0, rg1_wp (show done.length ≤ 1000 by omega), a1, a2]
      refine some_fn g (.inl rfl) (by simp) (by rw [List.length_append, List.length_append, rngl]; simp; omega) fun v S2 hv g2 k2 => ?_
      have ho2 : S2.ob S.nx = some (.lst (P.map parD)) := (k2.2 S.nx (Ne.symm nb) hx).trans ho
      obtain ⟨o, hvo, hoj⟩ : ∃ o : Option Nat, v = parD o ∧ ∀ j, o = some j → j < done.length := by
        rcases List.mem_append.mp hv with hv | hv
        · rcases List.mem_append.mp hv with hv | hv
          · exact ⟨none, List.mem_singleton.mp hv, fun j h => nomatch h⟩
          · obtain ⟨j, hj, e⟩ := mem_rng hv
            exact ⟨some j, e, fun k h => by cases h; exact hj⟩
        · obtain ⟨j, hj, e⟩ := mem_rng hv
          exact ⟨some j, e, fun k h => by cases h; exact hj⟩
      subst hvo
      rw [app_wp ho2 (by rw [List.length_map]; omega)]
      simp only [wp_mNx]
      refine ⟨trivial, _, rfl, P ++ [o], by simp [hl], fun k j h => ?_, by rw [ob_set]; simp, Bag.kp (S' := S2) g2 (Ne.symm nb), (kp.trans k2).setN (Nat.le_refl _), Nat.lt_of_lt_of_le hx k2.1⟩
      by_cases hk2 : k < P.length
      · rw [List.getElem?_append_left hk2] at h
        exact hF k j h
      · rw [List.getElem?_append_right (by omega)] at h
        have hk3 : k - P.length = 0 := by
          cases hz : k - P.length with
          | zero => rfl
          | succ z => rw [hz] at h; simp at h
        rw [hk3] at h
        have := hoj j (by simpa using h)
        omega
    · rintro ⟨fl, r⟩ S1 ⟨e1, x3, e2, P, hl, q⟩
      rw [List.nil_append, rngl] at hl
      exact ⟨e1, x3, e2, P, hl, q⟩
  rintro r S1 ⟨x3, rfl, P, hl, hF, ho, g, kp, hx⟩
  refine wp_ret1 ?_
  simp only [wp_mVs, wp_mV0, wp_ret]
  exact fin P _ S1 hl hF ho (Nat.le_refl _) hx g kp
inductive Anc (P : List (Option Nat)) : Nat → Nat → Prop
  | refl (k : Nat) : Anc P k k
  | step {i j k : Nat} : P[k]? = some (some j) → Anc P i j → Anc P i k
theorem Anc.trans {P : List (Option Nat)} {i j k : Nat} (h : Anc P i j) (g : Anc P j k) : Anc P i k := by
  induction g with
  | refl => exact h
  | step e _ ih => exact .step e ih
theorem Anc.linear {P : List (Option Nat)} {i j k : Nat} (h : Anc P i k) (g : Anc P j k) : Anc P i j ∨ Anc P j i := by
  induction h with
  | refl => exact .inr g
  | step e h1 ih =>
    cases g with
    | refl => exact .inl (.step e h1)
    | step e2 g2 =>
      rw [e] at e2
      cases e2
      exact ih g2
theorem line_spec {P : List (Option Nat)} {n at_ : Nat} (ho : S.ob n = some (.lst (P.map parD))) (hF : Fo P) (hat : at_ < P.length) (hP : P.length ≤ 6) (fin : ∀ l : List Nat, l.length ≤ 6 → (∀ i, i ∈ l ↔ Anc P i at_) → Q (.lst (l.map fun i : Nat => .int (i : Nat))) S) :
    Wp (if [D.ref n, D.int (at_ : Nat)].length = P_law_line.length then d_law_line [.ref n, .int (at_ : Nat)] else fail) S Q := by
  rw [if_pos (show [D.ref n, D.int (at_ : Nat)].length = P_law_line.length from rfl)]
  unfold d_law_line
  rw [wp_def]
  rw [show startR N_law_line.length [D.ref n, D.int (at_ : Nat)] = [some (.ref n), some (.int (at_ : Nat)), none] from rfl]
  unfold b_law_line
  refine wp_seq (R := fun r S1 => r = [some (.ref n), some (.int (at_ : Nat)), some (.lst ([at_].map fun i : Nat => .int (i : Nat)))] ∧ S1 = S) ?_ ?_
  · simp only [wp_mSet, wp_mLst, wp_mCons, wp_mNil, wp_mVs, wp_mV0]
    rw [wp_mkLst (by simp)]
    exact ⟨trivial, rfl, rfl⟩
  rintro r S1 ⟨rfl, rfl⟩
  rw [wp_mSeq]
  have ixh : ∀ (h : Nat) (t : List Nat) (Q : D → Sto → Prop), Wp (ixM (.lst ((h :: t).map fun i : Nat => D.int (i : Nat))) (.int 0)) S1 Q ↔ Q (.int (h : Nat)) S1 := fun h t Q => wp_ixL (by unfold atI ixN; rw [if_pos (Int.le_refl 0), if_pos (by simp)]; rfl)
  have ixp : ∀ (h : Nat) (Q : D → Sto → Prop) (hh : h < P.length), Wp (ixM (.ref n) (.int (h : Nat))) S1 Q ↔ Q (parD P[h]) S1 := fun h Q hh => wp_ixR ho (by
    unfold atI ixN
    rw [if_pos (by omega), if_pos (by rw [List.length_map]; omega)]
    show (P.map parD)[(h : Int).toNat]? = _
    rw [Int.toNat_natCast, List.getElem?_map, List.getElem?_eq_getElem hh]
    rfl)
  refine wp_while (I := fun k r S2 => S2 = S1 ∧ ∃ h t, k = h ∧ r = [some (.ref n), some (.int (at_ : Nat)), some (.lst ((h :: t).map fun i : Nat => .int (i : Nat)))] ∧ h < P.length ∧ (h :: t).length + h ≤ at_ + 1 ∧ ∀ i, Anc P i at_ ↔ i ∈ h :: t ∨ Anc P i h) ?_ (n := at_) ⟨rfl, at_, [], rfl, rfl, hat, by simp; omega, fun i => ⟨.inr, fun q => q.elim (fun q => by rw [List.mem_singleton.mp q]; exact .refl _) id⟩⟩
  rintro k r S2 ⟨rfl, h, t, rfl, rfl, hh, hlen, hall⟩
  simp only [wp_mB, wp_mNotN, wp_mBin, wp_mVs, wp_mV0, wp_mC, ixh]
  rw [ixp k _ hh]
  have hPk : P[k]? = some P[k] := List.getElem?_eq_getElem hh
  cases hp : P[k] with
  | none =>
    simp only [parD, isNonD, Bool.not_true, wp_asB, Bool.false_eq_true, if_false]
    refine wp_ret1 ?_
    simp only [wp_mVs, wp_mV0, wp_ret]
    refine fin (k :: t) (by omega) fun i => ?_
    rw [hall i]
    constructor
    · exact .inl
    · rintro (q | q)
      · exact q
      · cases q with
        | refl => exact List.mem_cons_self
        | step e _ => rw [hPk, hp] at e; cases e
  | some j =>
    have hj : j < k := hF k j (by rw [hPk, hp])
    simp only [parD, isNonD, Bool.not_false, wp_asB, if_true]
    have l1 : ∀ (d : D) (S : Sto) (Q : D → Sto → Prop), Wp (mkLst [d]) S Q ↔ Q (.lst [d]) S := fun d S Q => wp_mkLst (by simp)
    simp only [wp_mSeq, wp_mSet, wp_mBin, wp_mLst, wp_mCons, wp_mNil, wp_mVs, wp_mV0, wp_mC, ixh]
    rw [ixp k _ hh, hp]
    simp only [parD, l1]
    rw [wp_addL (by rw [List.length_map]; simp; have := hlen; simp at this; omega)]
    simp only [List.set_cons_succ, List.set_cons_zero, wp_mNx]
    refine ⟨trivial, j, hj, trivial, j, k :: t, rfl, rfl, by omega, by simp at hlen ⊢; omega, fun i => ?_⟩
    rw [hall i]
    constructor
    · rintro (q | q)
      · exact .inl (List.mem_cons_of_mem _ q)
      · cases q with
        | refl => exact .inl (List.mem_cons_of_mem _ List.mem_cons_self)
        | step e g => rw [hPk, hp] at e; cases e; exact .inr g
    · rintro (q | q)
      · rcases List.mem_cons.mp q with rfl | q
        · exact .inr (.step (by rw [hPk, hp]) (.refl _))
        · exact .inl q
      · exact .inr (.step (by rw [hPk, hp]) q)
/-! ### texts of lists of names -/
theorem perm_of {α : Type} {f : α → D} {g : D → α} (hg : ∀ x, g (f x) = x) {es : List D} {l : List α} (h : es.Perm (l.map f)) : ∃ l' : List α, es = l'.map f ∧ l'.Perm l := by
  refine ⟨es.map g, ?_, ?_⟩
  · rw [List.map_map]
    refine (List.map_id es).symm.trans (List.map_congr_left fun e he => ?_)
    obtain ⟨x, _, rfl⟩ := List.mem_map.mp (h.mem_iff.mp he)
    show f x = f (g (f x))
    rw [hg]
  · have := h.map g
    rw [List.map_map] at this
    refine this.trans ?_
    rw [show (l.map (g ∘ f)) = l from (List.map_congr_left fun x _ => hg x).trans (List.map_id l)]
def strG : D → Str
  | .str x => x
  | _ => default
theorem strs_perm {es : List D} {l : List Str} (h : es.Perm (l.map .str)) : ∃ l' : List Str, es = l'.map .str ∧ l'.Perm l := perm_of (g := strG) (fun _ => rfl) h
def atomG : D → Atom
  | .tup [.str w, .str t, .tup cs] => ⟨w, t, cs.map strG⟩
  | _ => ⟨default, default, []⟩
theorem atomG_D (a : Atom) : atomG (atomD a) = a := by
  unfold atomD atomG
  simp only [List.map_map]
  rw [show (a.cs.map (strG ∘ D.str)) = a.cs from (List.map_congr_left fun x _ => rfl).trans (List.map_id _)]
theorem atoms_perm {es : List D} {l : List Atom} (h : es.Perm (l.map atomD)) : ∃ l' : List Atom, es = l'.map atomD ∧ l'.Perm l := perm_of (g := atomG) atomG_D h
theorem Anc.le {P : List (Option Nat)} {i k : Nat} (hF : Fo P) (h : Anc P i k) : i ≤ k := by
  induction h with
  | refl => exact Nat.le_refl _
  | step e _ ih => have := hF _ _ e; omega
/-- mixed names -/
theorem mixed_strs {th : D} {l : List Str} (hb : Bag S b) (hlt : b < S.nx) (hs : th = .lst (l.map .str)) (hl : l.length ≤ 100) (fin : ∀ (l' : List Str) (n : Nat) S', l'.Perm l → S'.ob n = some (.lst (l'.map .str)) → S.nx ≤ n → n < S'.nx → Bag S' b → Kp b S S' → Q (.ref n) S') :
    Wp (if [D.ref b, th].length = P_law_mixed.length then d_law_mixed [.ref b, th] else fail) S Q := by
  subst hs
  refine mixed_spec (src := ⟨l.map .str, []⟩) hb hlt rfl srcOk_nil (fun p h => nomatch h) (by rw [List.length_map]; omega) fun es n S' hp ho h1 h2 g k => ?_
  obtain ⟨l', rfl, h3⟩ := strs_perm hp
  exact fin l' n S' h3 ho h1 h2 g k
theorem columns_spec {P : List (Option Nat)} {n at_ : Nat} {nm : List Str} (hb : Bag S b) (hlt : b < S.nx) (ho : S.ob n = some (.lst (P.map parD))) (hF : Fo P) (hat : at_ < P.length) (hP : P.length ≤ 6) (hnm : nm.length = P.length)
    (fin : ∀ (cs : List Str) S', cs.length ≤ 6 → (∀ c, c ∈ cs ↔ ∃ i, Anc P i at_ ∧ nm[i]? = some c) → Bag S' b → Kp b S S' → Q (.tup (cs.map .str)) S') :
    Wp (if [D.ref b, D.lst (nm.map .str), D.ref n, D.int (at_ : Nat)].length = P_law_columns_mixed.length then d_law_columns_mixed [.ref b, .lst (nm.map .str), .ref n, .int (at_ : Nat)] else fail) S Q := by
  rw [if_pos (show [D.ref b, D.lst (nm.map .str), D.ref n, D.int (at_ : Nat)].length = P_law_columns_mixed.length from rfl)]
  unfold d_law_columns_mixed
  rw [wp_def]
  rw [show startR N_law_columns_mixed.length [D.ref b, D.lst (nm.map .str), D.ref n, D.int (at_ : Nat)] = [some (.ref b), some (.lst (nm.map .str)), some (.ref n), some (.int (at_ : Nat)), none] from rfl]
  unfold b_law_columns_mixed
  refine wp_ret1 ?_
  rw [wp_mCall, wp_mCons, wp_mFn, wp_mCons]
  simp only [wp_mV0]
  rw [wp_mCons, wp_mLc, wp_mISeq, wp_mFn]
  simp only [wp_mCons, wp_mNil, wp_mVs, wp_mV0]
  refine line_spec ho hF hat hP fun l hll hall => ?_
  have src : ∀ (S : Sto) (Q : Src → Sto → Prop), Wp (fun S => (srcOf (.lst (l.map fun i : Nat => D.int (i : Nat))) S).map fun s => (s, S)) S Q ↔ Q ⟨l.map fun i : Nat => D.int (i : Nat), []⟩ S := fun S Q => wp_some rfl
  rw [src]
  have hlt2 : ∀ i ∈ l, i < nm.length := fun i hi => by have := ((hall i).mp hi).le hF; omega
  have := lc_any (S := S) (g := gV 4) (rho := wipeR [some (.ref b), some (.lst (nm.map .str)), some (.ref n), some (.int (at_ : Nat)), none] [4]) (mt := mYes) (me := mBin ixM (mV 1) (mV 4)) (src := ⟨l.map fun i : Nat => D.int (i : Nat), []⟩) (t := fun _ => true) (f := fun i : Nat => D.str (nm.getD i default)) (c := fun i : Nat => D.int (i : Nat)) srcOk_nil (l := l) fun i hi => ⟨_, rfl, rfl, fun _ => eq_of (by
      simp only [wp_mBin, wipeR, List.set_cons_succ, List.set_cons_zero, wp_mVs, wp_mV0]
      have h1 := hlt2 i hi
      rw [wp_ixL (d := .str (nm.getD i default)) (by
        unfold atI ixN
        rw [if_pos (by omega), if_pos (by rw [List.length_map]; omega)]
        show (nm.map D.str)[(i : Int).toNat]? = _
        rw [Int.toNat_natCast, List.getElem?_map, List.getElem?_eq_getElem h1]
        simp [List.getD, List.getElem?_eq_getElem h1])]
      exact ⟨rfl, rfl⟩)⟩
  rw [List.filter_eq_self.mpr (fun _ _ => rfl), show (l.map fun i : Nat => D.str (nm.getD i default)) = (l.map fun i => nm.getD i default).map D.str by rw [List.map_map]; rfl] at this
  rw [wp_some this, wp_lim (by rw [List.length_map, List.length_map]; omega)]
  refine mixed_strs hb hlt rfl (by rw [List.length_map]; omega) fun cs k S' hp ho' h1 h2 g kp => ?_
  rw [wp_tupR ho']
  refine wp_ret.mpr (fin cs S' (by rw [hp.length_eq, List.length_map]; omega) (fun c => ?_) g kp)
  rw [hp.mem_iff, List.mem_map]
  constructor
  · rintro ⟨i, hi, rfl⟩
    refine ⟨i, (hall i).mp hi, ?_⟩
    rw [List.getElem?_eq_getElem (hlt2 i hi)]
    simp [List.getD, List.getElem?_eq_getElem (hlt2 i hi)]
  · rintro ⟨i, ha, he⟩
    exact ⟨i, (hall i).mpr ha, by simp [List.getD, he]⟩
/-! ### ranges -/
theorem Bnd.isN {d : D} (h : Bnd d) : (isNonD d = true ∧ d = .non) ∨ (isNonD d = false ∧ ∃ i, d = .int i) := by
  rcases h with rfl | ⟨i, rfl, _, _⟩
  · exact .inl ⟨rfl, rfl⟩
  · exact .inr ⟨rfl, i, rfl⟩
theorem some_bnd {l : List D} (hb : Bag S b) (h0 : 0 < l.length) (h1 : l.length < 1000) (hl : ∀ d ∈ l, Bnd d) (k : ∀ d S', Bnd d → Bag S' b → Kp b S S' → Q d S') :
    Wp (if [D.ref b, D.lst l].length = P_law_some.length then d_law_some [.ref b, .lst l] else fail) S Q := some_fn hb (.inl rfl) h0 h1 fun d S' hd g kp => k d S' (hl d hd) g kp
theorem bI {i : Int} (h : -10 ≤ i ∧ i ≤ 10) : Bnd (.int i) := .inr ⟨i, rfl, h.1, h.2⟩
theorem ranges_spec {cs : List Str} (hb : Bag S b) (hlt : b < S.nx) (hl : cs.length ≤ 6) (hs : ∀ c ∈ cs, Sm c) (hnd : cs.Nodup) (fin : ∀ (rs : List Rn) S', rs.length ≤ 6 → (∀ r ∈ rs, OkR r) → (∀ r ∈ rs, LeB r.lo r.hi) → (rs.map Rn.c).Nodup → (∀ r ∈ rs, r.c ∈ cs) → Bag S' b → Kp b S S' → Q (rgD rs) S') :
    Wp (if [D.ref b, D.tup (cs.map .str)].length = P_law_ranges.length then d_law_ranges [.ref b, .tup (cs.map .str)] else fail) S Q := by
  rw [if_pos (show [D.ref b, D.tup (cs.map .str)].length = P_law_ranges.length from rfl)]
  unfold d_law_ranges
  rw [wp_def]
  rw [show startR N_law_ranges.length [D.ref b, D.tup (cs.map .str)] = [some (.ref b), some (.tup (cs.map .str)), none, none, none, none] from rfl]
  unfold b_law_ranges
  refine wp_seq (R := fun r S1 => r = [some (.ref b), some (.tup (cs.map .str)), some (.ref S.nx), none, none, none] ∧ S1 = S.new (.lst [])) ?_ ?_
  · simp only [wp_mSet, wp_mNew, wp_mNil]
    exact Wp.to (show mkNew [] S = some (.ref S.nx, S.new (.lst [])) by unfold mkNew; rw [if_pos (limP (by simp))]) ⟨trivial, rfl, rfl⟩
  rintro r S1 ⟨rfl, rfl⟩
  have nb : b ≠ S.nx := Nat.ne_of_lt hlt
  refine wp_seq (R := fun r S1 => (∃ x3 x4 x5, r = [some (.ref b), some (.tup (cs.map .str)), some (.ref S.nx), x3, x4, x5]) ∧ ∃ l : List Rn, l.length ≤ 6 ∧ (∀ d ∈ l, OkR d) ∧ (∀ d ∈ l, LeB d.lo d.hi) ∧ (l.map Rn.c).Nodup ∧ (∀ d ∈ l, d.c ∈ cs) ∧ S1.ob S.nx = some (.lst (l.map rnD)) ∧ Bag S1 b ∧ Kp b S S1) ?_ ?_
  · rw [wp_mFor, wp_mISeq, wp_mFn, wp_mCons]
    simp only [wp_mV0]
    have li : ∀ (S : Sto) (Q : D → Sto → Prop), Wp (listM [.tup (cs.map .str)]) S Q ↔ Q (.lst (cs.map .str)) S := fun S Q => wp_some rfl
    simp only [wp_mCons, wp_mNil, wp_mCall, wp_mVs, wp_mV0, li]
    refine mixed_strs (hb.new hlt) (Nat.lt_succ_of_lt hlt) rfl (by omega) fun cs' n S2 hp ho2 hn1 hn2 g2 k2 => ?_
    have hne : n ≠ S.nx := fun e => by rw [e] at hn1; exact absurd hn1 (Nat.not_le_of_lt (Nat.lt_succ_self _))
    have hnb : n ≠ b := fun e => by rw [e] at hn1; exact absurd (Nat.lt_of_lt_of_le (Nat.lt_succ_of_lt hlt) hn1) (Nat.lt_irrefl _)
    have src : ∀ (Q : Src → Sto → Prop), Wp (fun S => (srcOf (.ref n) S).map fun s => (s, S)) S2 Q ↔ Q ⟨cs'.map .str, [(n, cs'.map .str)]⟩ S2 := fun Q => wp_some (by unfold srcOf; simp only [ho2]; rfl)
    rw [src]
    have hN : S.nx < S2.nx := Nat.lt_of_lt_of_le (Nat.lt_succ_self _) k2.1
    have hob : S2.ob S.nx = some (.lst []) := (k2.2 S.nx (Ne.symm nb) (Nat.lt_succ_self _)).trans (by rw [Sto.new_ob, if_pos rfl])
    refine Wp.mono (loop_done (src := ⟨cs'.map .str, [(n, cs'.map .str)]⟩) (ds := cs'.map .str) (pre := []) (g := gV 3) (I := fun done r S1 => (∃ x3 x4 x5, r = [some (.ref b), some (.tup (cs.map .str)), some (.ref S.nx), x3, x4, x5]) ∧ (∃ l : List Rn, (l.map fun r => D.str r.c).Sublist done ∧ (∀ d ∈ l, OkR d) ∧ (∀ d ∈ l, LeB d.lo d.hi) ∧ S1.ob S.nx = some (.lst (l.map rnD))) ∧ S1.ob n = some (.lst (cs'.map .str)) ∧ Bag S1 b ∧ Kp b S S1 ∧ S2.nx ≤ S1.nx) (fun _ _ _ h => srcOk_one.mpr h.2.2.1) ⟨⟨_, _, _, rfl⟩, ⟨[], by simp, (fun d h => nomatch h), (fun d h => nomatch h), hob⟩, ho2, g2, (Kp.refl.new).trans k2, Nat.le_refl _⟩ ?_) ?_
    · rintro done d rest e r S3 ⟨⟨x3, x4, x5, rfl⟩, ⟨l, hll, hR, hLe, hol⟩, hon, g3, k3, hx3⟩
      have hdl : done.length + 1 ≤ 6 := by
        have h9 := congrArg List.length e
        rw [List.nil_append, List.length_append, List.length_cons, List.length_map, hp.length_eq] at h9
        omega
      obtain ⟨c, hc, rfl⟩ : ∃ c, Sm c ∧ d = .str c := by
        have : d ∈ cs'.map D.str := by
          have e' : cs'.map D.str = done ++ d :: rest := e
          rw [e']; simp
        obtain ⟨c, hc, rfl⟩ := List.mem_map.mp this
        exact ⟨c, hs c (hp.mem_iff.mp hc), rfl⟩
      refine ⟨_, rfl, ?_⟩
      have keepL : ∀ {S4 : Sto}, Kp b S3 S4 → S4.ob S.nx = some (.lst (l.map rnD)) ∧ S4.ob n = some (.lst (cs'.map .str)) ∧ Kp b S S4 ∧ S2.nx ≤ S4.nx := fun {S4} k => ⟨(k.2 S.nx (Ne.symm nb) (Nat.lt_of_lt_of_le hN hx3)).trans hol, (k.2 n hnb (Nat.lt_of_lt_of_le hn2 hx3)).trans hon, k3.trans k, Nat.le_trans hx3 k.1⟩
      rw [wp_mSeq, wp_mIfS, wp_mB, wp_mBin]
      simp only [List.set_cons_succ, List.set_cons_zero, wp_mFn, wp_mCons, wp_mNil, wp_mVs, wp_mV0, wp_mC]
      refine take_fn g3 (by decide) (by decide) fun v S4 a c1 g4 k4 => ?_
      rw [wp_eqI, wp_asB]
      by_cases hv : v = 0
      · simp only [hv, beq_self_eq_true, if_true]
        have ml : ∀ (l : List D) (S : Sto) (Q : D → Sto → Prop), l.length ≤ 1000000 → (Wp (mkLst l) S Q ↔ Q (.lst l) S) := fun l S Q h => wp_mkLst h
        rw [wp_mSeq, wp_mSet, wp_mFn]
        simp only [wp_mCons, wp_mNil, wp_mVs, wp_mV0, wp_mLst, wp_mC, wp_mUn, wp_neg]
        rw [ml _ _ _ (by simp)]
        refine some_bnd g4 (by simp) (by simp) (fun d hd => ?_) fun lo S5 hlo g5 k5 => ?_
        · simp only [List.mem_cons, List.not_mem_nil, or_false] at hd
          rcases hd with rfl | rfl | rfl | rfl | rfl
          · exact .inl rfl
          all_goals exact bI (by decide)
        simp only [List.set_cons_succ, List.set_cons_zero]
        rw [wp_mSeq, wp_mSet, wp_mFn]
        simp only [wp_mCons, wp_mNil, wp_mVs, wp_mV0, wp_mLst, wp_mC, wp_mIf, wp_mB, wp_mNotN, wp_asB]
        have mid : ∀ (Q : D → Sto → Prop), (∀ d, Bnd d → Q d S5) → Wp (if (!isNonD lo) = true then mV 4 [some (.ref b), some (.tup (cs.map .str)), some (.ref S.nx), some (.str c), some lo, x5] else mC (.int 2) [some (.ref b), some (.tup (cs.map .str)), some (.ref S.nx), some (.str c), some lo, x5]) S5 Q := fun Q k => by
          rcases hlo.isN with ⟨e1, e2⟩ | ⟨e1, i, e2⟩
          · simp only [e1, Bool.not_true, Bool.false_eq_true, if_false, wp_mC]
            exact k _ (bI (by decide))
          · simp only [e1, Bool.not_false, if_true, wp_mVs, wp_mV0]
            exact k _ hlo
        refine mid _ fun d5 hd5 => ?_
        rw [ml _ _ _ (by simp)]
        refine some_bnd g5 (by simp) (by simp) (fun d hd => ?_) fun hi S6 hhi g6 k6 => ?_
        · simp only [List.mem_cons, List.not_mem_nil, or_false] at hd
          rcases hd with rfl | rfl | rfl | rfl | rfl | rfl
          · exact .inl rfl
          · exact bI (by decide)
          · exact bI (by decide)
          · exact bI (by decide)
          · exact hd5
          · exact bI (by decide)
        simp only [List.set_cons_succ, List.set_cons_zero]
        obtain ⟨hoS, honS, kS, hxS⟩ := keepL ((k4.trans k5).trans k6)
        rw [wp_mSeq, wp_mDrop, wp_mMet]
        simp only [wp_mVs, wp_mV0]
        refine (wp_ref (a := mCons (mTup (mCons (mV 3) (mCons (mV 4) (mCons (mIf (mOr (mB (mIsN (mV 4))) (mOr (mB (mIsN (mV 5))) (mB (mBin leM (mV 4) (mV 5))))) (mV 5) (mV 4)) mNil)))) mNil) (f := appM) hoS).mpr ?_
        have pickH : ∀ (Q : D → Sto → Prop), (∀ d, Bnd d → LeB lo d → Q d S6) → Wp (mIf (mOr (mB (mIsN (mV 4))) (mOr (mB (mIsN (mV 5))) (mB (mBin leM (mV 4) (mV 5))))) (mV 5) (mV 4) [some (.ref b), some (.tup (cs.map .str)), some (.ref S.nx), some (.str c), some lo, some hi]) S6 Q := fun Q k => by
          simp only [wp_mIf, wp_mOr, wp_mB, wp_mIsN, wp_mVs, wp_mV0, wp_asB]
          rcases hlo.isN with ⟨e1, e2⟩ | ⟨e1, i, e2⟩
          · simp only [e1, if_true, wp_ret, wp_mVs, wp_mV0]
            exact k _ hhi (fun i j h1 h2 => by rw [e2] at h1; cases h1)
          · simp only [e1, Bool.false_eq_true, if_false, wp_mOr, wp_mB, wp_mIsN, wp_mVs, wp_mV0, wp_asB]
            rcases hhi.isN with ⟨f1, f2⟩ | ⟨f1, j, f2⟩
            · simp only [f1, if_true, wp_ret, wp_mVs, wp_mV0]
              exact k _ hhi (fun i j h1 h2 => by rw [f2] at h2; cases h2)
            · simp only [f1, Bool.false_eq_true, if_false, wp_mB, wp_mBin, wp_mVs, wp_mV0]
              rw [e2, f2, wp_le, wp_asB]
              split
              · rename_i hle
                simp only [wp_mVs, wp_mV0]; rw [← f2]
                exact k _ hhi (fun i' j' h1 h2 => by rw [e2] at h1; rw [f2] at h2; cases h1; cases h2; exact of_decide_eq_true hle)
              · simp only [wp_mVs, wp_mV0]; rw [← e2]
                exact k _ hlo (fun i' j' h1 h2 => by rw [h1] at h2; cases h2; exact Int.le_refl _)
        rw [wp_mCons, wp_mTup, wp_mCons]
        simp only [wp_mVs, wp_mV0]
        rw [wp_mCons]
        simp only [wp_mVs, wp_mV0]
        rw [wp_mCons]
        refine pickH _ fun h2 hh2 hle2 => ?_
        rw [wp_mNil, wp_mkTup (by simp), wp_mNil, app_wp hoS (by rw [List.length_map]; have := hll.length_le; rw [List.length_map] at this; omega)]
        simp only [wp_mNx]
        refine ⟨trivial, ⟨_, _, _, rfl⟩, ⟨l ++ [⟨c, lo, h2⟩], by rw [List.map_append]; exact hll.append (List.Sublist.refl _), fun d hd => ?_, fun d hd => ?_, by rw [ob_set, List.map_append]; rfl⟩, by rw [Sto.set_ob, if_neg hne]; exact honS, Bag.kp (S' := S6) g6 (Ne.symm nb), kS.setN (Nat.le_refl _), hxS⟩
        · rcases List.mem_append.mp hd with hd | hd
          · exact hR d hd
          · rw [List.mem_singleton.mp hd]
            exact ⟨hc, hlo, hh2⟩
        · rcases List.mem_append.mp hd with hd | hd
          · exact hLe d hd
          · rw [List.mem_singleton.mp hd]
            exact hle2
      · simp only [show (v == 0) = false from by simpa using hv, Bool.false_eq_true, if_false, wp_mNx]
        obtain ⟨hoS, honS, kS, hxS⟩ := keepL k4
        exact ⟨trivial, ⟨_, _, _, rfl⟩, ⟨l, hll.trans (List.sublist_append_left _ _), hR, hLe, hoS⟩, honS, g4, kS, hxS⟩
    · rintro ⟨fl, r⟩ S3 ⟨e1, ⟨x3, x4, x5, e2⟩, ⟨l, hll, hR, hLe, hol⟩, hon, g3, k3, hx3⟩
      rw [List.nil_append] at hll
      have hs2 : (l.map Rn.c).Sublist cs' := by
        have e9 : (l.map fun r => D.str r.c) = (l.map Rn.c).map D.str := by rw [List.map_map]; rfl
        rw [e9] at hll
        have := hll.map strG
        rw [List.map_map, List.map_map] at this
        simpa [Function.comp_def, strG] using this
      refine ⟨e1, ⟨x3, x4, x5, e2⟩, l, ?_, hR, hLe, hs2.nodup (hp.nodup_iff.mpr hnd), fun d hd => hp.mem_iff.mp (hs2.subset (List.mem_map_of_mem hd)), hol, g3, k3⟩
      have := hs2.length_le
      rw [List.length_map, hp.length_eq] at this
      omega
  rintro r S1 ⟨⟨x3, x4, x5, rfl⟩, l, hll, hR, hLe, hN, hsub, hol, g, k⟩
  refine wp_ret1 ?_
  simp only [wp_mCall, wp_mCons, wp_mNil, wp_mVs, wp_mV0]
  rw [wp_tupR hol]
  exact wp_ret.mpr (fin l S1 hll hR hLe hN hsub g k)
/-! ### questions drawn -/
theorem cut_hi {α : Type} (l : List α) (n : Nat) : Mn.cutD l none (some (n : Int)) = l.take n := by
  unfold Mn.cutD
  rw [HT.sIx_none, HT.sIx_nat, List.drop_zero, Nat.sub_zero]
  by_cases h : n ≤ l.length
  · rw [Nat.min_eq_left h]
  · rw [Nat.min_eq_right (by omega), List.take_of_length_le (by omega), List.take_of_length_le (by omega)]
theorem cut_lo {α : Type} (l : List α) (n : Nat) : Mn.cutD l (some (n : Int)) none = l.drop n := by
  unfold Mn.cutD
  rw [HT.sIx_none, HT.sIx_nat]
  by_cases h : n ≤ l.length
  · rw [Nat.min_eq_left h, List.take_of_length_le (by rw [List.length_drop]; omega)]
  · rw [Nat.min_eq_right (by omega), List.drop_eq_nil_of_le (by omega), List.drop_eq_nil_of_le (by omega), List.take_nil]
theorem sm_has : Sm "has" := ⟨by decide +kernel, by decide +kernel⟩
theorem sm_not : Sm "not" := ⟨by decide +kernel, by decide +kernel⟩
theorem sm_names : ∀ x ∈ (["a", "b", "c", "d", "x1", "y"] : List Str), Sm x := fun x hx => ⟨(by decide +kernel : ∀ x ∈ (["a", "b", "c", "d", "x1", "y"] : List Str), PyData.strOk x = true) x hx, (by decide +kernel : ∀ x ∈ (["a", "b", "c", "d", "x1", "y"] : List Str), x.cps.size ≤ 10) x hx⟩
theorem sm_tabs : ∀ x ∈ (["r", "s", "t", "u", "v", "w", "p", "q7"] : List Str), Sm x := fun x hx => ⟨(by decide +kernel : ∀ x ∈ (["r", "s", "t", "u", "v", "w", "p", "q7"] : List Str), PyData.strOk x = true) x hx, (by decide +kernel : ∀ x ∈ (["r", "s", "t", "u", "v", "w", "p", "q7"] : List Str), x.cps.size ≤ 10) x hx⟩
theorem some_strs {l : List Str} (hb : Bag S b) (h0 : 0 < l.length) (h1 : l.length < 1000) (k : ∀ x S', x ∈ l → Bag S' b → Kp b S S' → Q (.str x) S') :
    Wp (if [D.ref b, D.lst (l.map .str)].length = P_law_some.length then d_law_some [.ref b, .lst (l.map .str)] else fail) S Q := some_fn hb (.inl rfl) (by rw [List.length_map]; exact h0) (by rw [List.length_map]; exact h1) fun d S' hd g kp => by
  obtain ⟨x, hx, rfl⟩ := List.mem_map.mp hd
  exact k x S' hx g kp
theorem finQ {kn ka kc : Nat} {rho : Mn.Env} {nm : List Str} {as : List Atom} {na : Nat} {QS : Fl × Mn.Env → Sto → Prop} (hb : Bag S b) (hlt : b < S.nx) (hl : nm.length ≤ 6) (hl1 : 1 ≤ nm.length) (hn : ∀ x ∈ nm, Sm x) (hnd : nm.Nodup) (ho : S.ob na = some (.lst (as.map atomD))) (hna : na ≠ b ∧ na < S.nx) (hal : as.length ≤ 9) (hA : ∀ x ∈ as, OkA nm x)
    (e0 : ∀ S Q, Wp (mV 0 rho) S Q ↔ Q (.ref b) S) (en : ∀ S Q, Wp (mV kn rho) S Q ↔ Q (.lst (nm.map .str)) S) (e0' : ∀ d S Q, Wp (mV 0 (rho.set kc (some d))) S Q ↔ Q (.ref b) S) (ea' : ∀ d S Q, Wp (mV ka (rho.set kc (some d))) S Q ↔ Q (.ref na) S) (ec' : ∀ d S Q, Wp (mV kc (rho.set kc (some d))) S Q ↔ Q d S)
    (fin : ∀ q r S', OkQ q → q.cols.Perm nm → q.atoms.Perm as → Bag S' b → Kp b S S' → QS (.rt (qD q), r) S') :
    Wp (mSeq (mSet kc (mCall tupleM (mCons (mFn P_law_mixed.length d_law_mixed (mCons (mV 0) (mCons (mV kn) mNil))) mNil))) (mSeq (mRet (mTup (mCons (mV kc) (mCons (mCall tupleM (mCons (mFn P_law_mixed.length d_law_mixed (mCons (mV 0) (mCons (mV ka) mNil))) mNil)) (mCons (mFn P_law_ranges.length d_law_ranges (mCons (mV 0) (mCons (mV kc) mNil))) mNil))))) mNx) rho) S QS := by
  rw [wp_mSeq, wp_mSet, wp_mCall, wp_mCons, wp_mFn]
  simp only [wp_mCons, wp_mNil, e0, en]
  refine mixed_strs hb hlt rfl (by omega) fun cs n1 S1 hp ho1 hn1 hn1' g1 k1 => ?_
  rw [wp_tupR ho1]
  refine wp_ret1 ?_
  rw [wp_mTup, wp_mCons]
  simp only [ec']
  rw [wp_mCons, wp_mCall, wp_mCons, wp_mFn]
  simp only [wp_mCons, wp_mNil, e0', ea']
  have hoa : S1.ob na = some (.lst (as.map atomD)) := (k1.2 na hna.1 hna.2).trans ho
  have lt1 : b < S1.nx := Nat.lt_of_lt_of_le hlt k1.1
  refine mixed_spec (src := ⟨as.map atomD, [(na, as.map atomD)]⟩) g1 lt1 (by unfold srcOf; simp only [hoa]) (srcOk_one.mpr hoa) (fun p hp => by rw [List.mem_singleton.mp hp]; exact ⟨hna.1, Nat.lt_of_lt_of_le hna.2 k1.1⟩) (by rw [List.length_map]; omega) fun es n2 S2 hp2 ho2 _ _ g2 k2 => ?_
  obtain ⟨as', rfl, hpa⟩ := atoms_perm hp2
  rw [wp_tupR ho2, wp_mFn]
  simp only [wp_mCons, wp_mNil, e0', ec']
  have lt2 : b < S2.nx := Nat.lt_of_lt_of_le lt1 k2.1
  have hcnd : cs.Nodup := hp.nodup_iff.mpr hnd
  refine ranges_spec g2 lt2 (by rw [hp.length_eq]; exact hl) (fun c hc => hn c (hp.mem_iff.mp hc)) hcnd fun rs S3 h1 h2 h3 h4 h5 g3 k3 => ?_
  rw [wp_mkTup (by simp)]
  exact fin ⟨cs, as', rs⟩ _ S3 ⟨by show cs.length ≤ 6; rw [hp.length_eq]; exact hl, by show 1 ≤ cs.length; rw [hp.length_eq]; exact hl1, fun x hx => hn x (hp.mem_iff.mp hx), hcnd, by show as'.length ≤ 9; rw [hpa.length_eq]; exact hal, fun x hx => ⟨(hA x (hpa.mem_iff.mp hx)).1, fun y hy => hp.mem_iff.mpr ((hA x (hpa.mem_iff.mp hx)).2 y hy)⟩, h1, h2, h3, h4, h5⟩ hp hpa g3 ((k1.trans k2).trans k3)
/-- mixed names, some of them -/
theorem mixed_cut (low : Nat) {kt : EM D} {rho : Mn.Env} {th : EM D} {l : List Str} {QD : D → Sto → Prop} (hb : Bag S b) (hlt : b < S.nx) (hl : l.length ≤ 100) (e0 : ∀ S Q, Wp (mV 0 rho) S Q ↔ Q (.ref b) S) (et : ∀ S Q, Wp (th rho) S Q ↔ Q (.lst (l.map .str)) S)
    (ek : ∀ (S1 : Sto) (Q : D → Sto → Prop), Bag S1 b → (∀ (v : Nat) S2, low ≤ v → Bag S2 b → Kp b S1 S2 → Q (.int (v : Nat)) S2) → Wp (kt rho) S1 Q) (fin : ∀ (l' : List Str) S', (l'.length ≤ l.length ∧ min low l.length ≤ l'.length) → (∀ x ∈ l', x ∈ l) → (l.Nodup → l'.Nodup) → Bag S' b → Kp b S S' → QD (.lst (l'.map .str)) S') :
    Wp (mSl (mFn P_law_mixed.length d_law_mixed (mCons (mV 0) (mCons th mNil))) (fun _ => Mn.ret none) (mPart kt) rho) S QD := by
  rw [wp_mSl, wp_mFn, wp_mCons, e0, wp_mCons, et, wp_mNil]
  refine mixed_strs hb hlt rfl hl fun cs n1 S1 hp ho1 hn1 hn1' g1 k1 => ?_
  rw [wp_ret, wp_mPart]
  refine ek S1 _ g1 fun v S2 hlow g2 k2 => ?_
  have hnb : n1 ≠ b := fun e => by rw [e] at hn1; exact absurd hlt (Nat.not_lt_of_le hn1)
  have ho2 : S2.ob n1 = some (.lst (cs.map .str)) := (k2.2 n1 hnb hn1').trans ho1
  rw [wp_asI]
  refine Wp.to (show slM (.ref n1) none (some (v : Int)) S2 = some (.lst ((cs.take v).map .str), S2) by unfold slM; simp only [ho2]; rw [cut_map, cut_hi]) ?_
  exact fin (cs.take v) S2 (by rw [List.length_take]; have := hp.length_eq; omega) (fun x hx => hp.mem_iff.mp (List.mem_of_mem_take hx)) (fun h => (List.take_sublist _ _).nodup (hp.nodup_iff.mpr h)) g2 (k1.trans k2)
theorem ext_wp {n : Nat} {ds es : List D} (h : S.ob n = some (.lst ds)) (hl : ds.length + es.length ≤ 1000) : Wp (extM (.ref n) [.lst es]) S Q ↔ Q .non (S.set n (.lst (ds ++ es))) := wp_some (by
  unfold extM itemsL
  simp only [h]
  exact if_pos (limP (by omega)))
theorem ni_strs {n : Nat} {c : Str} {l : List Str} (h : S.ob n = some (.lst (l.map .str))) (hc : Sm c) (hl : ∀ x ∈ l, Sm x) : Wp (niM (.str c) (.ref n)) S Q ↔ Q (.bl (!decide (c ∈ l))) S := by
  refine wp_some ?_
  have h1 : pds S (.str c) = some (.str c) := by show pdT (.str c) = _; rw [pdT, if_pos hc.1]
  have h2 : pds S (.ref n) = some (.list (l.map PyData.str)) := by unfold pds; simp only [h]; rw [pdL_strs hl]; rfl
  unfold niM inL
  simp only [h1, h2]
  rw [if_pos (show (PyData.str c).depth ≤ 100 by rw [PyData.depth]; omega), any_str]; rfl
theorem depth_strs : ∀ l : List Str, PyData.depthAll (l.map PyData.str) = 0
  | [] => rfl
  | x :: l => by rw [List.map_cons, PyData.depthAll, depth_strs l]; rfl
theorem crossq_spec (hb : Bag S b) (hlt : b < S.nx) (fin : ∀ q S', OkQ q → Bag S' b → Kp b S S' → Q (qD q) S') :
    Wp (if [D.ref b].length = P_law_crossing_question.length then d_law_crossing_question [.ref b] else fail) S Q := by
  rw [if_pos (show [D.ref b].length = P_law_crossing_question.length from rfl)]
  unfold d_law_crossing_question
  rw [wp_def]
  rw [show startR N_law_crossing_question.length [D.ref b] = [some (.ref b), none, none, none, none, none, none, none, none, none, none] from rfl]
  unfold b_law_crossing_question
  have ml : ∀ (l : List D) (S : Sto) (Q : D → Sto → Prop), l.length ≤ 1000000 → (Wp (mkLst l) S Q ↔ Q (.lst l) S) := fun l S Q h => wp_mkLst h
  refine wp_seq (R := fun r S1 => ∃ nm : List Str, r = [some (.ref b), some (.lst (nm.map .str)), none, none, none, none, none, none, none, none, none] ∧ (nm.length ≤ 5 ∧ 2 ≤ nm.length) ∧ (∀ x ∈ nm, Sm x) ∧ nm.Nodup ∧ Bag S1 b ∧ Kp b S S1) ?_ ?_
  · rw [wp_mSet]
    refine mixed_cut 2 (l := ["a", "b", "c", "d", "x1"]) hb hlt (by decide) (fun S Q => by simp only [wp_mV0]) (fun S Q => by
      simp only [wp_mLst, wp_mCons, wp_mNil, wp_mC]
      exact ml _ _ _ (by simp)) (fun S1 Q g k => ?_) fun l' S1 hl hm hnd g k => ⟨rfl, l', rfl, hl, fun x hx => sm_names x (by
        have := hm x hx
        simp only [List.mem_cons, List.not_mem_nil, or_false] at this ⊢
        rcases this with h | h | h | h | h <;> simp [h]), hnd (by decide +kernel), g, k⟩
    simp only [wp_mBin, wp_mC, wp_mFn, wp_mCons, wp_mNil, wp_mV0]
    refine take_fn g (by decide) (by decide) fun v S2 a c g2 k2 => ?_
    obtain ⟨w, rfl⟩ := Int.eq_ofNat_of_zero_le a
    rw [wp_addI, show (2 : Int) + (w : Nat) = ((2 + w : Nat) : Int) by omega]
    exact k _ S2 (by omega) g2 k2
  rintro r S1 ⟨nm, rfl, ⟨hnl, hnl2⟩, hns, hnd, g1, k1⟩
  have lt1 : b < S1.nx := Nat.lt_of_lt_of_le hlt k1.1
  generalize htb : (["r", "s", "t", "u", "v", "w", "p", "q7"] : List Str) = tb at *
  have htl : tb.length = 8 := by rw [← htb]; rfl
  have hts : ∀ x ∈ tb, Sm x := by rw [← htb]; exact sm_tabs
  -- tables, atoms
  refine wp_seq (R := fun r S2 => r = [some (.ref b), some (.lst (nm.map .str)), some (.lst (tb.map .str)), some (.ref S1.nx), none, none, none, none, none, none, none] ∧ S2 = S1.new (.lst [])) ?_ ?_
  · simp only [wp_mPar, wp_mCons, wp_mNil, wp_mLst, wp_mC, wp_mNew]
    rw [ml _ _ _ (by simp)]
    refine Wp.to (show mkNew [] S1 = some (.ref S1.nx, S1.new (.lst [])) by unfold mkNew; rw [if_pos (limP (by simp))]) ?_
    rw [wp_parF, ← htb]
    exact ⟨rfl, rfl, rfl⟩
  rintro r S2 ⟨rfl, rfl⟩
  have nb : S1.nx ≠ b := Nat.ne_of_gt lt1
  -- the atoms
  refine wp_seq (R := fun r S3 => (∃ x4 x5, r = [some (.ref b), some (.lst (nm.map .str)), some (.lst (tb.map .str)), some (.ref S1.nx), x4, x5, none, none, none, none, none]) ∧ (∃ as : List Atom, as.length ≤ 4 ∧ (∀ x ∈ as, OkA nm x) ∧ S3.ob S1.nx = some (.lst (as.map atomD))) ∧ Bag S3 b ∧ Kp b S1 S3 ∧ S1.nx < S3.nx) ?_ ?_
  · rw [wp_mFor, wp_mIR]
    simp only [wp_mCons, wp_mNil, wp_mBin, wp_mC, wp_mFn, wp_mV0]
    refine take_fn (g1.new lt1) (by decide) (by decide) fun v S3 a c g3 k3 => ?_
    obtain ⟨w, rfl⟩ := Int.eq_ofNat_of_zero_le a
    rw [wp_addI, show (1 : Int) + (w : Nat) = ((1 + w : Nat) : Int) by omega, rng_src (by omega) (by omega), Int.toNat_natCast]
    refine Wp.mono (loop_done (src := ⟨rngD 0 (1 + w), []⟩) (ds := rngD 0 (1 + w)) (pre := []) (g := gV 4) (I := fun done r S3 => (∃ x4 x5, r = [some (.ref b), some (.lst (nm.map .str)), some (.lst (tb.map .str)), some (.ref S1.nx), x4, x5, none, none, none, none, none]) ∧ (∃ as : List Atom, as.length = done.length ∧ (∀ x ∈ as, OkA nm x) ∧ S3.ob S1.nx = some (.lst (as.map atomD))) ∧ Bag S3 b ∧ Kp b S1 S3 ∧ S1.nx < S3.nx) (fun _ _ _ _ => srcOk_nil) ⟨⟨_, _, rfl⟩, ⟨[], rfl, (fun x h => nomatch h), (k3.2 S1.nx nb (Nat.lt_succ_self _)).trans (by rw [Sto.new_ob, if_pos rfl]; rfl)⟩, g3, (Kp.refl.new).trans k3, Nat.lt_of_lt_of_le (Nat.lt_succ_self _) k3.1⟩ ?_) ?_
    · rintro done d rest e r S4 ⟨⟨x4, x5, rfl⟩, ⟨as, hal, hA, hoa⟩, g4, k4, hx4⟩
      obtain ⟨rfl, hk⟩ := rng_split e
      refine ⟨_, rfl, ?_⟩
      refine wp_seq (R := fun r S5 => (∃ cs : List Str, r = [some (.ref b), some (.lst (nm.map .str)), some (.lst (tb.map .str)), some (.ref S1.nx), some (.int (done.length : Nat)), some (.lst (cs.map .str)), none, none, none, none, none] ∧ cs.length ≤ 5 ∧ ∀ x ∈ cs, x ∈ nm) ∧ Bag S5 b ∧ Kp b S4 S5) ?_ ?_
      · rw [wp_mSet]
        refine mixed_cut 1 (l := nm) g4 (Nat.lt_of_lt_of_le lt1 k4.1) (by omega) (fun S Q => by simp only [List.set_cons_succ, List.set_cons_zero, wp_mV0]) (fun S Q => by simp only [List.set_cons_succ, List.set_cons_zero, wp_mVs, wp_mV0]) (fun S1 Q g k => ?_) fun l' S1 hl hm _ g k => ⟨rfl, ⟨l', rfl, by omega, fun x hx => hm x hx⟩, g, k⟩
        simp only [List.set_cons_succ, List.set_cons_zero, wp_mFn, wp_mCons, wp_mNil, wp_mV0, wp_mLst, wp_mC]
        rw [ml _ _ _ (by simp)]
        refine some_fn g (.inl rfl) (by simp) (by simp) fun d S2 hd g2 k2 => ?_
        simp only [List.mem_cons, List.not_mem_nil, or_false] at hd
        rcases hd with rfl | rfl | rfl | rfl
        · exact k 2 S2 (by decide) g2 k2
        · exact k 1 S2 (by decide) g2 k2
        · exact k 2 S2 (by decide) g2 k2
        · exact k 3 S2 (by decide) g2 k2
      rintro r S5 ⟨⟨cs, rfl, hcl, hcs⟩, g5, k5⟩
      have hoa5 : S5.ob S1.nx = some (.lst (as.map atomD)) := (k5.2 S1.nx nb hx4).trans hoa
      rw [wp_mSeq, wp_mDrop, wp_mMet]
      simp only [wp_mVs, wp_mV0]
      refine (wp_ref (f := appM) hoa5).mpr ?_
      have mh : ∀ (S : Sto) (Q : D → Sto → Prop), Wp (mkLst [D.str "has", D.str "has", D.str "not"]) S Q ↔ Q (.lst ((["has", "has", "not"] : List Str).map .str)) S := fun S Q => wp_mkLst (by simp)
      simp only [wp_mCons, wp_mNil, wp_mTup, wp_mFn, wp_mVs, wp_mV0, wp_mLst, wp_mC, mh]
      refine some_strs g5 (by decide) (by decide) fun wd S6 hw g6 k6 => ?_
      have hk8 : done.length < tb.length := by omega
      have ixt : ∀ (S : Sto) (Q : D → Sto → Prop), Wp (ixM (.lst (tb.map .str)) (.int (done.length : Nat))) S Q ↔ Q (.str tb[done.length]) S := fun S Q => wp_ixL (by
        unfold atI ixN
        rw [if_pos (by omega), if_pos (by rw [List.length_map]; omega)]
        show (tb.map D.str)[((done.length : Nat) : Int).toNat]? = _
        rw [Int.toNat_natCast, List.getElem?_map, List.getElem?_eq_getElem hk8]
        rfl)
      simp only [wp_mBin, wp_mVs, wp_mV0, ixt, wp_mCall, wp_mCons, wp_mNil, wp_tupL]
      have hoa6 : S6.ob S1.nx = some (.lst (as.map atomD)) := (k6.2 S1.nx nb (Nat.lt_of_lt_of_le hx4 k5.1)).trans hoa5
      rw [wp_mkTup (by simp), app_wp hoa6 (by rw [List.length_map]; omega)]
      simp only [wp_mNx]
      refine ⟨trivial, ⟨_, _, rfl⟩, ⟨as ++ [⟨wd, tb[done.length], cs⟩], by simp [hal], fun x hx => ?_, by rw [ob_set, List.map_append]; rfl⟩, Bag.kp (S' := S6) g6 nb, ((k4.trans k5).trans k6).setN (Nat.le_refl _), Nat.lt_of_lt_of_le hx4 (k5.trans k6).1⟩
      rcases List.mem_append.mp hx with hx | hx
      · exact hA x hx
      · rw [List.mem_singleton.mp hx]
        refine ⟨⟨?_, hts _ (List.getElem_mem _), by show cs.length ≤ 6; omega, fun y hy => hns y (hcs y hy)⟩, hcs⟩
        simp only [List.mem_cons, List.not_mem_nil, or_false] at hw
        rcases hw with rfl | rfl | rfl
        · exact sm_has
        · exact sm_has
        · exact sm_not
    · rintro ⟨fl, r⟩ S4 ⟨e1, e2, ⟨as, hal, hA, hoa⟩, g4, k4, hx4⟩
      rw [List.nil_append, rngl] at hal
      exact ⟨e1, e2, ⟨as, by omega, hA, hoa⟩, g4, k4, hx4⟩
  rintro r S3 ⟨⟨x4, x5, rfl⟩, ⟨as, hal, hA, hoa⟩, g3, k3, hx3⟩
  -- met
  refine wp_seq (R := fun r S4 => r = [some (.ref b), some (.lst (nm.map .str)), some (.lst (tb.map .str)), some (.ref S1.nx), x4, x5, some (.ref S3.nx), none, none, none, none] ∧ S4 = S3.new (.lst [])) ?_ ?_
  · simp only [wp_mSet, wp_mNew, wp_mNil]
    exact Wp.to (show mkNew [] S3 = some (.ref S3.nx, S3.new (.lst [])) by unfold mkNew; rw [if_pos (limP (by simp))]) ⟨trivial, rfl, rfl⟩
  rintro r S4 ⟨rfl, rfl⟩
  have lt3 : b < S3.nx := Nat.lt_of_lt_of_le lt1 k3.1
  have hoa4 : (S3.new (.lst [])).ob S1.nx = some (.lst (as.map atomD)) := by rw [Sto.new_ob, if_neg (Nat.ne_of_lt hx3)]; exact hoa
  have hmn : S3.nx ≠ S1.nx := Nat.ne_of_gt hx3
  refine wp_seq (R := fun r S5 => (∃ x5 x7 x8, r = [some (.ref b), some (.lst (nm.map .str)), some (.lst (tb.map .str)), some (.ref S1.nx), x4, x5, some (.ref S3.nx), x7, x8, none, none]) ∧ (∃ met : List Str, (∀ x ∈ met, Sm x) ∧ S5.ob S3.nx = some (.lst (met.map .str))) ∧ S5.ob S1.nx = some (.lst (as.map atomD)) ∧ Bag S5 b ∧ Kp b S3 S5) ?_ ?_
  · rw [wp_mFor, wp_mISeq]
    simp only [wp_mVs, wp_mV0]
    have src : ∀ (Q : Src → Sto → Prop), Wp (fun S => (srcOf (.ref S1.nx) S).map fun s => (s, S)) (S3.new (.lst [])) Q ↔ Q ⟨as.map atomD, [(S1.nx, as.map atomD)]⟩ (S3.new (.lst [])) := fun Q => wp_some (by unfold srcOf; simp only [hoa4]; rfl)
    rw [src]
    refine Wp.mono (loop_done (src := ⟨as.map atomD, [(S1.nx, as.map atomD)]⟩) (ds := as.map atomD) (pre := []) (g := gT 3 (gsCons (gV 7) (gsCons (gV 8) (gsCons (gV 5) gsNil)))) (I := fun done r S5 => (∃ x5 x7 x8, r = [some (.ref b), some (.lst (nm.map .str)), some (.lst (tb.map .str)), some (.ref S1.nx), x4, x5, some (.ref S3.nx), x7, x8, none, none]) ∧ (∃ met : List Str, met.length ≤ 6 * done.length ∧ (∀ x ∈ met, Sm x) ∧ S5.ob S3.nx = some (.lst (met.map .str))) ∧ S5.ob S1.nx = some (.lst (as.map atomD)) ∧ Bag S5 b ∧ Kp b S3 S5) (fun _ _ _ h => srcOk_one.mpr h.2.2.1) ⟨⟨_, _, _, rfl⟩, ⟨[], by simp, (fun x h => nomatch h), by rw [Sto.new_ob, if_pos rfl]; rfl⟩, hoa4, g3.new lt3, Kp.refl.new⟩ ?_) ?_
    · rintro done d rest e r S5 ⟨⟨x5, x7, x8, rfl⟩, ⟨met, hml, hms, hom⟩, hoa5, g5, k5⟩
      have hdl : done.length + 1 ≤ 4 := by
        have h9 := congrArg List.length e
        rw [List.nil_append, List.length_append, List.length_cons, List.length_map] at h9
        omega
      obtain ⟨x, hx, rfl⟩ : ∃ x ∈ as, d = atomD x := by
        have : d ∈ as.map atomD := by
          have e' : as.map atomD = done ++ d :: rest := e
          rw [e']; simp
        obtain ⟨x, hx, rfl⟩ := List.mem_map.mp this
        exact ⟨x, hx, rfl⟩
      have hxA := hA x hx
      refine ⟨_, rfl, ?_⟩
      rw [wp_mSeq, wp_mDrop, wp_mMet]
      simp only [List.set_cons_succ, List.set_cons_zero, wp_mVs, wp_mV0]
      refine (wp_ref (f := extM) hom).mpr ?_
      have li : ∀ (S : Sto) (Q : D → Sto → Prop), Wp (listM [.tup (x.cs.map .str)]) S Q ↔ Q (.lst (x.cs.map .str)) S := fun S Q => wp_some rfl
      have go : ∀ es : List Str, es.length ≤ 6 → (∀ y ∈ es, Sm y) → Wp (extM (.ref S3.nx) [.lst (es.map .str)]) S5 fun _ S6 => (Fl.nx = Fl.nx) ∧ (∃ x5 x7 x8 : Option D, [some (.ref b), some (.lst (nm.map .str)), some (.lst (tb.map .str)), some (.ref S1.nx), x4, some (.tup (x.cs.map .str)), some (.ref S3.nx), some (.str x.w), some (.str x.t), none, none] = [some (.ref b), some (.lst (nm.map .str)), some (.lst (tb.map .str)), some (.ref S1.nx), x4, x5, some (.ref S3.nx), x7, x8, none, none]) ∧ (∃ met : List Str, met.length ≤ 6 * (done ++ [atomD x]).length ∧ (∀ x ∈ met, Sm x) ∧ S6.ob S3.nx = some (.lst (met.map .str))) ∧ S6.ob S1.nx = some (.lst (as.map atomD)) ∧ Bag S6 b ∧ Kp b S3 S6 := fun es h1 h2 => by
        rw [ext_wp hom (by rw [List.length_map, List.length_map]; omega)]
        refine ⟨rfl, ⟨_, _, _, rfl⟩, ⟨met ++ es, by simp; omega, fun y hy => (List.mem_append.mp hy).elim (hms y) (h2 y), by rw [ob_set, List.map_append]⟩, by rw [Sto.set_ob, if_neg (Ne.symm hmn)]; exact hoa5, Bag.kp (S' := S5) g5 (Nat.ne_of_gt lt3), k5.setN (Nat.le_refl _)⟩
      simp only [wp_mCons, wp_mNil, wp_mIf, wp_mB, wp_mBin, wp_mVs, wp_mV0, wp_mC, wp_eqS, wp_asB]
      cases hwd : (x.w == ("has" : Str)) with
      | true =>
        simp only [if_true, wp_mCall, wp_mCons, wp_mNil, wp_mVs, wp_mV0, li, wp_mNx]
        exact (go x.cs hxA.1.2.2.1 hxA.1.2.2.2).mono fun _ S6 h => ⟨trivial, h.2⟩
      | false =>
        simp only [Bool.false_eq_true, if_false, wp_mLst, wp_mNil, wp_mNx]
        rw [ml _ _ _ (by simp)]
        exact (go [] (by simp) (fun y h => nomatch h)).mono fun _ S6 h => ⟨trivial, h.2⟩
    · rintro ⟨fl, r⟩ S5 ⟨e1, e2, ⟨met, hml, hms, hom⟩, hoa5, g5, k5⟩
      exact ⟨e1, e2, ⟨met, hms, hom⟩, hoa5, g5, k5⟩
  rintro r S5 ⟨⟨x5', x7, x8, rfl⟩, ⟨met, hms, hom⟩, hoa5, g5, k5⟩
  -- left
  refine wp_seq (R := fun r S6 => (∃ left : List Str, r = [some (.ref b), some (.lst (nm.map .str)), some (.lst (tb.map .str)), some (.ref S1.nx), x4, x5', some (.ref S3.nx), x7, x8, some (.lst (left.map .str)), none] ∧ left.length ≤ 5 ∧ ∀ x ∈ left, x ∈ nm) ∧ S6 = S5) ?_ ?_
  · have src : ∀ (S : Sto) (Q : Src → Sto → Prop), Wp (fun S => (srcOf (.lst (nm.map .str)) S).map fun s => (s, S)) S Q ↔ Q ⟨nm.map .str, []⟩ S := fun S Q => wp_some rfl
    rw [wp_mSet, wp_mLc, wp_mISeq]
    simp only [wp_mVs, wp_mV0, src]
    have := lc_any (S := S5) (g := gV 10) (rho := wipeR [some (.ref b), some (.lst (nm.map .str)), some (.lst (tb.map .str)), some (.ref S1.nx), x4, x5', some (.ref S3.nx), x7, x8, none, none] [10]) (mt := mB (mBin niM (mV 10) (mV 6))) (me := mV 10) (src := ⟨nm.map .str, []⟩) (t := fun c : Str => !decide (c ∈ met)) (f := D.str) (c := D.str) srcOk_nil (l := nm) fun c hc => ⟨_, rfl, tr_of (by
        simp only [wp_mB, wp_mBin, wipeR, List.set_cons_succ, List.set_cons_zero, wp_mVs, wp_mV0]
        rw [ni_strs hom (hns c hc) hms, wp_asB]
        exact ⟨rfl, rfl⟩), fun _ => eq_of (by
        simp only [wipeR, List.set_cons_succ, List.set_cons_zero, wp_mVs, wp_mV0]
        exact ⟨trivial, trivial⟩)⟩
    have hfl : (nm.filter fun c => !decide (c ∈ met)).length ≤ 5 := Nat.le_trans (List.length_filter_le _ _) hnl
    rw [wp_some this, wp_lim (by rw [List.length_map]; omega)]
    exact ⟨trivial, ⟨_, rfl, hfl, fun x hx => (List.mem_filter.mp hx).1⟩, rfl⟩
  rintro r S6 ⟨⟨left, rfl, hll, hls⟩, rfl⟩
  have hx6 : S1.nx < S6.nx := Nat.lt_of_lt_of_le hx3 k5.1
  refine wp_seq (R := fun r S7 => r = [some (.ref b), some (.lst (nm.map .str)), some (.lst (tb.map .str)), some (.ref S1.nx), x4, x5', some (.ref S3.nx), x7, x8, some (.lst (left.map .str)), none] ∧ (∃ as : List Atom, as.length ≤ 5 ∧ (∀ x ∈ as, OkA nm x) ∧ S7.ob S1.nx = some (.lst (as.map atomD))) ∧ Bag S7 b ∧ Kp b S1 S7 ∧ S1.nx < S7.nx) ?_ ?_
  · have mk : ∀ (S : Sto) (Q : D → Sto → Prop), Wp (mkLst []) S Q ↔ Q (.lst []) S := fun S Q => wp_mkLst (by simp)
    rw [wp_mIfS, wp_mB, wp_mBin]
    simp only [wp_mVs, wp_mV0, wp_mLst, wp_mNil, mk]
    rw [wp_neNilL (pdL_strs fun x hx => hns x (hls x hx)) (by rw [depth_strs]; omega), wp_asB, List.isEmpty_map]
    cases left.isEmpty with
    | true =>
      simp only [Bool.not_true, Bool.false_eq_true, if_false, wp_mNx]
      exact ⟨trivial, trivial, ⟨as, by omega, hA, hoa5⟩, g5, k3.trans k5, hx6⟩
    | false =>
      simp only [Bool.not_false, if_true]
      rw [wp_mSeq, wp_mDrop, wp_mMet]
      simp only [wp_mVs, wp_mV0]
      refine (wp_ref (f := appM) hoa5).mpr ?_
      simp only [wp_mCons, wp_mNil, wp_mTup, wp_mC, wp_mCall, wp_mVs, wp_mV0, wp_tupL]
      rw [wp_mkTup (by simp), app_wp hoa5 (by rw [List.length_map]; omega)]
      simp only [wp_mNx]
      refine ⟨trivial, trivial, ⟨as ++ [⟨"has", "q7", left⟩], by simp; omega, fun x hx => ?_, by rw [ob_set, List.map_append]; rfl⟩, Bag.kp (S' := S6) g5 nb, (k3.trans k5).setN (Nat.le_refl _), hx6⟩
      rcases List.mem_append.mp hx with hx | hx
      · exact hA x hx
      · rw [List.mem_singleton.mp hx]
        exact ⟨⟨sm_has, sm_tabs _ (by simp), by show left.length ≤ 6; omega, fun y hy => hns y (hls y hy)⟩, hls⟩
  rintro r S7 ⟨rfl, ⟨as7, hal7, hA7, hoa7⟩, g7, k7, hx7⟩
  refine Wp.mono (finQ (kn := 1) (ka := 3) (kc := 5) (nm := nm) (as := as7) (na := S1.nx) (QS := fun p S' => ∃ q, p.1 = .rt (qD q) ∧ OkQ q ∧ Bag S' b ∧ Kp b S S') g7 (Nat.lt_of_lt_of_le lt1 k7.1) (by omega) (by omega) hns hnd hoa7 ⟨nb, hx7⟩ (by omega) hA7 (fun S Q => by simp only [wp_mV0]) (fun S Q => by simp only [wp_mVs, wp_mV0]) (fun d S Q => by simp only [List.set_cons_succ, List.set_cons_zero, wp_mVs, wp_mV0]) (fun d S Q => by simp only [List.set_cons_succ, List.set_cons_zero, wp_mVs, wp_mV0]) (fun d S Q => by simp only [List.set_cons_succ, List.set_cons_zero, wp_mVs, wp_mV0])
    fun q r S' h1 h2 h3 g k => ⟨q, rfl, h1, g, (k1.trans k7).trans k⟩) ?_
  rintro ⟨fl, r⟩ S8 ⟨q, e, h1, g, k⟩
  have e : fl = .rt (qD q) := e
  subst e
  exact wp_ret.mpr (fin q S8 h1 g k)
def NestA (P : List (Option Nat)) (nm : List Str) (x : Atom) : Prop := ∃ k, ∀ c, c ∈ x.cs ↔ ∃ i, Anc P i k ∧ nm[i]? = some c
def endD (p : Str × Nat) : D := .tup [.str p.1, .int (p.2 : Nat)]
theorem nested_spec (hb : Bag S b) (hlt : b < S.nx) (fin : ∀ q S', OkQ q → q.atoms.length ≤ 8 → (∃ P nm, nm.Nodup ∧ Fo P ∧ P.length = nm.length ∧ q.cols.Perm nm ∧ ∀ x ∈ q.atoms, NestA P nm x) → Bag S' b → Kp b S S' → Q (qD q) S') :
    Wp (if [D.ref b, D.int 5].length = P_law_nested_question.length then d_law_nested_question [.ref b, .int 5] else fail) S Q := by
  rw [if_pos (show [D.ref b, D.int 5].length = P_law_nested_question.length from rfl)]
  unfold d_law_nested_question
  rw [wp_def]
  rw [show startR N_law_nested_question.length [D.ref b, D.int 5] = [some (.ref b), some (.int 5), none, none, none, none, none, none, none, none, none, none] from rfl]
  unfold b_law_nested_question
  have ml : ∀ (l : List D) (S : Sto) (Q : D → Sto → Prop), l.length ≤ 1000000 → (Wp (mkLst l) S Q ↔ Q (.lst l) S) := fun l S Q h => wp_mkLst h
  refine wp_seq (R := fun r S1 => ∃ nm : List Str, r = [some (.ref b), some (.int 5), some (.lst (nm.map .str)), none, none, none, none, none, none, none, none, none] ∧ (nm.length ≤ 6 ∧ 1 ≤ nm.length) ∧ (∀ x ∈ nm, Sm x) ∧ nm.Nodup ∧ Bag S1 b ∧ Kp b S S1) ?_ ?_
  · rw [wp_mSet]
    refine mixed_cut 1 (l := ["a", "b", "c", "d", "x1", "y"]) hb hlt (by decide) (fun S Q => by simp only [wp_mV0]) (fun S Q => by
      simp only [wp_mLst, wp_mCons, wp_mNil, wp_mC]
      exact ml _ _ _ (by simp)) (fun S1 Q g k => ?_) fun l' S1 hl hm hnd g k => ⟨rfl, l', rfl, hl, fun x hx => sm_names x (hm x hx), hnd (by decide +kernel), g, k⟩
    simp only [wp_mBin, wp_mC, wp_mFn, wp_mCons, wp_mNil, wp_mVs, wp_mV0]
    refine take_fn g (by decide) (by decide) fun v S2 a c g2 k2 => ?_
    obtain ⟨w, rfl⟩ := Int.eq_ofNat_of_zero_le a
    rw [wp_addI, show (1 : Int) + (w : Nat) = ((1 + w : Nat) : Int) by omega]
    exact k _ S2 (by omega) g2 k2
  rintro r S1 ⟨nm, rfl, ⟨hnl, hnl1⟩, hns, hnd, g1, k1⟩
  have lt1 : b < S1.nx := Nat.lt_of_lt_of_le hlt k1.1
  -- the forest
  refine wp_seq (R := fun r S2 => ∃ (P : List (Option Nat)) (np : Nat), r = [some (.ref b), some (.int 5), some (.lst (nm.map .str)), some (.ref np), none, none, none, none, none, none, none, none] ∧ P.length = nm.length ∧ Fo P ∧ S2.ob np = some (.lst (P.map parD)) ∧ np ≠ b ∧ np < S2.nx ∧ Bag S2 b ∧ Kp b S1 S2) ?_ ?_
  · simp only [wp_mSet, wp_mFn, wp_mCons, wp_mNil, wp_mCall, wp_mVs, wp_mV0, wp_lenL, List.length_map]
    exact forest_spec g1 lt1 hnl fun P n S2 h1 h2 h3 h4 h5 g k => ⟨trivial, P, n, rfl, h1, h2, h3, fun e => by rw [e] at h4; exact absurd lt1 (Nat.not_lt_of_le h4), h5, g, k⟩
  rintro r S2 ⟨P, np, rfl, hPl, hF, hop, hpb, hpn, g2, k2⟩
  have lt2 : b < S2.nx := Nat.lt_of_lt_of_le lt1 k2.1
  -- the ends
  refine wp_seq (R := fun r S3 => ∃ x5, r = [some (.ref b), some (.int 5), some (.lst (nm.map .str)), some (.ref np), some (.ref S2.nx), x5, none, none, none, none, none, none] ∧ (∃ es : List (Str × Nat), es.length ≤ 6 ∧ (∀ x ∈ es, Sm x.1 ∧ x.2 < nm.length) ∧ S3.ob S2.nx = some (.lst (es.map endD))) ∧ Bag S3 b ∧ Kp b S2 S3 ∧ S2.nx < S3.nx) ?_ ?_
  · have rd : rngD 0 nm.length = (List.range nm.length).map fun k : Nat => D.int (k : Nat) := by unfold rngD; exact List.map_congr_left fun k _ => by simp
    have pp : ∃ ps, pdL (P.map parD) = some ps := by
      clear hop hF hPl
      induction P with
      | nil => exact ⟨_, rfl⟩
      | cons o P ih =>
        obtain ⟨ps, hp⟩ := ih
        cases o with
        | none => exact ⟨.none :: ps, by rw [List.map_cons, pdL, hp]; rfl⟩
        | some j => exact ⟨.int j :: ps, by rw [List.map_cons, pdL, hp]; rfl⟩
    obtain ⟨ps, hps⟩ := pp
    have ni : ∀ (k : Nat) (Q : D → Sto → Prop), Wp (niM (.int (k : Nat)) (.ref np)) S2 Q ↔ Q (.bl (!(ps.any fun z => PyData.eqv z (.int (k : Nat))))) S2 := fun k Q => by
      refine wp_some ?_
      have h1 : pds S2 (.int (k : Nat)) = some (.int (k : Nat)) := rfl
      have h2 : pds S2 (.ref np) = some (.list ps) := by unfold pds; simp only [hop]; rw [hps]; rfl
      unfold niM inL
      simp only [h1, h2]
      rw [if_pos (show (PyData.int (k : Nat)).depth ≤ 100 by rw [PyData.depth]; omega)]; rfl
    have mt : ∀ (a c : D) (S : Sto) (Q : D → Sto → Prop), Wp (mkTup [a, c]) S Q ↔ Q (.tup [a, c]) S := fun a c S Q => wp_mkTup (by simp)
    have wN : ∀ {i : EM Src} {own : List Nat} {g : GM} {t : EM Bool} {e : EM D} {rho : Mn.Env} {S : Sto} {Q : D → Sto → Prop}, Wp (mLcN i own g t e rho) S Q ↔ Wp (i rho) S fun src S1 => Wp (lcGo src g t e (wipeR rho own) src.ds) S1 fun r S2 => Wp (fun S => if r.length ≤ lim then some (D.ref S.nx, S.new (.lst r)) else none) S2 Q := by
      intro i own g t e rho S Q
      unfold mLcN
      simp only [wp_bnd]
    rw [wp_mSet, wN, wp_mIR]
    simp only [wp_mCons, wp_mNil, wp_mCall, wp_mVs, wp_mV0, wp_lenL, List.length_map]
    rw [rng_src (by omega) (by omega), Int.toNat_natCast, rd]
    have := lc_any (S := S2) (g := gV 5) (rho := wipeR [some (.ref b), some (.int 5), some (.lst (nm.map .str)), some (.ref np), none, none, none, none, none, none, none, none] [5]) (mt := mB (mBin niM (mV 5) (mV 3))) (me := mTup (mCons (mC (.str "has")) (mCons (mV 5) mNil))) (src := ⟨(List.range nm.length).map fun k : Nat => D.int (k : Nat), []⟩) (t := fun k : Nat => !(ps.any fun z => PyData.eqv z (.int (k : Nat)))) (f := fun k : Nat => endD ("has", k)) (c := fun k : Nat => D.int (k : Nat)) srcOk_nil (l := List.range nm.length) fun k hk => ⟨_, rfl, tr_of (by
        simp only [wp_mB, wp_mBin, wipeR, List.set_cons_succ, List.set_cons_zero, wp_mVs, wp_mV0, ni, wp_asB]
        exact ⟨trivial, trivial⟩), fun _ => eq_of (by
        simp only [wp_mTup, wp_mCons, wp_mNil, wp_mC, wipeR, List.set_cons_succ, List.set_cons_zero, wp_mVs, wp_mV0, mt]
        exact ⟨rfl, trivial⟩)⟩
    rw [wp_some this]
    have hfl : ((List.range nm.length).filter fun k : Nat => !(ps.any fun z => PyData.eqv z (.int (k : Nat)))).length ≤ 6 := Nat.le_trans (List.length_filter_le _ _) (by rw [List.length_range]; exact hnl)
    refine Wp.to (if_pos (limP (by rw [List.length_map]; omega))) ?_
    refine ⟨trivial, none, rfl, ⟨((List.range nm.length).filter fun k : Nat => !(ps.any fun z => PyData.eqv z (.int (k : Nat)))).map fun k => (("has" : Str), k), by rw [List.length_map]; exact hfl, fun x hx => ?_, by rw [Sto.new_ob, if_pos rfl, List.map_map]; rfl⟩, g2.new lt2, Kp.refl.new, Nat.lt_succ_self _⟩
    obtain ⟨k, hk, rfl⟩ := List.mem_map.mp hx
    exact ⟨sm_has, List.mem_range.mp (List.mem_filter.mp hk).1⟩
  rintro r S3 ⟨x5, rfl, ⟨es, hel, hes, hoe⟩, g3, k3, hx3⟩
  have neb : S2.nx ≠ b := Nat.ne_of_gt lt2
  have npe : np ≠ S2.nx := Nat.ne_of_lt hpn
  have hop3 : S3.ob np = some (.lst (P.map parD)) := (k3.2 np hpb hpn).trans hop
  -- more ends
  refine wp_seq (R := fun r S4 => (∃ x5 x6, r = [some (.ref b), some (.int 5), some (.lst (nm.map .str)), some (.ref np), some (.ref S2.nx), x5, x6, none, none, none, none, none]) ∧ (∃ es : List (Str × Nat), es.length ≤ 100 ∧ (∀ x ∈ es, Sm x.1 ∧ x.2 < nm.length) ∧ S4.ob S2.nx = some (.lst (es.map endD))) ∧ S4.ob np = some (.lst (P.map parD)) ∧ Bag S4 b ∧ Kp b S2 S4 ∧ S2.nx < S4.nx) ?_ ?_
  · rw [wp_mFor, wp_mIR]
    simp only [wp_mCons, wp_mNil, wp_mCall, wp_mVs, wp_mV0, wp_lenL, List.length_map]
    rw [rng_src (by omega) (by omega), Int.toNat_natCast]
    refine Wp.mono (loop_done (src := ⟨rngD 0 nm.length, []⟩) (ds := rngD 0 nm.length) (pre := []) (g := gV 5) (I := fun done r S4 => (∃ x5 x6, r = [some (.ref b), some (.int 5), some (.lst (nm.map .str)), some (.ref np), some (.ref S2.nx), x5, x6, none, none, none, none, none]) ∧ (∃ es : List (Str × Nat), es.length ≤ 6 + 2 * done.length ∧ (∀ x ∈ es, Sm x.1 ∧ x.2 < nm.length) ∧ S4.ob S2.nx = some (.lst (es.map endD))) ∧ S4.ob np = some (.lst (P.map parD)) ∧ Bag S4 b ∧ Kp b S2 S4 ∧ S2.nx < S4.nx) (fun _ _ _ _ => srcOk_nil) ⟨⟨_, _, rfl⟩, ⟨es, by omega, hes, hoe⟩, hop3, g3, k3, hx3⟩ ?_) ?_
    · rintro done d rest e r S4 ⟨⟨x5, x6, rfl⟩, ⟨es4, hel4, hes4, hoe4⟩, hop4, g4, k4, hx4⟩
      obtain ⟨rfl, hk⟩ := rng_split e
      refine ⟨_, rfl, ?_⟩
      rw [wp_mSeq, wp_mFor, wp_mIR]
      simp only [List.set_cons_succ, List.set_cons_zero, wp_mCons, wp_mNil, wp_mFn, wp_mLst, wp_mC, wp_mV0]
      rw [ml _ _ _ (by simp)]
      refine some_fn g4 (.inl rfl) (by simp) (by simp) fun d2 S5 hd2 g5 k5 => ?_
      obtain ⟨v, hv2, rfl⟩ : ∃ v : Nat, v ≤ 2 ∧ d2 = .int (v : Nat) := by
        simp only [List.mem_cons, List.not_mem_nil, or_false] at hd2
        rcases hd2 with rfl | rfl | rfl | rfl | rfl
        · exact ⟨0, by omega, rfl⟩
        · exact ⟨0, by omega, rfl⟩
        · exact ⟨1, by omega, rfl⟩
        · exact ⟨1, by omega, rfl⟩
        · exact ⟨2, by omega, rfl⟩
      rw [rng_src (by omega) (by omega), Int.toNat_natCast]
      have hoe5 : S5.ob S2.nx = some (.lst (es4.map endD)) := (k5.2 S2.nx neb hx4).trans hoe4
      have hop5 : S5.ob np = some (.lst (P.map parD)) := (k5.2 np hpb (Nat.lt_trans hpn hx4)).trans hop4
      refine Wp.mono (loop_done (src := ⟨rngD 0 v, []⟩) (ds := rngD 0 v) (pre := []) (g := gV 6) (I := fun done2 r S6 => (∃ x6, r = [some (.ref b), some (.int 5), some (.lst (nm.map .str)), some (.ref np), some (.ref S2.nx), some (.int (done.length : Nat)), x6, none, none, none, none, none]) ∧ (∃ es : List (Str × Nat), es.length ≤ 6 + 2 * done.length + done2.length ∧ (∀ x ∈ es, Sm x.1 ∧ x.2 < nm.length) ∧ S6.ob S2.nx = some (.lst (es.map endD))) ∧ S6.ob np = some (.lst (P.map parD)) ∧ Bag S6 b ∧ Kp b S2 S6 ∧ S2.nx < S6.nx) (fun _ _ _ _ => srcOk_nil) ⟨⟨_, rfl⟩, ⟨es4, by simp; omega, hes4, hoe5⟩, hop5, g5, k4.trans k5, Nat.lt_of_lt_of_le hx4 k5.1⟩ ?_) ?_
      · rintro done2 d3 rest2 e2 r S6 ⟨⟨x6', rfl⟩, ⟨es6, hel6, hes6, hoe6⟩, hop6, g6, k6, hx6⟩
        obtain ⟨rfl, hk2⟩ := rng_split e2
        refine ⟨_, rfl, ?_⟩
        rw [wp_mSeq, wp_mDrop, wp_mMet]
        simp only [List.set_cons_succ, List.set_cons_zero, wp_mVs, wp_mV0]
        refine (wp_ref (f := appM) hoe6).mpr ?_
        have mh : ∀ (S : Sto) (Q : D → Sto → Prop), Wp (mkLst [D.str "has", D.str "not", D.str "has"]) S Q ↔ Q (.lst ((["has", "not", "has"] : List Str).map .str)) S := fun S Q => wp_mkLst (by simp)
        simp only [wp_mCons, wp_mNil, wp_mTup, wp_mFn, wp_mVs, wp_mV0, wp_mLst, wp_mC, mh]
        refine some_strs g6 (by decide) (by decide) fun wd S7 hw g7 k7 => ?_
        have hoe7 : S7.ob S2.nx = some (.lst (es6.map endD)) := (k7.2 S2.nx neb hx6).trans hoe6
        have hop7 : S7.ob np = some (.lst (P.map parD)) := (k7.2 np hpb (Nat.lt_trans hpn hx6)).trans hop6
        rw [wp_mkTup (by simp), app_wp hoe7 (by rw [List.length_map]; omega)]
        simp only [wp_mNx]
        refine ⟨trivial, ⟨_, rfl⟩, ⟨es6 ++ [(wd, done.length)], by simp; omega, fun x hx => ?_, by rw [ob_set, List.map_append]; rfl⟩, by rw [Sto.set_ob, if_neg npe]; exact hop7, Bag.kp (S' := S7) g7 neb, (k6.trans k7).setN (Nat.le_refl _), Nat.lt_of_lt_of_le hx6 k7.1⟩
        rcases List.mem_append.mp hx with hx | hx
        · exact hes6 x hx
        · rw [List.mem_singleton.mp hx]
          refine ⟨?_, hk⟩
          simp only [List.mem_cons, List.not_mem_nil, or_false] at hw
          rcases hw with rfl | rfl | rfl
          · exact sm_has
          · exact sm_not
          · exact sm_has
      · rintro ⟨fl, r⟩ S6 ⟨e1, ⟨x6', e2⟩, ⟨es6, hel6, hes6, hoe6⟩, hop6, g6, k6, hx6⟩
        have e1 : fl = .nx := e1
        subst e1
        rw [List.nil_append, rngl] at hel6
        exact wp_mNx.mpr ⟨rfl, ⟨_, _, e2⟩, ⟨es6, by simp; omega, hes6, hoe6⟩, hop6, g6, k6, hx6⟩
    · rintro ⟨fl, r⟩ S4 ⟨e1, e2, ⟨es4, hel4, hes4, hoe4⟩, q⟩
      rw [List.nil_append, rngl] at hel4
      exact ⟨e1, e2, ⟨es4, by omega, hes4, hoe4⟩, q⟩
  rintro r S4 ⟨⟨x5', x6', rfl⟩, ⟨es4, hel4, hes4, hoe4⟩, hop4, g4, k4, hx4⟩
  have lt4 : b < S4.nx := Nat.lt_of_lt_of_le lt2 k4.1
  -- tables, atoms
  generalize htb : (["r", "s", "t", "u", "v", "w", "p", "q7"] : List Str) = tb at *
  have htl : tb.length = 8 := by rw [← htb]; rfl
  have hts : ∀ x ∈ tb, Sm x := by rw [← htb]; exact sm_tabs
  refine wp_seq (R := fun r S5 => ∃ (tb' : List Str) (nt na : Nat), r = [some (.ref b), some (.int 5), some (.lst (nm.map .str)), some (.ref np), some (.ref S2.nx), x5', x6', some (.ref nt), some (.ref na), none, none, none] ∧ tb'.Perm tb ∧ S5.ob nt = some (.lst (tb'.map .str)) ∧ S5.ob na = some (.lst []) ∧ S4.nx ≤ nt ∧ nt < na ∧ na < S5.nx ∧ Bag S5 b ∧ Kp b S4 S5) ?_ ?_
  · simp only [wp_mPar, wp_mCons, wp_mNil, wp_mFn, wp_mV0, wp_mLst, wp_mC, wp_mNew]
    rw [ml _ _ _ (by simp)]
    refine mixed_strs (l := tb) g4 lt4 (by rw [← htb]; rfl) (by omega) fun tb' nt S5 hp ho hn1 hn2 g5 k5 => ?_
    refine Wp.to (show mkNew [] S5 = some (.ref S5.nx, S5.new (.lst [])) by unfold mkNew; rw [if_pos (limP (by simp))]) ?_
    rw [wp_parF]
    exact ⟨rfl, tb', nt, S5.nx, rfl, hp, by rw [Sto.new_ob, if_neg (Nat.ne_of_lt hn2)]; exact ho, by rw [Sto.new_ob, if_pos rfl], hn1, hn2, Nat.lt_succ_self _, g5.new (Nat.lt_of_lt_of_le lt4 k5.1), k5.new⟩
  rintro r S5 ⟨tb', nt, na, rfl, htp, hot, hoa, hn1, hn2, hn3, g5, k5⟩
  have ht8 : tb'.length = 8 := by rw [htp.length_eq]; exact htl
  have hoe5 : S5.ob S2.nx = some (.lst (es4.map endD)) := (k5.2 S2.nx neb hx4).trans hoe4
  have hop5 : S5.ob np = some (.lst (P.map parD)) := (k5.2 np hpb (Nat.lt_trans hpn hx4)).trans hop4
  have n1 : np ≠ na := Nat.ne_of_lt (Nat.lt_trans hpn (Nat.lt_trans hx4 (Nat.lt_of_le_of_lt hn1 hn2)))
  have n2 : S2.nx ≠ na := Nat.ne_of_lt (Nat.lt_trans hx4 (Nat.lt_of_le_of_lt hn1 hn2))
  have n3 : nt ≠ na := Nat.ne_of_lt hn2
  have nab : na ≠ b := fun e => by rw [e] at hn2; exact absurd (Nat.lt_of_lt_of_le lt4 hn1) (Nat.lt_asymm hn2)
  have ntb : nt ≠ b := fun e => by rw [e] at hn1; exact absurd lt4 (Nat.not_lt_of_le hn1)
  -- the atoms
  refine wp_seq (R := fun r S6 => (∃ x5 x9 x10, r = [some (.ref b), some (.int 5), some (.lst (nm.map .str)), some (.ref np), some (.ref S2.nx), x5, x6', some (.ref nt), some (.ref na), x9, x10, none]) ∧ (∃ as : List Atom, as.length ≤ 8 ∧ (∀ x ∈ as, OkA nm x ∧ NestA P nm x) ∧ S6.ob na = some (.lst (as.map atomD))) ∧ Bag S6 b ∧ Kp b S4 S6 ∧ S5.nx ≤ S6.nx) ?_ ?_
  · have src : ∀ (Q : Src → Sto → Prop), Wp (zipM [.ref S2.nx, .ref nt]) S5 Q ↔ Q ⟨pairs2 (es4.map endD) (tb'.map .str), [(S2.nx, es4.map endD)] ++ [(nt, tb'.map .str)]⟩ S5 := fun Q => wp_some (by unfold zipM srcOf; simp only [hoe5, hot])
    rw [wp_mFor, wp_bnd]
    simp only [wp_mCons, wp_mNil, wp_mVs, wp_mV0, src]
    refine Wp.mono (loop_done (src := ⟨pairs2 (es4.map endD) (tb'.map .str), [(S2.nx, es4.map endD)] ++ [(nt, tb'.map .str)]⟩) (ds := pairs2 (es4.map endD) (tb'.map .str)) (pre := []) (g := gT 2 (gsCons (gT 2 (gsCons (gV 9) (gsCons (gV 5) gsNil))) (gsCons (gV 10) gsNil))) (I := fun done r S6 => (∃ x5 x9 x10, r = [some (.ref b), some (.int 5), some (.lst (nm.map .str)), some (.ref np), some (.ref S2.nx), x5, x6', some (.ref nt), some (.ref na), x9, x10, none]) ∧ (∃ as : List Atom, as.length = done.length ∧ (∀ x ∈ as, OkA nm x ∧ NestA P nm x) ∧ S6.ob na = some (.lst (as.map atomD))) ∧ (S6.ob S2.nx = some (.lst (es4.map endD)) ∧ S6.ob nt = some (.lst (tb'.map .str)) ∧ S6.ob np = some (.lst (P.map parD))) ∧ Bag S6 b ∧ Kp b S4 S6 ∧ S5.nx ≤ S6.nx) (fun _ _ _ h p hp => by
      rcases List.mem_append.mp hp with hp | hp
      · rw [List.mem_singleton.mp hp]; exact h.2.2.1.1
      · rw [List.mem_singleton.mp hp]; exact h.2.2.1.2.1) ⟨⟨_, _, _, rfl⟩, ⟨[], rfl, (fun x h => nomatch h), hoa⟩, ⟨hoe5, hot, hop5⟩, g5, k5, Nat.le_refl _⟩ ?_) ?_
    · rintro done d rest e r S6 ⟨⟨x5, x9, x10, rfl⟩, ⟨as, hal, hA, hoa6⟩, ⟨h1, h2, h3⟩, g6, k6, hx6⟩
      have e' : pairs2 (es4.map endD) (tb'.map D.str) = done ++ d :: rest := e
      have hdl : done.length + 1 ≤ 8 := by
        have h9 := congrArg List.length e'
        unfold pairs2 at h9
        rw [List.length_map, List.length_zip, List.length_map, List.length_map, List.length_append, List.length_cons] at h9
        omega
      obtain ⟨en, tt, hen, htt, rfl⟩ : ∃ en tt, en ∈ es4 ∧ tt ∈ tb' ∧ d = .tup [endD en, .str tt] := by
        have hd : d ∈ pairs2 (es4.map endD) (tb'.map D.str) := by rw [e']; simp
        unfold pairs2 at hd
        obtain ⟨⟨u, v⟩, huv, rfl⟩ := List.mem_map.mp hd
        obtain ⟨hu, hv⟩ := List.of_mem_zip huv
        obtain ⟨en, hen, rfl⟩ := List.mem_map.mp hu
        obtain ⟨tt, htt, rfl⟩ := List.mem_map.mp hv
        exact ⟨en, tt, hen, htt, rfl⟩
      obtain ⟨sw, hat⟩ := hes4 en hen
      refine ⟨_, rfl, ?_⟩
      have lt6 : b < S6.nx := Nat.lt_of_lt_of_le lt4 k6.1
      rw [wp_mSeq, wp_mDrop, wp_mMet]
      simp only [List.set_cons_succ, List.set_cons_zero, wp_mVs, wp_mV0]
      refine (wp_ref (f := appM) hoa6).mpr ?_
      simp only [wp_mCons, wp_mNil, wp_mTup, wp_mVs, wp_mV0, wp_mFn]
      refine columns_spec g6 lt6 h3 hF (by omega) (by omega) hPl.symm fun cs S7 hcl hcs g7 k7 => ?_
      have kk : ∀ {n : Nat}, n ≠ b → n < S5.nx → S7.ob n = S6.ob n := fun {n} h h' => k7.2 n h (Nat.lt_of_lt_of_le h' hx6)
      have q1 : S2.nx < S5.nx := Nat.lt_of_lt_of_le hx4 k5.1
      have q2 : nt < S5.nx := Nat.lt_trans hn2 hn3
      have q3 : np < S5.nx := Nat.lt_trans hpn q1
      have hoa7 : S7.ob na = some (.lst (as.map atomD)) := (kk nab hn3).trans hoa6
      rw [wp_mkTup (by simp), app_wp hoa7 (by rw [List.length_map]; omega)]
      simp only [wp_mNx]
      refine ⟨trivial, ⟨_, _, _, rfl⟩, ⟨as ++ [⟨en.1, tt, cs⟩], by simp [hal], fun x hx => ?_, by rw [ob_set, List.map_append]; rfl⟩, ⟨by rw [Sto.set_ob, if_neg n2]; exact (kk neb q1).trans h1, by rw [Sto.set_ob, if_neg n3]; exact (kk ntb q2).trans h2, by rw [Sto.set_ob, if_neg n1]; exact (kk hpb q3).trans h3⟩, Bag.kp (S' := S7) g7 nab, (k6.trans k7).setN (Nat.le_of_lt (Nat.lt_of_le_of_lt hn1 hn2)), Nat.le_trans hx6 k7.1⟩
      rcases List.mem_append.mp hx with hx | hx
      · exact hA x hx
      · rw [List.mem_singleton.mp hx]
        have hm : ∀ c ∈ cs, c ∈ nm := fun c hc => by
          obtain ⟨i, _, hi⟩ := (hcs c).mp hc
          exact List.mem_of_getElem? hi
        exact ⟨⟨⟨sw, hts _ (htp.mem_iff.mp htt), hcl, fun c hc => hns c (hm c hc)⟩, hm⟩, en.2, hcs⟩
    · rintro ⟨fl, r⟩ S6 ⟨e1, e2, ⟨as, hal, hA, hoa6⟩, _, g6, k6, hx6⟩
      rw [List.nil_append] at hal
      have : (pairs2 (es4.map endD) (tb'.map D.str)).length ≤ 8 := by
        unfold pairs2
        rw [List.length_map, List.length_zip, List.length_map, List.length_map]
        omega
      exact ⟨e1, e2, ⟨as, by omega, hA, hoa6⟩, g6, k6, hx6⟩
  rintro r S6 ⟨⟨x5'', x9, x10, rfl⟩, ⟨as, hal, hA, hoa6⟩, g6, k6, hx6⟩
  refine Wp.mono (finQ (kn := 2) (ka := 8) (kc := 11) (nm := nm) (as := as) (na := na) (QS := fun p S' => ∃ q, p.1 = .rt (qD q) ∧ OkQ q ∧ q.atoms.length ≤ 8 ∧ (∃ P nm, nm.Nodup ∧ Fo P ∧ P.length = nm.length ∧ q.cols.Perm nm ∧ ∀ x ∈ q.atoms, NestA P nm x) ∧ Bag S' b ∧ Kp b S S') g6 (Nat.lt_of_lt_of_le lt4 k6.1) hnl hnl1 hns hnd hoa6 ⟨nab, Nat.lt_of_lt_of_le hn3 hx6⟩ (by omega) (fun x hx => (hA x hx).1) (fun S Q => by simp only [wp_mV0]) (fun S Q => by simp only [wp_mVs, wp_mV0]) (fun d S Q => by simp only [List.set_cons_succ, List.set_cons_zero, wp_mVs, wp_mV0]) (fun d S Q => by simp only [List.set_cons_succ, List.set_cons_zero, wp_mVs, wp_mV0]) (fun d S Q => by simp only [List.set_cons_succ, List.set_cons_zero, wp_mVs, wp_mV0])
    fun q r S' h1 h2 h3 g k => ⟨q, rfl, h1, by rw [h3.length_eq]; exact hal, ⟨P, nm, hnd, hF, hPl, h2, fun x hx => (hA x (h3.mem_iff.mp hx)).2⟩, g, (((k1.trans k2).trans k4).trans k6).trans k⟩) ?_
  rintro ⟨fl, r⟩ S8 ⟨q, e, h1, h2, h3, g, k⟩
  have e : fl = .rt (qD q) := e
  subst e
  exact wp_ret.mpr (fin q S8 h1 h2 h3 g k)
theorem alike_fn {c n : Nat} {d : D} {p : PyData} (h : OkD c n d p) (hc : c ≤ 1048576) (hn : n ≤ 64) : Wp (if [d, d].length = P_law_alike.length then d_law_alike [d, d] else fail) S Q ↔ Q (.bl true) S := by
  rw [if_pos (show [d, d].length = P_law_alike.length from rfl)]
  exact wp_some (eq_of (alike_self h hc hn))
theorem wp_neS {i j : Str} : Wp (neM (.str i) (.str j)) S Q ↔ Q (.bl (!(i == j))) S := wp_some rfl
theorem neB {x y : Bool} : Wp (neM (.bl x) (.bl y)) S Q ↔ Q (.bl (!(x == y))) S := by
  rw [wp_ne (p := .bool x) (q := .bool y) rfl rfl (Nat.zero_le _)]
  rw [PyData.eqv]
theorem at_nat {α : Type} {l : List α} {k : Nat} {x : α} (h : l[k]? = some x) : atI l ((k : Nat) : Int) = some x := by
  obtain ⟨h1, h2⟩ := List.getElem?_eq_some_iff.mp h
  unfold atI ixN
  rw [if_pos (by omega), if_pos (by omega), Int.toNat_natCast]
  exact h
end
end K16
set_option maxRecDepth 100000
set_option maxHeartbeats 1000000
namespace K16
open PySem PySem.Spec PyProof.Rows L2 Mn
section
variable {S : Sto} {Q : D → Sto → Prop}
/-! ### ranges, looked into -/
def prD (p : D × D) : D := .tup [p.1, p.2]
def rgOf (rs : List Rn) (c : Str) : D × D := match rs.find? (fun r => r.c == c) with
  | some r => (r.lo, r.hi)
  | none => (.non, .non)
theorem rgOf_bnd {q : Qu} (h : OkQ q) (c : Str) : Bnd (rgOf q.rs c).1 ∧ Bnd (rgOf q.rs c).2 := by
  unfold rgOf
  split
  · rename_i r hr
    exact (h.rok r (List.mem_of_find?_eq_some hr)).2
  · exact ⟨.inl rfl, .inl rfl⟩
theorem iq0 {q : Qu} : Wp (ixM (qD q) (.int 0)) S Q ↔ Q (.tup (q.cols.map .str)) S := wp_ixT rfl
theorem iq1 {q : Qu} : Wp (ixM (qD q) (.int 1)) S Q ↔ Q (.tup (q.atoms.map atomD)) S := wp_ixT rfl
theorem iq2 {q : Qu} : Wp (ixM (qD q) (.int 2)) S Q ↔ Q (.tup (q.rs.map rnD)) S := wp_ixT rfl
theorem find_some {rs : List Rn} {c : Str} : rs.findSome? (fun r : Rn => if (r.c == c) = true then some (D.tup [r.lo, r.hi]) else none) = (rs.find? fun r => r.c == c).map fun r => D.tup [r.lo, r.hi] := by
  induction rs with
  | nil => rfl
  | cons r rs ih =>
    rw [List.findSome?_cons, List.find?_cons, ih]
    cases hc : (r.c == c) with
    | true => rfl
    | false => rfl
theorem range_fn {q : Qu} {c : Str} : Wp (if [qD q, .str c].length = P_range_of.length then d_range_of [qD q, .str c] else fail) S Q ↔ Q (prD (rgOf q.rs c)) S := by
  rw [if_pos (show [qD q, D.str c].length = P_range_of.length from rfl)]
  refine wp_some (eqOf ?_)
  unfold d_range_of
  rw [wp_def, show startR N_range_of.length [qD q, .str c] = [some (qD q), some (.str c), none, none, none] from rfl]
  unfold b_range_of
  rw [wp_mSeq, wp_mFor, wp_mISeq]
  simp only [List.set_cons_succ, List.set_cons_zero, wipeR, wp_mSeq, wp_mIfS, wp_mSet, wp_mRet, wp_mDrop, wp_mNx, wp_mPar, wp_parF, wp_mB, wp_mBin, wp_mUn, wp_mCall, wp_mFn, wp_mNil, wp_mCons, wp_mTup, wp_mLst, wp_mIf, wp_mAndV, wp_mOrV, wp_mNotV, wp_mIsN, wp_mNotN, wp_asB, wp_asI, wp_mTru, wp_truB, wp_mAnd, wp_mOr, wp_mNot, wp_mYes, wp_mPart, wp_mSl, wp_mVs, wp_mV0, wp_mC, wp_ret, wp_sub, wp_addI, wp_lt, wp_le, wp_gt, wp_ge, wp_neg, wp_eqS, wp_lenT, wp_lenL, wp_tupT, wp_tupL, Bool.not_true, Bool.not_false, Bool.false_eq_true, if_true, if_false, iq2]
  rw [src_tup]
  refine (loopA_find (src := ⟨q.rs.map rnD, []⟩) (l := q.rs) (c := rnD) (J := fun S1 => S1 = S) (I := fun r S1 => (∃ x2 x3 x4, r = [some (qD q), some (.str c), x2, x3, x4]) ∧ S1 = S) (f := fun r : Rn => if (r.c == c) = true then some (D.tup [r.lo, r.hi]) else none) (fun _ _ _ => srcOk_nil) ⟨⟨_, _, _, rfl⟩, rfl⟩ ?_).mono ?_
  · rintro r hr e S1 ⟨⟨x2, x3, x4, rfl⟩, rfl⟩
    refine ⟨[some (qD q), some (.str c), some (.str r.c), some r.lo, some r.hi], rfl, ?_⟩
    cases hc : (r.c == c) with
    | true =>
      simp only [List.set_cons_succ, List.set_cons_zero, wipeR, wp_mSeq, wp_mIfS, wp_mSet, wp_mRet, wp_mDrop, wp_mNx, wp_mPar, wp_parF, wp_mB, wp_mBin, wp_mUn, wp_mCall, wp_mFn, wp_mNil, wp_mCons, wp_mTup, wp_mLst, wp_mIf, wp_mAndV, wp_mOrV, wp_mNotV, wp_mIsN, wp_mNotN, wp_asB, wp_asI, wp_mTru, wp_truB, wp_mAnd, wp_mOr, wp_mNot, wp_mYes, wp_mPart, wp_mSl, wp_mVs, wp_mV0, wp_mC, wp_ret, wp_sub, wp_addI, wp_lt, wp_le, wp_gt, wp_ge, wp_neg, wp_eqS, wp_lenT, wp_lenL, wp_tupT, wp_tupL, Bool.not_true, Bool.not_false, Bool.false_eq_true, if_true, if_false, mt2, hc]
      (first | exact ⟨trivial, trivial⟩ | exact ⟨rfl, trivial⟩ | exact ⟨trivial, rfl⟩ | exact ⟨rfl, rfl⟩)
    | false =>
      simp only [List.set_cons_succ, List.set_cons_zero, wipeR, wp_mSeq, wp_mIfS, wp_mSet, wp_mRet, wp_mDrop, wp_mNx, wp_mPar, wp_parF, wp_mB, wp_mBin, wp_mUn, wp_mCall, wp_mFn, wp_mNil, wp_mCons, wp_mTup, wp_mLst, wp_mIf, wp_mAndV, wp_mOrV, wp_mNotV, wp_mIsN, wp_mNotN, wp_asB, wp_asI, wp_mTru, wp_truB, wp_mAnd, wp_mOr, wp_mNot, wp_mYes, wp_mPart, wp_mSl, wp_mVs, wp_mV0, wp_mC, wp_ret, wp_sub, wp_addI, wp_lt, wp_le, wp_gt, wp_ge, wp_neg, wp_eqS, wp_lenT, wp_lenL, wp_tupT, wp_tupL, Bool.not_true, Bool.not_false, Bool.false_eq_true, if_true, if_false, hc]
      exact ⟨trivial, ⟨_, _, _, rfl⟩, trivial⟩
  · rintro ⟨fl, r⟩ S1 hm
    rw [find_some] at hm
    unfold prD rgOf
    cases hf : q.rs.find? (fun r => r.c == c) with
    | none =>
      rw [hf] at hm
      obtain ⟨e1, ⟨x2, x3, x4, e2⟩, e3⟩ := hm
      have e1 : fl = .nx := e1
      subst e1 e3
      simp only [List.set_cons_succ, List.set_cons_zero, wipeR, wp_mSeq, wp_mIfS, wp_mSet, wp_mRet, wp_mDrop, wp_mNx, wp_mPar, wp_parF, wp_mB, wp_mBin, wp_mUn, wp_mCall, wp_mFn, wp_mNil, wp_mCons, wp_mTup, wp_mLst, wp_mIf, wp_mAndV, wp_mOrV, wp_mNotV, wp_mIsN, wp_mNotN, wp_asB, wp_asI, wp_mTru, wp_truB, wp_mAnd, wp_mOr, wp_mNot, wp_mYes, wp_mPart, wp_mSl, wp_mVs, wp_mV0, wp_mC, wp_ret, wp_sub, wp_addI, wp_lt, wp_le, wp_gt, wp_ge, wp_neg, wp_eqS, wp_lenT, wp_lenL, wp_tupT, wp_tupL, Bool.not_true, Bool.not_false, Bool.false_eq_true, if_true, if_false, mt2]
      (first | exact ⟨trivial, trivial⟩ | exact ⟨rfl, trivial⟩ | exact ⟨trivial, rfl⟩ | exact ⟨rfl, rfl⟩)
    | some r =>
      rw [hf] at hm
      obtain ⟨e1, e3⟩ := hm
      have e1 : fl = .rt _ := e1
      subst e1 e3
      simp only [List.set_cons_succ, List.set_cons_zero, wipeR, wp_mSeq, wp_mIfS, wp_mSet, wp_mRet, wp_mDrop, wp_mNx, wp_mPar, wp_parF, wp_mB, wp_mBin, wp_mUn, wp_mCall, wp_mFn, wp_mNil, wp_mCons, wp_mTup, wp_mLst, wp_mIf, wp_mAndV, wp_mOrV, wp_mNotV, wp_mIsN, wp_mNotN, wp_asB, wp_asI, wp_mTru, wp_truB, wp_mAnd, wp_mOr, wp_mNot, wp_mYes, wp_mPart, wp_mSl, wp_mVs, wp_mV0, wp_mC, wp_ret, wp_sub, wp_addI, wp_lt, wp_le, wp_gt, wp_ge, wp_neg, wp_eqS, wp_lenT, wp_lenL, wp_tupT, wp_tupL, Bool.not_true, Bool.not_false, Bool.false_eq_true, if_true, if_false]
      (first | exact ⟨trivial, trivial⟩ | exact ⟨rfl, trivial⟩ | exact ⟨trivial, rfl⟩ | exact ⟨rfl, rfl⟩)
theorem pdPairs {q : Qu} (h : OkQ q) (c : Str) : ∃ ps, OkL (((q.rs.filter fun r => r.c == c).map fun r => D.tup [r.lo, r.hi]).length * 101) 1 ((q.rs.filter fun r => r.c == c).map fun r => D.tup [r.lo, r.hi]) ps := OkL.all (a := 100) fun d hd => by
  obtain ⟨r, hr, rfl⟩ := List.mem_map.mp hd
  have := h.rok r (List.mem_filter.mp hr).1
  obtain ⟨p1, o1⟩ := this.2.1.ok
  obtain ⟨p2, o2⟩ := this.2.2.ok
  exact ⟨_, (OkL.cons o1 (OkL.cons o2 OkL.nil)).tup.mono (by omega) (Nat.le_refl _)⟩
theorem at0 {d : D} {l : List D} : Wp (ixM (.lst (d :: l)) (.int 0)) S Q ↔ Q d S := wp_ixL (by unfold atI ixN; rw [if_pos (Int.le_refl 0), if_pos (by simp)]; rfl)
theorem law_range_fn {q : Qu} {c : Str} (h : OkQ q) : Wp (if [qD q, .str c].length = P_law_range_of.length then d_law_range_of [qD q, .str c] else fail) S Q ↔ Q (prD (rgOf q.rs c)) S := by
  rw [if_pos (show [qD q, D.str c].length = P_law_range_of.length from rfl)]
  refine wp_some (eqOf ?_)
  unfold d_law_range_of
  rw [wp_def, show startR N_law_range_of.length [qD q, .str c] = [some (qD q), some (.str c), none, none, none, none] from rfl]
  unfold b_law_range_of
  obtain ⟨ps, hp⟩ := pdPairs h c
  simp only [List.set_cons_succ, List.set_cons_zero, wipeR, wp_mSeq, wp_mIfS, wp_mSet, wp_mRet, wp_mDrop, wp_mNx, wp_mPar, wp_parF, wp_mB, wp_mBin, wp_mUn, wp_mCall, wp_mFn, wp_mNil, wp_mCons, wp_mTup, wp_mLst, wp_mIf, wp_mAndV, wp_mOrV, wp_mNotV, wp_mIsN, wp_mNotN, wp_asB, wp_asI, wp_mTru, wp_truB, wp_mAnd, wp_mOr, wp_mNot, wp_mYes, wp_mPart, wp_mSl, wp_mVs, wp_mV0, wp_mC, wp_ret, wp_sub, wp_addI, wp_lt, wp_le, wp_gt, wp_ge, wp_neg, wp_eqS, wp_lenT, wp_lenL, wp_tupT, wp_tupL, Bool.not_true, Bool.not_false, Bool.false_eq_true, if_true, if_false, wp_mLc, wp_mISeq, iq2, src_tup]
  refine (lcA (t := fun r : Rn => r.c == c) (f := fun r => D.tup [r.lo, r.hi]) (c := rnD) (l := q.rs) srcOk_nil fun r hr => ⟨[some (qD q), some (.str c), none, some (.str r.c), some r.lo, some r.hi], rfl, ?_, fun _ => ?_⟩).mpr ?_
  · simp only [List.set_cons_succ, List.set_cons_zero, wipeR, wp_mSeq, wp_mIfS, wp_mSet, wp_mRet, wp_mDrop, wp_mNx, wp_mPar, wp_parF, wp_mB, wp_mBin, wp_mUn, wp_mCall, wp_mFn, wp_mNil, wp_mCons, wp_mTup, wp_mLst, wp_mIf, wp_mAndV, wp_mOrV, wp_mNotV, wp_mIsN, wp_mNotN, wp_asB, wp_asI, wp_mTru, wp_truB, wp_mAnd, wp_mOr, wp_mNot, wp_mYes, wp_mPart, wp_mSl, wp_mVs, wp_mV0, wp_mC, wp_ret, wp_sub, wp_addI, wp_lt, wp_le, wp_gt, wp_ge, wp_neg, wp_eqS, wp_lenT, wp_lenL, wp_tupT, wp_tupL, Bool.not_true, Bool.not_false, Bool.false_eq_true, if_true, if_false]
    (first | exact ⟨trivial, trivial⟩ | exact ⟨rfl, trivial⟩ | exact ⟨trivial, rfl⟩ | exact ⟨rfl, rfl⟩)
  · simp only [List.set_cons_succ, List.set_cons_zero, wipeR, wp_mSeq, wp_mIfS, wp_mSet, wp_mRet, wp_mDrop, wp_mNx, wp_mPar, wp_parF, wp_mB, wp_mBin, wp_mUn, wp_mCall, wp_mFn, wp_mNil, wp_mCons, wp_mTup, wp_mLst, wp_mIf, wp_mAndV, wp_mOrV, wp_mNotV, wp_mIsN, wp_mNotN, wp_asB, wp_asI, wp_mTru, wp_truB, wp_mAnd, wp_mOr, wp_mNot, wp_mYes, wp_mPart, wp_mSl, wp_mVs, wp_mV0, wp_mC, wp_ret, wp_sub, wp_addI, wp_lt, wp_le, wp_gt, wp_ge, wp_neg, wp_eqS, wp_lenT, wp_lenL, wp_tupT, wp_tupL, Bool.not_true, Bool.not_false, Bool.false_eq_true, if_true, if_false, mt2]
    (first | exact ⟨trivial, trivial⟩ | exact ⟨rfl, trivial⟩ | exact ⟨trivial, rfl⟩ | exact ⟨rfl, rfl⟩)
  have hl : ((q.rs.filter fun r => r.c == c).map fun r => D.tup [r.lo, r.hi]).length ≤ 6 := by
    rw [List.length_map]
    exact Nat.le_trans (List.length_filter_le _ _) h.rl
  rw [wp_lim (by omega)]
  simp only [List.set_cons_succ, List.set_cons_zero, wipeR, wp_mSeq, wp_mIfS, wp_mSet, wp_mRet, wp_mDrop, wp_mNx, wp_mPar, wp_parF, wp_mB, wp_mBin, wp_mUn, wp_mCall, wp_mFn, wp_mNil, wp_mCons, wp_mTup, wp_mLst, wp_mIf, wp_mAndV, wp_mOrV, wp_mNotV, wp_mIsN, wp_mNotN, wp_asB, wp_asI, wp_mTru, wp_truB, wp_mAnd, wp_mOr, wp_mNot, wp_mYes, wp_mPart, wp_mSl, wp_mVs, wp_mV0, wp_mC, wp_ret, wp_sub, wp_addI, wp_lt, wp_le, wp_gt, wp_ge, wp_neg, wp_eqS, wp_lenT, wp_lenL, wp_tupT, wp_tupL, Bool.not_true, Bool.not_false, Bool.false_eq_true, if_true, if_false, ml0]
  rw [wp_neNilL hp.pd (by have := hp.dp; omega), wp_asB]
  unfold prD rgOf
  rw [← List.head?_filter]
  cases hf : q.rs.filter (fun r => r.c == c) with
  | nil =>
    simp only [List.set_cons_succ, List.set_cons_zero, wipeR, wp_mSeq, wp_mIfS, wp_mSet, wp_mRet, wp_mDrop, wp_mNx, wp_mPar, wp_parF, wp_mB, wp_mBin, wp_mUn, wp_mCall, wp_mFn, wp_mNil, wp_mCons, wp_mTup, wp_mLst, wp_mIf, wp_mAndV, wp_mOrV, wp_mNotV, wp_mIsN, wp_mNotN, wp_asB, wp_asI, wp_mTru, wp_truB, wp_mAnd, wp_mOr, wp_mNot, wp_mYes, wp_mPart, wp_mSl, wp_mVs, wp_mV0, wp_mC, wp_ret, wp_sub, wp_addI, wp_lt, wp_le, wp_gt, wp_ge, wp_neg, wp_eqS, wp_lenT, wp_lenL, wp_tupT, wp_tupL, Bool.not_true, Bool.not_false, Bool.false_eq_true, if_true, if_false, List.map_nil, List.isEmpty_nil, mt2, List.head?_nil]
    (first | exact ⟨trivial, trivial⟩ | exact ⟨rfl, trivial⟩ | exact ⟨trivial, rfl⟩ | exact ⟨rfl, rfl⟩)
  | cons r rs =>
    simp only [List.set_cons_succ, List.set_cons_zero, wipeR, wp_mSeq, wp_mIfS, wp_mSet, wp_mRet, wp_mDrop, wp_mNx, wp_mPar, wp_parF, wp_mB, wp_mBin, wp_mUn, wp_mCall, wp_mFn, wp_mNil, wp_mCons, wp_mTup, wp_mLst, wp_mIf, wp_mAndV, wp_mOrV, wp_mNotV, wp_mIsN, wp_mNotN, wp_asB, wp_asI, wp_mTru, wp_truB, wp_mAnd, wp_mOr, wp_mNot, wp_mYes, wp_mPart, wp_mSl, wp_mVs, wp_mV0, wp_mC, wp_ret, wp_sub, wp_addI, wp_lt, wp_le, wp_gt, wp_ge, wp_neg, wp_eqS, wp_lenT, wp_lenL, wp_tupT, wp_tupL, Bool.not_true, Bool.not_false, Bool.false_eq_true, if_true, if_false, List.map_cons, List.isEmpty_cons, at0, List.head?_cons]
    (first | exact ⟨trivial, trivial⟩ | exact ⟨rfl, trivial⟩ | exact ⟨trivial, rfl⟩ | exact ⟨rfl, rfl⟩)
def inR (p : D × D) (v : Int) : Bool := (match p.1 with | .int i => decide (i ≤ v) | _ => true) && (match p.2 with | .int i => decide (v ≤ i) | _ => true)
theorem lets_fn {q : Qu} {c : Str} {v : Int} (h : OkQ q) : Wp (if [qD q, .str c, .int v].length = P_lets.length then d_lets [qD q, .str c, .int v] else fail) S Q ↔ Q (.bl (inR (rgOf q.rs c) v)) S := by
  rw [if_pos (show [qD q, D.str c, D.int v].length = P_lets.length from rfl)]
  refine wp_some (eqOf ?_)
  unfold d_lets
  rw [wp_def, show startR N_lets.length [qD q, .str c, .int v] = [some (qD q), some (.str c), some (.int v), none, none] from rfl]
  unfold b_lets
  simp only [List.set_cons_succ, List.set_cons_zero, wipeR, wp_mSeq, wp_mIfS, wp_mSet, wp_mRet, wp_mDrop, wp_mNx, wp_mPar, wp_parF, wp_mB, wp_mBin, wp_mUn, wp_mCall, wp_mFn, wp_mNil, wp_mCons, wp_mTup, wp_mLst, wp_mIf, wp_mAndV, wp_mOrV, wp_mNotV, wp_mIsN, wp_mNotN, wp_asB, wp_asI, wp_mTru, wp_truB, wp_mAnd, wp_mOr, wp_mNot, wp_mYes, wp_mPart, wp_mSl, wp_mVs, wp_mV0, wp_mC, wp_ret, wp_sub, wp_addI, wp_lt, wp_le, wp_gt, wp_ge, wp_neg, wp_eqS, wp_lenT, wp_lenL, wp_tupT, wp_tupL, Bool.not_true, Bool.not_false, Bool.false_eq_true, if_true, if_false, wp_mAsg, range_fn]
  unfold prD
  rw [wp_asg2]
  obtain ⟨b1, b2⟩ := rgOf_bnd h c
  generalize rgOf q.rs c = p at *
  obtain ⟨lo, hi⟩ := p
  rcases b1 with e | ⟨i, e, _⟩ <;> rcases b2 with e2 | ⟨j, e2, _⟩ <;> simp only at e e2 <;> subst e e2
  · simp only [List.set_cons_succ, List.set_cons_zero, wipeR, wp_mSeq, wp_mIfS, wp_mSet, wp_mRet, wp_mDrop, wp_mNx, wp_mPar, wp_parF, wp_mB, wp_mBin, wp_mUn, wp_mCall, wp_mFn, wp_mNil, wp_mCons, wp_mTup, wp_mLst, wp_mIf, wp_mAndV, wp_mOrV, wp_mNotV, wp_mIsN, wp_mNotN, wp_asB, wp_asI, wp_mTru, wp_truB, wp_mAnd, wp_mOr, wp_mNot, wp_mYes, wp_mPart, wp_mSl, wp_mVs, wp_mV0, wp_mC, wp_ret, wp_sub, wp_addI, wp_lt, wp_le, wp_gt, wp_ge, wp_neg, wp_eqS, wp_lenT, wp_lenL, wp_tupT, wp_tupL, Bool.not_true, Bool.not_false, Bool.false_eq_true, if_true, if_false, isNonD, inR]
    (first | exact ⟨trivial, trivial⟩ | exact ⟨rfl, trivial⟩ | exact ⟨trivial, rfl⟩ | exact ⟨rfl, rfl⟩)
  · simp only [List.set_cons_succ, List.set_cons_zero, wipeR, wp_mSeq, wp_mIfS, wp_mSet, wp_mRet, wp_mDrop, wp_mNx, wp_mPar, wp_parF, wp_mB, wp_mBin, wp_mUn, wp_mCall, wp_mFn, wp_mNil, wp_mCons, wp_mTup, wp_mLst, wp_mIf, wp_mAndV, wp_mOrV, wp_mNotV, wp_mIsN, wp_mNotN, wp_asB, wp_asI, wp_mTru, wp_truB, wp_mAnd, wp_mOr, wp_mNot, wp_mYes, wp_mPart, wp_mSl, wp_mVs, wp_mV0, wp_mC, wp_ret, wp_sub, wp_addI, wp_lt, wp_le, wp_gt, wp_ge, wp_neg, wp_eqS, wp_lenT, wp_lenL, wp_tupT, wp_tupL, Bool.not_true, Bool.not_false, Bool.false_eq_true, if_true, if_false, isNonD, inR]
    (first | exact ⟨trivial, trivial⟩ | exact ⟨rfl, trivial⟩ | exact ⟨trivial, rfl⟩ | exact ⟨rfl, rfl⟩)
  · by_cases h1 : i ≤ v <;> simp only [List.set_cons_succ, List.set_cons_zero, wipeR, wp_mSeq, wp_mIfS, wp_mSet, wp_mRet, wp_mDrop, wp_mNx, wp_mPar, wp_parF, wp_mB, wp_mBin, wp_mUn, wp_mCall, wp_mFn, wp_mNil, wp_mCons, wp_mTup, wp_mLst, wp_mIf, wp_mAndV, wp_mOrV, wp_mNotV, wp_mIsN, wp_mNotN, wp_asB, wp_asI, wp_mTru, wp_truB, wp_mAnd, wp_mOr, wp_mNot, wp_mYes, wp_mPart, wp_mSl, wp_mVs, wp_mV0, wp_mC, wp_ret, wp_sub, wp_addI, wp_lt, wp_le, wp_gt, wp_ge, wp_neg, wp_eqS, wp_lenT, wp_lenL, wp_tupT, wp_tupL, Bool.not_true, Bool.not_false, Bool.false_eq_true, if_true, if_false, isNonD, inR, h1, decide_true, decide_false, Bool.and_self] <;> (first | exact ⟨trivial, trivial⟩ | exact ⟨rfl, trivial⟩ | exact ⟨trivial, rfl⟩ | exact ⟨rfl, rfl⟩)
  · by_cases h1 : i ≤ v <;> simp only [List.set_cons_succ, List.set_cons_zero, wipeR, wp_mSeq, wp_mIfS, wp_mSet, wp_mRet, wp_mDrop, wp_mNx, wp_mPar, wp_parF, wp_mB, wp_mBin, wp_mUn, wp_mCall, wp_mFn, wp_mNil, wp_mCons, wp_mTup, wp_mLst, wp_mIf, wp_mAndV, wp_mOrV, wp_mNotV, wp_mIsN, wp_mNotN, wp_asB, wp_asI, wp_mTru, wp_truB, wp_mAnd, wp_mOr, wp_mNot, wp_mYes, wp_mPart, wp_mSl, wp_mVs, wp_mV0, wp_mC, wp_ret, wp_sub, wp_addI, wp_lt, wp_le, wp_gt, wp_ge, wp_neg, wp_eqS, wp_lenT, wp_lenL, wp_tupT, wp_tupL, Bool.not_true, Bool.not_false, Bool.false_eq_true, if_true, if_false, isNonD, inR, h1, decide_true, decide_false, Bool.and_self] <;> (first | exact ⟨trivial, trivial⟩ | exact ⟨rfl, trivial⟩ | exact ⟨trivial, rfl⟩ | exact ⟨rfl, rfl⟩)
theorem law_in_fn {q : Qu} {c : Str} {v : Int} (h : OkQ q) : Wp (if [qD q, .str c, .int v].length = P_law_is_in_range.length then d_law_is_in_range [qD q, .str c, .int v] else fail) S Q ↔ Q (.bl (inR (rgOf q.rs c) v)) S := by
  rw [if_pos (show [qD q, D.str c, D.int v].length = P_law_is_in_range.length from rfl)]
  refine wp_some (eqOf ?_)
  unfold d_law_is_in_range
  rw [wp_def, show startR N_law_is_in_range.length [qD q, .str c, .int v] = [some (qD q), some (.str c), some (.int v), none, none] from rfl]
  unfold b_law_is_in_range
  simp only [List.set_cons_succ, List.set_cons_zero, wipeR, wp_mSeq, wp_mIfS, wp_mSet, wp_mRet, wp_mDrop, wp_mNx, wp_mPar, wp_parF, wp_mB, wp_mBin, wp_mUn, wp_mCall, wp_mFn, wp_mNil, wp_mCons, wp_mTup, wp_mLst, wp_mIf, wp_mAndV, wp_mOrV, wp_mNotV, wp_mIsN, wp_mNotN, wp_asB, wp_asI, wp_mTru, wp_truB, wp_mAnd, wp_mOr, wp_mNot, wp_mYes, wp_mPart, wp_mSl, wp_mVs, wp_mV0, wp_mC, wp_ret, wp_sub, wp_addI, wp_lt, wp_le, wp_gt, wp_ge, wp_neg, wp_eqS, wp_lenT, wp_lenL, wp_tupT, wp_tupL, Bool.not_true, Bool.not_false, Bool.false_eq_true, if_true, if_false, wp_mAsg, law_range_fn h]
  unfold prD
  rw [wp_asg2]
  obtain ⟨b1, b2⟩ := rgOf_bnd h c
  generalize rgOf q.rs c = p at *
  obtain ⟨lo, hi⟩ := p
  rcases b1 with e | ⟨i, e, _⟩ <;> rcases b2 with e2 | ⟨j, e2, _⟩ <;> simp only at e e2 <;> subst e e2
  · simp only [List.set_cons_succ, List.set_cons_zero, wipeR, wp_mSeq, wp_mIfS, wp_mSet, wp_mRet, wp_mDrop, wp_mNx, wp_mPar, wp_parF, wp_mB, wp_mBin, wp_mUn, wp_mCall, wp_mFn, wp_mNil, wp_mCons, wp_mTup, wp_mLst, wp_mIf, wp_mAndV, wp_mOrV, wp_mNotV, wp_mIsN, wp_mNotN, wp_asB, wp_asI, wp_mTru, wp_truB, wp_mAnd, wp_mOr, wp_mNot, wp_mYes, wp_mPart, wp_mSl, wp_mVs, wp_mV0, wp_mC, wp_ret, wp_sub, wp_addI, wp_lt, wp_le, wp_gt, wp_ge, wp_neg, wp_eqS, wp_lenT, wp_lenL, wp_tupT, wp_tupL, Bool.not_true, Bool.not_false, Bool.false_eq_true, if_true, if_false, isNonD, inR]
    (first | exact ⟨trivial, trivial⟩ | exact ⟨rfl, trivial⟩ | exact ⟨trivial, rfl⟩ | exact ⟨rfl, rfl⟩)
  · simp only [List.set_cons_succ, List.set_cons_zero, wipeR, wp_mSeq, wp_mIfS, wp_mSet, wp_mRet, wp_mDrop, wp_mNx, wp_mPar, wp_parF, wp_mB, wp_mBin, wp_mUn, wp_mCall, wp_mFn, wp_mNil, wp_mCons, wp_mTup, wp_mLst, wp_mIf, wp_mAndV, wp_mOrV, wp_mNotV, wp_mIsN, wp_mNotN, wp_asB, wp_asI, wp_mTru, wp_truB, wp_mAnd, wp_mOr, wp_mNot, wp_mYes, wp_mPart, wp_mSl, wp_mVs, wp_mV0, wp_mC, wp_ret, wp_sub, wp_addI, wp_lt, wp_le, wp_gt, wp_ge, wp_neg, wp_eqS, wp_lenT, wp_lenL, wp_tupT, wp_tupL, Bool.not_true, Bool.not_false, Bool.false_eq_true, if_true, if_false, isNonD, inR]
    (first | exact ⟨trivial, trivial⟩ | exact ⟨rfl, trivial⟩ | exact ⟨trivial, rfl⟩ | exact ⟨rfl, rfl⟩)
  · by_cases h1 : i ≤ v <;> simp only [List.set_cons_succ, List.set_cons_zero, wipeR, wp_mSeq, wp_mIfS, wp_mSet, wp_mRet, wp_mDrop, wp_mNx, wp_mPar, wp_parF, wp_mB, wp_mBin, wp_mUn, wp_mCall, wp_mFn, wp_mNil, wp_mCons, wp_mTup, wp_mLst, wp_mIf, wp_mAndV, wp_mOrV, wp_mNotV, wp_mIsN, wp_mNotN, wp_asB, wp_asI, wp_mTru, wp_truB, wp_mAnd, wp_mOr, wp_mNot, wp_mYes, wp_mPart, wp_mSl, wp_mVs, wp_mV0, wp_mC, wp_ret, wp_sub, wp_addI, wp_lt, wp_le, wp_gt, wp_ge, wp_neg, wp_eqS, wp_lenT, wp_lenL, wp_tupT, wp_tupL, Bool.not_true, Bool.not_false, Bool.false_eq_true, if_true, if_false, isNonD, inR, h1, decide_true, decide_false, Bool.and_self] <;> (first | exact ⟨trivial, trivial⟩ | exact ⟨rfl, trivial⟩ | exact ⟨trivial, rfl⟩ | exact ⟨rfl, rfl⟩)
  · by_cases h1 : i ≤ v <;> simp only [List.set_cons_succ, List.set_cons_zero, wipeR, wp_mSeq, wp_mIfS, wp_mSet, wp_mRet, wp_mDrop, wp_mNx, wp_mPar, wp_parF, wp_mB, wp_mBin, wp_mUn, wp_mCall, wp_mFn, wp_mNil, wp_mCons, wp_mTup, wp_mLst, wp_mIf, wp_mAndV, wp_mOrV, wp_mNotV, wp_mIsN, wp_mNotN, wp_asB, wp_asI, wp_mTru, wp_truB, wp_mAnd, wp_mOr, wp_mNot, wp_mYes, wp_mPart, wp_mSl, wp_mVs, wp_mV0, wp_mC, wp_ret, wp_sub, wp_addI, wp_lt, wp_le, wp_gt, wp_ge, wp_neg, wp_eqS, wp_lenT, wp_lenL, wp_tupT, wp_tupL, Bool.not_true, Bool.not_false, Bool.false_eq_true, if_true, if_false, isNonD, inR, h1, decide_true, decide_false, Bool.and_self] <;> (first | exact ⟨trivial, trivial⟩ | exact ⟨rfl, trivial⟩ | exact ⟨trivial, rfl⟩ | exact ⟨rfl, rfl⟩)
/-! ### points -/
def El (d : D) : Prop := (∃ i : Int, d = .int i ∧ -999999999999 ≤ i ∧ i ≤ 999999999999) ∨ d = .bl true ∨ d = .non ∨ d = .str "1"
def isI : D → Bool
  | .int _ => true
  | _ => false
def inD (p : D × D) : D → Bool
  | .int v => inR p v
  | _ => false
theorem k_ii : kitB "int" "int" = some true := by decide +kernel
theorem k_ib : kitB "int" "bool" = some false := by decide +kernel
theorem k_bi : kitB "bool" "int" = some true := by decide +kernel
theorem k_bb : kitB "bool" "bool" = some true := by decide +kernel
theorem k_ni : kitB "NoneType" "int" = some false := by decide +kernel
theorem k_si : kitB "str" "int" = some false := by decide +kernel
theorem isi_wp {T t : String} {d : D} {b : Bool} (h : tyN S d = some t) (k : kitB t T = some b) : Wp (isiM T d) S Q ↔ Q (.bl b) S := wp_some (by unfold isiM; rw [h]; simp only; rw [k]; rfl)
theorem int_core {d : D} (h : El d) {QS : Fl × Mn.Env → Sto → Prop} : Wp (mSeq (mRet (mAndV (mUn (isiM "int") (mV 0)) (mNotV (mUn (isiM "bool") (mV 0))))) mNx [some d]) S QS ↔ QS (.rt (.bl (isI d)), [some d]) S := by
  rcases h with ⟨i, rfl, _⟩ | rfl | rfl | rfl
  · simp only [List.set_cons_succ, List.set_cons_zero, wipeR, wp_mSeq, wp_mIfS, wp_mSet, wp_mRet, wp_mDrop, wp_mNx, wp_mPar, wp_parF, wp_mB, wp_mBin, wp_mUn, wp_mCall, wp_mFn, wp_mNil, wp_mCons, wp_mTup, wp_mLst, wp_mIf, wp_mAndV, wp_mOrV, wp_mNotV, wp_mIsN, wp_mNotN, wp_asB, wp_asI, wp_mTru, wp_truB, wp_mAnd, wp_mOr, wp_mNot, wp_mYes, wp_mPart, wp_mSl, wp_mVs, wp_mV0, wp_mC, wp_ret, wp_sub, wp_addI, wp_lt, wp_le, wp_gt, wp_ge, wp_neg, wp_eqS, wp_lenT, wp_lenL, wp_tupT, wp_tupL, Bool.not_true, Bool.not_false, Bool.false_eq_true, if_true, if_false, isi_wp (S := S) (d := .int i) rfl k_ii, isi_wp (S := S) (d := .int i) rfl k_ib, isI]
  · simp only [List.set_cons_succ, List.set_cons_zero, wipeR, wp_mSeq, wp_mIfS, wp_mSet, wp_mRet, wp_mDrop, wp_mNx, wp_mPar, wp_parF, wp_mB, wp_mBin, wp_mUn, wp_mCall, wp_mFn, wp_mNil, wp_mCons, wp_mTup, wp_mLst, wp_mIf, wp_mAndV, wp_mOrV, wp_mNotV, wp_mIsN, wp_mNotN, wp_asB, wp_asI, wp_mTru, wp_truB, wp_mAnd, wp_mOr, wp_mNot, wp_mYes, wp_mPart, wp_mSl, wp_mVs, wp_mV0, wp_mC, wp_ret, wp_sub, wp_addI, wp_lt, wp_le, wp_gt, wp_ge, wp_neg, wp_eqS, wp_lenT, wp_lenL, wp_tupT, wp_tupL, Bool.not_true, Bool.not_false, Bool.false_eq_true, if_true, if_false, isi_wp (S := S) (d := .bl true) rfl k_bi, isi_wp (S := S) (d := .bl true) rfl k_bb, isI]
  · simp only [List.set_cons_succ, List.set_cons_zero, wipeR, wp_mSeq, wp_mIfS, wp_mSet, wp_mRet, wp_mDrop, wp_mNx, wp_mPar, wp_parF, wp_mB, wp_mBin, wp_mUn, wp_mCall, wp_mFn, wp_mNil, wp_mCons, wp_mTup, wp_mLst, wp_mIf, wp_mAndV, wp_mOrV, wp_mNotV, wp_mIsN, wp_mNotN, wp_asB, wp_asI, wp_mTru, wp_truB, wp_mAnd, wp_mOr, wp_mNot, wp_mYes, wp_mPart, wp_mSl, wp_mVs, wp_mV0, wp_mC, wp_ret, wp_sub, wp_addI, wp_lt, wp_le, wp_gt, wp_ge, wp_neg, wp_eqS, wp_lenT, wp_lenL, wp_tupT, wp_tupL, Bool.not_true, Bool.not_false, Bool.false_eq_true, if_true, if_false, isi_wp (S := S) (d := .non) rfl k_ni, isI]
  · simp only [List.set_cons_succ, List.set_cons_zero, wipeR, wp_mSeq, wp_mIfS, wp_mSet, wp_mRet, wp_mDrop, wp_mNx, wp_mPar, wp_parF, wp_mB, wp_mBin, wp_mUn, wp_mCall, wp_mFn, wp_mNil, wp_mCons, wp_mTup, wp_mLst, wp_mIf, wp_mAndV, wp_mOrV, wp_mNotV, wp_mIsN, wp_mNotN, wp_asB, wp_asI, wp_mTru, wp_truB, wp_mAnd, wp_mOr, wp_mNot, wp_mYes, wp_mPart, wp_mSl, wp_mVs, wp_mV0, wp_mC, wp_ret, wp_sub, wp_addI, wp_lt, wp_le, wp_gt, wp_ge, wp_neg, wp_eqS, wp_lenT, wp_lenL, wp_tupT, wp_tupL, Bool.not_true, Bool.not_false, Bool.false_eq_true, if_true, if_false, isi_wp (S := S) (d := .str "1") rfl k_si, isI]
theorem int_fn {d : D} (h : El d) : Wp (if [d].length = P_is_integer.length then d_is_integer [d] else fail) S Q ↔ Q (.bl (isI d)) S := by
  rw [if_pos (show [d].length = P_is_integer.length from rfl)]
  unfold d_is_integer
  rw [wp_def, show startR N_is_integer.length [d] = [some d] from rfl]
  unfold b_is_integer
  rw [int_core h]
  exact wp_ret
theorem law_int_fn {d : D} (h : El d) : Wp (if [d].length = P_law_is_int.length then d_law_is_int [d] else fail) S Q ↔ Q (.bl (isI d)) S := by
  rw [if_pos (show [d].length = P_law_is_int.length from rfl)]
  unfold d_law_is_int
  rw [wp_def, show startR N_law_is_int.length [d] = [some d] from rfl]
  unfold b_law_is_int
  rw [int_core h]
  exact wp_ret
/-- what is asked whether it is a point -/
structure Th (d : D) : Prop where
  rp : ∃ sh : Str, ∀ (S : Sto) (Q : D → Sto → Prop), Wp (reprM [d]) S Q ↔ Q (.str sh) S
  ty : (∃ ds, d = .tup ds ∧ ds.length ≤ 20 ∧ ∀ x ∈ ds, El x) ∨ ((∀ ds, d ≠ .tup ds) ∧ ∀ (S : Sto) (Q : D → Sto → Prop), Wp (isiM "tuple" d) S Q ↔ Q (.bl false) S)
def isPt (q : Qu) : D → Bool
  | .tup ds => ds.length == q.cols.length && (q.cols.zip ds).all fun p => isI p.2 && inD (rgOf q.rs p.1) p.2
  | _ => false
theorem isPt_tup {q : Qu} {ds : List D} : isPt q (.tup ds) = (ds.length == q.cols.length && (q.cols.zip ds).all fun p => isI p.2 && inD (rgOf q.rs p.1) p.2) := rfl
theorem isPt_no {q : Qu} {d : D} (h : ∀ ds, d ≠ .tup ds) : isPt q d = false := by
  cases d with
  | tup ds => exact absurd rfl (h ds)
  | _ => rfl
theorem pairs_cs {cs : List Str} {ds : List D} : pairs2 (cs.map .str) ds = (cs.zip ds).map fun p => D.tup [.str p.1, p.2] := by
  unfold pairs2
  rw [List.zip_map_left, List.map_map]
  rfl
theorem bools_map {α : Type} {l : List α} {f : α → Bool} : bools (l.map fun x => D.bl (f x)) = some (l.map f) := by
  induction l with
  | nil => rfl
  | cons x l ih => rw [List.map_cons, bools, ih]; rfl
theorem isi_tup {ds : List D} : Wp (isiM "tuple" (.tup ds)) S Q ↔ Q (.bl true) S := isi_wp rfl (by decide +kernel)
theorem ne_int {i j : Int} : Wp (neM (.int i) (.int j)) S Q ↔ Q (.bl (!(i == j))) S := by
  rw [wp_ne (p := .int i) (q := .int j) rfl rfl (Nat.zero_le _)]
  simp only [PyData.eqv]
theorem point_fn {q : Qu} {d : D} (h : OkQ q) (t : Th d) : Wp (if [qD q, d].length = P_is_point.length then d_is_point [qD q, d] else fail) S Q ↔ Q (.bl (isPt q d)) S := by
  rw [if_pos (show [qD q, d].length = P_is_point.length from rfl)]
  refine wp_some (eqOf ?_)
  unfold d_is_point
  rw [wp_def, show startR N_is_point.length [qD q, d] = [some (qD q), some d, none, none, none] from rfl]
  unfold b_is_point
  rcases t.ty with ⟨ds, rfl, hl, hE⟩ | ⟨hn, hi⟩
  · cases hc : (ds.length == q.cols.length) with
    | false =>
      have hc' : ((ds.length : Int) == (q.cols.length : Int)) = false := by
        have := of_decide_eq_false (p := ds.length = q.cols.length) (by simpa using hc)
        rw [beq_eq_false_iff_ne]; omega
      simp only [List.set_cons_succ, List.set_cons_zero, wipeR, wp_mSeq, wp_mIfS, wp_mSet, wp_mRet, wp_mDrop, wp_mNx, wp_mPar, wp_parF, wp_mB, wp_mBin, wp_mUn, wp_mCall, wp_mFn, wp_mNil, wp_mCons, wp_mTup, wp_mLst, wp_mIf, wp_mAndV, wp_mOrV, wp_mNotV, wp_mIsN, wp_mNotN, wp_asB, wp_asI, wp_mTru, wp_truB, wp_mAnd, wp_mOr, wp_mNot, wp_mYes, wp_mPart, wp_mSl, wp_mVs, wp_mV0, wp_mC, wp_ret, wp_sub, wp_addI, wp_lt, wp_le, wp_gt, wp_ge, wp_neg, wp_eqS, wp_lenT, wp_lenL, wp_tupT, wp_tupL, Bool.not_true, Bool.not_false, Bool.false_eq_true, if_true, if_false, iq0, isi_tup, ne_int, List.length_map, hc']
      exact ⟨by rw [isPt_tup, hc]; rfl, trivial⟩
    | true =>
      have hc' : ((ds.length : Int) == (q.cols.length : Int)) = true := by
        have : ds.length = q.cols.length := by simpa using hc
        rw [this]; exact beq_self_eq_true _
      simp only [List.set_cons_succ, List.set_cons_zero, wipeR, wp_mSeq, wp_mIfS, wp_mSet, wp_mRet, wp_mDrop, wp_mNx, wp_mPar, wp_parF, wp_mB, wp_mBin, wp_mUn, wp_mCall, wp_mFn, wp_mNil, wp_mCons, wp_mTup, wp_mLst, wp_mIf, wp_mAndV, wp_mOrV, wp_mNotV, wp_mIsN, wp_mNotN, wp_asB, wp_asI, wp_mTru, wp_truB, wp_mAnd, wp_mOr, wp_mNot, wp_mYes, wp_mPart, wp_mSl, wp_mVs, wp_mV0, wp_mC, wp_ret, wp_sub, wp_addI, wp_lt, wp_le, wp_gt, wp_ge, wp_neg, wp_eqS, wp_lenT, wp_lenL, wp_tupT, wp_tupL, Bool.not_true, Bool.not_false, Bool.false_eq_true, if_true, if_false, iq0, isi_tup, ne_int, List.length_map, hc', wp_mLc, wp_bnd, zip_tt, pairs_cs]
      refine (lcA (t := fun _ => true) (f := fun p : Str × D => D.bl (isI p.2 && inD (rgOf q.rs p.1) p.2)) (c := fun p : Str × D => D.tup [.str p.1, p.2]) (l := q.cols.zip ds) srcOk_nil fun p hp => ⟨[some (qD q), some (.tup ds), some (.tup (q.cols.map .str)), some (.str p.1), some p.2], rfl, ?_, fun _ => ?_⟩).mpr ?_
      · simp only [List.set_cons_succ, List.set_cons_zero, wipeR, wp_mSeq, wp_mIfS, wp_mSet, wp_mRet, wp_mDrop, wp_mNx, wp_mPar, wp_parF, wp_mB, wp_mBin, wp_mUn, wp_mCall, wp_mFn, wp_mNil, wp_mCons, wp_mTup, wp_mLst, wp_mIf, wp_mAndV, wp_mOrV, wp_mNotV, wp_mIsN, wp_mNotN, wp_asB, wp_asI, wp_mTru, wp_truB, wp_mAnd, wp_mOr, wp_mNot, wp_mYes, wp_mPart, wp_mSl, wp_mVs, wp_mV0, wp_mC, wp_ret, wp_sub, wp_addI, wp_lt, wp_le, wp_gt, wp_ge, wp_neg, wp_eqS, wp_lenT, wp_lenL, wp_tupT, wp_tupL, Bool.not_true, Bool.not_false, Bool.false_eq_true, if_true, if_false]
        (first | exact ⟨trivial, trivial⟩ | exact ⟨rfl, trivial⟩ | exact ⟨trivial, rfl⟩ | exact ⟨rfl, rfl⟩)
      · obtain ⟨c, v⟩ := p
        have hv : El v := hE v (List.of_mem_zip hp).2
        simp only [List.set_cons_succ, List.set_cons_zero, wipeR, wp_mSeq, wp_mIfS, wp_mSet, wp_mRet, wp_mDrop, wp_mNx, wp_mPar, wp_parF, wp_mB, wp_mBin, wp_mUn, wp_mCall, wp_mFn, wp_mNil, wp_mCons, wp_mTup, wp_mLst, wp_mIf, wp_mAndV, wp_mOrV, wp_mNotV, wp_mIsN, wp_mNotN, wp_asB, wp_asI, wp_mTru, wp_truB, wp_mAnd, wp_mOr, wp_mNot, wp_mYes, wp_mPart, wp_mSl, wp_mVs, wp_mV0, wp_mC, wp_ret, wp_sub, wp_addI, wp_lt, wp_le, wp_gt, wp_ge, wp_neg, wp_eqS, wp_lenT, wp_lenL, wp_tupT, wp_tupL, Bool.not_true, Bool.not_false, Bool.false_eq_true, if_true, if_false, int_fn hv]
        rcases hv with ⟨i, rfl, _⟩ | rfl | rfl | rfl
        · simp only [List.set_cons_succ, List.set_cons_zero, wipeR, wp_mSeq, wp_mIfS, wp_mSet, wp_mRet, wp_mDrop, wp_mNx, wp_mPar, wp_parF, wp_mB, wp_mBin, wp_mUn, wp_mCall, wp_mFn, wp_mNil, wp_mCons, wp_mTup, wp_mLst, wp_mIf, wp_mAndV, wp_mOrV, wp_mNotV, wp_mIsN, wp_mNotN, wp_asB, wp_asI, wp_mTru, wp_truB, wp_mAnd, wp_mOr, wp_mNot, wp_mYes, wp_mPart, wp_mSl, wp_mVs, wp_mV0, wp_mC, wp_ret, wp_sub, wp_addI, wp_lt, wp_le, wp_gt, wp_ge, wp_neg, wp_eqS, wp_lenT, wp_lenL, wp_tupT, wp_tupL, Bool.not_true, Bool.not_false, Bool.false_eq_true, if_true, if_false, isI, inD, lets_fn h, Bool.true_and]
          (first | exact ⟨trivial, trivial⟩ | exact ⟨rfl, trivial⟩ | exact ⟨trivial, rfl⟩ | exact ⟨rfl, rfl⟩)
        all_goals
          simp only [List.set_cons_succ, List.set_cons_zero, wipeR, wp_mSeq, wp_mIfS, wp_mSet, wp_mRet, wp_mDrop, wp_mNx, wp_mPar, wp_parF, wp_mB, wp_mBin, wp_mUn, wp_mCall, wp_mFn, wp_mNil, wp_mCons, wp_mTup, wp_mLst, wp_mIf, wp_mAndV, wp_mOrV, wp_mNotV, wp_mIsN, wp_mNotN, wp_asB, wp_asI, wp_mTru, wp_truB, wp_mAnd, wp_mOr, wp_mNot, wp_mYes, wp_mPart, wp_mSl, wp_mVs, wp_mV0, wp_mC, wp_ret, wp_sub, wp_addI, wp_lt, wp_le, wp_gt, wp_ge, wp_neg, wp_eqS, wp_lenT, wp_lenL, wp_tupT, wp_tupL, Bool.not_true, Bool.not_false, Bool.false_eq_true, if_true, if_false, isI, Bool.false_and]
          (first | exact ⟨trivial, trivial⟩ | exact ⟨rfl, trivial⟩ | exact ⟨trivial, rfl⟩ | exact ⟨rfl, rfl⟩)
      rw [filt_true, wp_lim (by rw [List.length_map, List.length_zip]; omega)]
      have al : ∀ (S : Sto) (Q : D → Sto → Prop), Wp (allM [.lst ((q.cols.zip ds).map fun p => D.bl (isI p.2 && inD (rgOf q.rs p.1) p.2))]) S Q ↔ Q (.bl ((q.cols.zip ds).all fun p => isI p.2 && inD (rgOf q.rs p.1) p.2)) S := fun S Q => wp_some (by
        unfold allM itemsL
        simp only
        rw [bools_map]
        simp only [Option.map_some, List.all_map]
        rfl)
      simp only [List.set_cons_succ, List.set_cons_zero, wipeR, wp_mSeq, wp_mIfS, wp_mSet, wp_mRet, wp_mDrop, wp_mNx, wp_mPar, wp_parF, wp_mB, wp_mBin, wp_mUn, wp_mCall, wp_mFn, wp_mNil, wp_mCons, wp_mTup, wp_mLst, wp_mIf, wp_mAndV, wp_mOrV, wp_mNotV, wp_mIsN, wp_mNotN, wp_asB, wp_asI, wp_mTru, wp_truB, wp_mAnd, wp_mOr, wp_mNot, wp_mYes, wp_mPart, wp_mSl, wp_mVs, wp_mV0, wp_mC, wp_ret, wp_sub, wp_addI, wp_lt, wp_le, wp_gt, wp_ge, wp_neg, wp_eqS, wp_lenT, wp_lenL, wp_tupT, wp_tupL, Bool.not_true, Bool.not_false, Bool.false_eq_true, if_true, if_false, al]
      exact ⟨by rw [isPt_tup, hc, Bool.true_and], trivial⟩
  · simp only [List.set_cons_succ, List.set_cons_zero, wipeR, wp_mSeq, wp_mIfS, wp_mSet, wp_mRet, wp_mDrop, wp_mNx, wp_mPar, wp_parF, wp_mB, wp_mBin, wp_mUn, wp_mCall, wp_mFn, wp_mNil, wp_mCons, wp_mTup, wp_mLst, wp_mIf, wp_mAndV, wp_mOrV, wp_mNotV, wp_mIsN, wp_mNotN, wp_asB, wp_asI, wp_mTru, wp_truB, wp_mAnd, wp_mOr, wp_mNot, wp_mYes, wp_mPart, wp_mSl, wp_mVs, wp_mV0, wp_mC, wp_ret, wp_sub, wp_addI, wp_lt, wp_le, wp_gt, wp_ge, wp_neg, wp_eqS, wp_lenT, wp_lenL, wp_tupT, wp_tupL, Bool.not_true, Bool.not_false, Bool.false_eq_true, if_true, if_false, iq0, hi]
    exact ⟨by rw [isPt_no hn], trivial⟩
theorem law_point_fn {q : Qu} {d : D} (h : OkQ q) (t : Th d) : Wp (if [qD q, d].length = P_law_is_point.length then d_law_is_point [qD q, d] else fail) S Q ↔ Q (.bl (isPt q d)) S := by
  rw [if_pos (show [qD q, d].length = P_law_is_point.length from rfl)]
  refine wp_some (eqOf ?_)
  unfold d_law_is_point
  rw [wp_def, show startR N_law_is_point.length [qD q, d] = [some (qD q), some d, none, none, none] from rfl]
  unfold b_law_is_point
  rcases t.ty with ⟨ds, rfl, hl, hE⟩ | ⟨hn, hi⟩
  · cases hc : (ds.length == q.cols.length) with
    | false =>
      have hc' : ((ds.length : Int) == (q.cols.length : Int)) = false := by
        have := of_decide_eq_false (p := ds.length = q.cols.length) (by simpa using hc)
        rw [beq_eq_false_iff_ne]; omega
      simp only [List.set_cons_succ, List.set_cons_zero, wipeR, wp_mSeq, wp_mIfS, wp_mSet, wp_mRet, wp_mDrop, wp_mNx, wp_mPar, wp_parF, wp_mB, wp_mBin, wp_mUn, wp_mCall, wp_mFn, wp_mNil, wp_mCons, wp_mTup, wp_mLst, wp_mIf, wp_mAndV, wp_mOrV, wp_mNotV, wp_mIsN, wp_mNotN, wp_asB, wp_asI, wp_mTru, wp_truB, wp_mAnd, wp_mOr, wp_mNot, wp_mYes, wp_mPart, wp_mSl, wp_mVs, wp_mV0, wp_mC, wp_ret, wp_sub, wp_addI, wp_lt, wp_le, wp_gt, wp_ge, wp_neg, wp_eqS, wp_lenT, wp_lenL, wp_tupT, wp_tupL, Bool.not_true, Bool.not_false, Bool.false_eq_true, if_true, if_false, iq0, isi_tup, ne_int, List.length_map, hc']
      exact ⟨by rw [isPt_tup, hc]; rfl, trivial⟩
    | true =>
      have hc2 : ds.length = q.cols.length := by simpa using hc
      have hc' : ((ds.length : Int) == (q.cols.length : Int)) = true := by
        rw [hc2]; exact beq_self_eq_true _
      simp only [List.set_cons_succ, List.set_cons_zero, wipeR, wp_mSeq, wp_mIfS, wp_mSet, wp_mRet, wp_mDrop, wp_mNx, wp_mPar, wp_parF, wp_mB, wp_mBin, wp_mUn, wp_mCall, wp_mFn, wp_mNil, wp_mCons, wp_mTup, wp_mLst, wp_mIf, wp_mAndV, wp_mOrV, wp_mNotV, wp_mIsN, wp_mNotN, wp_asB, wp_asI, wp_mTru, wp_truB, wp_mAnd, wp_mOr, wp_mNot, wp_mYes, wp_mPart, wp_mSl, wp_mVs, wp_mV0, wp_mC, wp_ret, wp_sub, wp_addI, wp_lt, wp_le, wp_gt, wp_ge, wp_neg, wp_eqS, wp_lenT, wp_lenL, wp_tupT, wp_tupL, Bool.not_true, Bool.not_false, Bool.false_eq_true, if_true, if_false, iq0, isi_tup, ne_int, List.length_map, hc', wp_mLc, wp_mISeq, src_tup]
      refine (lcD (t := fun d => !isI d) (f := fun _ => D.int 1) (l := ds) srcOk_nil fun d hd => ⟨[some (qD q), some (.tup ds), some d, none, none], rfl, ?_, fun _ => ?_⟩).mpr ?_
      · simp only [List.set_cons_succ, List.set_cons_zero, wipeR, wp_mSeq, wp_mIfS, wp_mSet, wp_mRet, wp_mDrop, wp_mNx, wp_mPar, wp_parF, wp_mB, wp_mBin, wp_mUn, wp_mCall, wp_mFn, wp_mNil, wp_mCons, wp_mTup, wp_mLst, wp_mIf, wp_mAndV, wp_mOrV, wp_mNotV, wp_mIsN, wp_mNotN, wp_asB, wp_asI, wp_mTru, wp_truB, wp_mAnd, wp_mOr, wp_mNot, wp_mYes, wp_mPart, wp_mSl, wp_mVs, wp_mV0, wp_mC, wp_ret, wp_sub, wp_addI, wp_lt, wp_le, wp_gt, wp_ge, wp_neg, wp_eqS, wp_lenT, wp_lenL, wp_tupT, wp_tupL, Bool.not_true, Bool.not_false, Bool.false_eq_true, if_true, if_false, law_int_fn (hE d hd)]
        (first | exact ⟨trivial, trivial⟩ | exact ⟨rfl, trivial⟩ | exact ⟨trivial, rfl⟩ | exact ⟨rfl, rfl⟩)
      · simp only [List.set_cons_succ, List.set_cons_zero, wipeR, wp_mSeq, wp_mIfS, wp_mSet, wp_mRet, wp_mDrop, wp_mNx, wp_mPar, wp_parF, wp_mB, wp_mBin, wp_mUn, wp_mCall, wp_mFn, wp_mNil, wp_mCons, wp_mTup, wp_mLst, wp_mIf, wp_mAndV, wp_mOrV, wp_mNotV, wp_mIsN, wp_mNotN, wp_asB, wp_asI, wp_mTru, wp_truB, wp_mAnd, wp_mOr, wp_mNot, wp_mYes, wp_mPart, wp_mSl, wp_mVs, wp_mV0, wp_mC, wp_ret, wp_sub, wp_addI, wp_lt, wp_le, wp_gt, wp_ge, wp_neg, wp_eqS, wp_lenT, wp_lenL, wp_tupT, wp_tupL, Bool.not_true, Bool.not_false, Bool.false_eq_true, if_true, if_false]
        (first | exact ⟨trivial, trivial⟩ | exact ⟨rfl, trivial⟩ | exact ⟨trivial, rfl⟩ | exact ⟨rfl, rfl⟩)
      rw [wp_lim (by rw [List.length_map]; exact Nat.le_trans (List.length_filter_le _ _) (by omega))]
      simp only [List.set_cons_succ, List.set_cons_zero, wipeR, wp_mSeq, wp_mIfS, wp_mSet, wp_mRet, wp_mDrop, wp_mNx, wp_mPar, wp_parF, wp_mB, wp_mBin, wp_mUn, wp_mCall, wp_mFn, wp_mNil, wp_mCons, wp_mTup, wp_mLst, wp_mIf, wp_mAndV, wp_mOrV, wp_mNotV, wp_mIsN, wp_mNotN, wp_asB, wp_asI, wp_mTru, wp_truB, wp_mAnd, wp_mOr, wp_mNot, wp_mYes, wp_mPart, wp_mSl, wp_mVs, wp_mV0, wp_mC, wp_ret, wp_sub, wp_addI, wp_lt, wp_le, wp_gt, wp_ge, wp_neg, wp_eqS, wp_lenT, wp_lenL, wp_tupT, wp_tupL, Bool.not_true, Bool.not_false, Bool.false_eq_true, if_true, if_false, ml0, ones_ne]
      cases he : (ds.filter fun d => !isI d).isEmpty with
      | false =>
        simp only [List.set_cons_succ, List.set_cons_zero, wipeR, wp_mSeq, wp_mIfS, wp_mSet, wp_mRet, wp_mDrop, wp_mNx, wp_mPar, wp_parF, wp_mB, wp_mBin, wp_mUn, wp_mCall, wp_mFn, wp_mNil, wp_mCons, wp_mTup, wp_mLst, wp_mIf, wp_mAndV, wp_mOrV, wp_mNotV, wp_mIsN, wp_mNotN, wp_asB, wp_asI, wp_mTru, wp_truB, wp_mAnd, wp_mOr, wp_mNot, wp_mYes, wp_mPart, wp_mSl, wp_mVs, wp_mV0, wp_mC, wp_ret, wp_sub, wp_addI, wp_lt, wp_le, wp_gt, wp_ge, wp_neg, wp_eqS, wp_lenT, wp_lenL, wp_tupT, wp_tupL, Bool.not_true, Bool.not_false, Bool.false_eq_true, if_true, if_false]
        refine ⟨?_, trivial⟩
        rw [isPt_tup, hc, Bool.true_and]
        obtain ⟨d, hd⟩ : ∃ d, d ∈ ds.filter fun d => !isI d := by
          cases hf : ds.filter fun d => !isI d with
          | nil => rw [hf] at he; cases he
          | cons x l => exact ⟨x, List.mem_cons_self⟩
        obtain ⟨hd1, hd2⟩ := List.mem_filter.mp hd
        obtain ⟨k, hk, rfl⟩ := List.getElem_of_mem hd1
        have hz : (q.cols[k]'(by omega), ds[k]) ∈ q.cols.zip ds := by
          refine List.mem_iff_getElem.mpr ⟨k, by rw [List.length_zip]; omega, ?_⟩
          rw [List.getElem_zip]
        congr 1
        symm
        rw [List.all_eq_false]
        refine ⟨_, hz, ?_⟩
        have : isI ds[k] = false := by simpa using hd2
        simp [this]
      | true =>
        have hall : ∀ d ∈ ds, isI d = true := fun d hd => by
          cases hx : isI d with
          | true => rfl
          | false =>
            have : d ∈ ds.filter fun d => !isI d := List.mem_filter.mpr ⟨hd, by rw [hx]; rfl⟩
            rw [List.isEmpty_iff.mp he] at this
            cases this
        simp only [List.set_cons_succ, List.set_cons_zero, wipeR, wp_mSeq, wp_mIfS, wp_mSet, wp_mRet, wp_mDrop, wp_mNx, wp_mPar, wp_parF, wp_mB, wp_mBin, wp_mUn, wp_mCall, wp_mFn, wp_mNil, wp_mCons, wp_mTup, wp_mLst, wp_mIf, wp_mAndV, wp_mOrV, wp_mNotV, wp_mIsN, wp_mNotN, wp_asB, wp_asI, wp_mTru, wp_truB, wp_mAnd, wp_mOr, wp_mNot, wp_mYes, wp_mPart, wp_mSl, wp_mVs, wp_mV0, wp_mC, wp_ret, wp_sub, wp_addI, wp_lt, wp_le, wp_gt, wp_ge, wp_neg, wp_eqS, wp_lenT, wp_lenL, wp_tupT, wp_tupL, Bool.not_true, Bool.not_false, Bool.false_eq_true, if_true, if_false, iq0, wp_mLc, wp_bnd, zip_tt, pairs_cs]
        refine (lcA (t := fun p : Str × D => !inD (rgOf q.rs p.1) p.2) (f := fun _ => D.int 1) (c := fun p : Str × D => D.tup [.str p.1, p.2]) (l := q.cols.zip ds) srcOk_nil fun p hp => ⟨[some (qD q), some (.tup ds), none, some (.str p.1), some p.2], rfl, ?_, fun _ => ?_⟩).mpr ?_
        · obtain ⟨c, v⟩ := p
          have hv := hall v (List.of_mem_zip hp).2
          cases v with
          | int i =>
            simp only [List.set_cons_succ, List.set_cons_zero, wipeR, wp_mSeq, wp_mIfS, wp_mSet, wp_mRet, wp_mDrop, wp_mNx, wp_mPar, wp_parF, wp_mB, wp_mBin, wp_mUn, wp_mCall, wp_mFn, wp_mNil, wp_mCons, wp_mTup, wp_mLst, wp_mIf, wp_mAndV, wp_mOrV, wp_mNotV, wp_mIsN, wp_mNotN, wp_asB, wp_asI, wp_mTru, wp_truB, wp_mAnd, wp_mOr, wp_mNot, wp_mYes, wp_mPart, wp_mSl, wp_mVs, wp_mV0, wp_mC, wp_ret, wp_sub, wp_addI, wp_lt, wp_le, wp_gt, wp_ge, wp_neg, wp_eqS, wp_lenT, wp_lenL, wp_tupT, wp_tupL, Bool.not_true, Bool.not_false, Bool.false_eq_true, if_true, if_false, law_in_fn h, inD]
            (first | exact ⟨trivial, trivial⟩ | exact ⟨rfl, trivial⟩ | exact ⟨trivial, rfl⟩ | exact ⟨rfl, rfl⟩)
          | _ => cases hv
        · simp only [List.set_cons_succ, List.set_cons_zero, wipeR, wp_mSeq, wp_mIfS, wp_mSet, wp_mRet, wp_mDrop, wp_mNx, wp_mPar, wp_parF, wp_mB, wp_mBin, wp_mUn, wp_mCall, wp_mFn, wp_mNil, wp_mCons, wp_mTup, wp_mLst, wp_mIf, wp_mAndV, wp_mOrV, wp_mNotV, wp_mIsN, wp_mNotN, wp_asB, wp_asI, wp_mTru, wp_truB, wp_mAnd, wp_mOr, wp_mNot, wp_mYes, wp_mPart, wp_mSl, wp_mVs, wp_mV0, wp_mC, wp_ret, wp_sub, wp_addI, wp_lt, wp_le, wp_gt, wp_ge, wp_neg, wp_eqS, wp_lenT, wp_lenL, wp_tupT, wp_tupL, Bool.not_true, Bool.not_false, Bool.false_eq_true, if_true, if_false]
          (first | exact ⟨trivial, trivial⟩ | exact ⟨rfl, trivial⟩ | exact ⟨trivial, rfl⟩ | exact ⟨rfl, rfl⟩)
        rw [wp_lim (by rw [List.length_map]; exact Nat.le_trans (List.length_filter_le _ _) (by rw [List.length_zip]; omega))]
        simp only [List.set_cons_succ, List.set_cons_zero, wipeR, wp_mSeq, wp_mIfS, wp_mSet, wp_mRet, wp_mDrop, wp_mNx, wp_mPar, wp_parF, wp_mB, wp_mBin, wp_mUn, wp_mCall, wp_mFn, wp_mNil, wp_mCons, wp_mTup, wp_mLst, wp_mIf, wp_mAndV, wp_mOrV, wp_mNotV, wp_mIsN, wp_mNotN, wp_asB, wp_asI, wp_mTru, wp_truB, wp_mAnd, wp_mOr, wp_mNot, wp_mYes, wp_mPart, wp_mSl, wp_mVs, wp_mV0, wp_mC, wp_ret, wp_sub, wp_addI, wp_lt, wp_le, wp_gt, wp_ge, wp_neg, wp_eqS, wp_lenT, wp_lenL, wp_tupT, wp_tupL, Bool.not_true, Bool.not_false, Bool.false_eq_true, if_true, if_false, ml0, ones_eqN]
        refine ⟨?_, trivial⟩
        rw [isPt_tup, hc, Bool.true_and]
        congr 1
        rw [Bool.eq_iff_iff, List.isEmpty_iff, List.filter_eq_nil_iff, List.all_eq_true]
        constructor
        · intro hh p hp
          rw [hall p.2 (List.of_mem_zip hp).2, Bool.true_and]
          simpa using hh p hp
        · intro hh p hp
          have := hh p hp
          rw [hall p.2 (List.of_mem_zip hp).2, Bool.true_and] at this
          simp [this]
  · simp only [List.set_cons_succ, List.set_cons_zero, wipeR, wp_mSeq, wp_mIfS, wp_mSet, wp_mRet, wp_mDrop, wp_mNx, wp_mPar, wp_parF, wp_mB, wp_mBin, wp_mUn, wp_mCall, wp_mFn, wp_mNil, wp_mCons, wp_mTup, wp_mLst, wp_mIf, wp_mAndV, wp_mOrV, wp_mNotV, wp_mIsN, wp_mNotN, wp_asB, wp_asI, wp_mTru, wp_truB, wp_mAnd, wp_mOr, wp_mNot, wp_mYes, wp_mPart, wp_mSl, wp_mVs, wp_mV0, wp_mC, wp_ret, wp_sub, wp_addI, wp_lt, wp_le, wp_gt, wp_ge, wp_neg, wp_eqS, wp_lenT, wp_lenL, wp_tupT, wp_tupL, Bool.not_true, Bool.not_false, Bool.false_eq_true, if_true, if_false, iq0, hi]
    exact ⟨by rw [isPt_no hn], trivial⟩
/-! ### names, parts -/
theorem names_srt {q : Qu} (h : OkQ q) : ∃ l : List Str, l.length ≤ 9 ∧ (∀ x ∈ l, Sm x) ∧ sortL (q.atoms.map fun a => D.str a.t) = some (l.map .str) := by
  obtain ⟨l, hp, e⟩ := sortL_strs (l := q.atoms.map Atom.t) fun x hx => by
    obtain ⟨a, ha, rfl⟩ := List.mem_map.mp hx
    exact (h.ok a ha).1.2.1.1
  rw [List.map_map] at e
  refine ⟨l, by rw [hp.length_eq, List.length_map]; exact h.a, fun x hx => ?_, e⟩
  obtain ⟨a, ha, rfl⟩ := List.mem_map.mp (hp.mem_iff.mp hx)
  exact (h.ok a ha).1.2.1
theorem at1 {x : Atom} : Wp (ixM (atomD x) (.int 1)) S Q ↔ Q (.str x.t) S := wp_ixT rfl
theorem at2 {x : Atom} : Wp (ixM (atomD x) (.int 2)) S Q ↔ Q (.tup (x.cs.map .str)) S := wp_ixT rfl
theorem srt_wp {l : List D} {r : List D} (h : sortL l = some r) : Wp (sortM [.lst l]) S Q ↔ Q (.lst r) S := wp_some (by unfold sortM items; simp only [h]; rfl)
theorem names_fn {q : Qu} {l : List Str} (h : OkQ q) (e : sortL (q.atoms.map fun a => D.str a.t) = some (l.map .str)) : Wp (if [qD q].length = P_names_of.length then d_names_of [qD q] else fail) S Q ↔ Q (.tup (l.map .str)) S := by
  rw [if_pos (show [qD q].length = P_names_of.length from rfl)]
  refine wp_some (eqOf ?_)
  unfold d_names_of
  rw [wp_def, show startR N_names_of.length [qD q] = [some (qD q), none] from rfl]
  unfold b_names_of
  simp only [List.set_cons_succ, List.set_cons_zero, wipeR, wp_mSeq, wp_mIfS, wp_mSet, wp_mRet, wp_mDrop, wp_mNx, wp_mPar, wp_parF, wp_mB, wp_mBin, wp_mUn, wp_mCall, wp_mFn, wp_mNil, wp_mCons, wp_mTup, wp_mLst, wp_mIf, wp_mAndV, wp_mOrV, wp_mNotV, wp_mIsN, wp_mNotN, wp_asB, wp_asI, wp_mTru, wp_truB, wp_mAnd, wp_mOr, wp_mNot, wp_mYes, wp_mPart, wp_mSl, wp_mVs, wp_mV0, wp_mC, wp_ret, wp_sub, wp_addI, wp_lt, wp_le, wp_gt, wp_ge, wp_neg, wp_eqS, wp_lenT, wp_lenL, wp_tupT, wp_tupL, Bool.not_true, Bool.not_false, Bool.false_eq_true, if_true, if_false, wp_mLc, wp_mISeq, iq1, src_tup]
  refine (lcA (t := fun _ => true) (f := fun a : Atom => D.str a.t) (c := atomD) (l := q.atoms) srcOk_nil fun a ha => ⟨[some (qD q), some (atomD a)], rfl, ?_, fun _ => ?_⟩).mpr ?_
  · simp only [List.set_cons_succ, List.set_cons_zero, wipeR, wp_mSeq, wp_mIfS, wp_mSet, wp_mRet, wp_mDrop, wp_mNx, wp_mPar, wp_parF, wp_mB, wp_mBin, wp_mUn, wp_mCall, wp_mFn, wp_mNil, wp_mCons, wp_mTup, wp_mLst, wp_mIf, wp_mAndV, wp_mOrV, wp_mNotV, wp_mIsN, wp_mNotN, wp_asB, wp_asI, wp_mTru, wp_truB, wp_mAnd, wp_mOr, wp_mNot, wp_mYes, wp_mPart, wp_mSl, wp_mVs, wp_mV0, wp_mC, wp_ret, wp_sub, wp_addI, wp_lt, wp_le, wp_gt, wp_ge, wp_neg, wp_eqS, wp_lenT, wp_lenL, wp_tupT, wp_tupL, Bool.not_true, Bool.not_false, Bool.false_eq_true, if_true, if_false]
    (first | exact ⟨trivial, trivial⟩ | exact ⟨rfl, trivial⟩ | exact ⟨trivial, rfl⟩ | exact ⟨rfl, rfl⟩)
  · simp only [List.set_cons_succ, List.set_cons_zero, wipeR, wp_mSeq, wp_mIfS, wp_mSet, wp_mRet, wp_mDrop, wp_mNx, wp_mPar, wp_parF, wp_mB, wp_mBin, wp_mUn, wp_mCall, wp_mFn, wp_mNil, wp_mCons, wp_mTup, wp_mLst, wp_mIf, wp_mAndV, wp_mOrV, wp_mNotV, wp_mIsN, wp_mNotN, wp_asB, wp_asI, wp_mTru, wp_truB, wp_mAnd, wp_mOr, wp_mNot, wp_mYes, wp_mPart, wp_mSl, wp_mVs, wp_mV0, wp_mC, wp_ret, wp_sub, wp_addI, wp_lt, wp_le, wp_gt, wp_ge, wp_neg, wp_eqS, wp_lenT, wp_lenL, wp_tupT, wp_tupL, Bool.not_true, Bool.not_false, Bool.false_eq_true, if_true, if_false, at1]
    (first | exact ⟨trivial, trivial⟩ | exact ⟨rfl, trivial⟩ | exact ⟨trivial, rfl⟩ | exact ⟨rfl, rfl⟩)
  rw [filt_true, wp_lim (by rw [List.length_map]; have := h.a; omega)]
  simp only [List.set_cons_succ, List.set_cons_zero, wipeR, wp_mSeq, wp_mIfS, wp_mSet, wp_mRet, wp_mDrop, wp_mNx, wp_mPar, wp_parF, wp_mB, wp_mBin, wp_mUn, wp_mCall, wp_mFn, wp_mNil, wp_mCons, wp_mTup, wp_mLst, wp_mIf, wp_mAndV, wp_mOrV, wp_mNotV, wp_mIsN, wp_mNotN, wp_asB, wp_asI, wp_mTru, wp_truB, wp_mAnd, wp_mOr, wp_mNot, wp_mYes, wp_mPart, wp_mSl, wp_mVs, wp_mV0, wp_mC, wp_ret, wp_sub, wp_addI, wp_lt, wp_le, wp_gt, wp_ge, wp_neg, wp_eqS, wp_lenT, wp_lenL, wp_tupT, wp_tupL, Bool.not_true, Bool.not_false, Bool.false_eq_true, if_true, if_false, srt_wp e]
  (first | exact ⟨trivial, trivial⟩ | exact ⟨rfl, trivial⟩ | exact ⟨trivial, rfl⟩ | exact ⟨rfl, rfl⟩)
def ixOf (cs : List Str) (c : Str) : Nat := cs.findIdx fun y => decide (y = c)
theorem ixOf_lt {cs : List Str} {c : Str} (h : c ∈ cs) : ixOf cs c < cs.length := List.findIdx_lt_length_of_exists ⟨c, h, by simp⟩
theorem idxT_wp {cs : List Str} {c : Str} (h : c ∈ cs) : Wp (idxT (cs.map .str) [.str c]) S Q ↔ Q (.int (ixOf cs c : Nat)) S := wp_some (by
  unfold idxT
  rw [strsOf_map]
  simp only
  have : cs.findIdx? (fun y => decide (y = c)) = some (ixOf cs c) := List.findIdx?_eq_some_iff_findIdx_eq.mpr ⟨ixOf_lt h, rfl⟩
  rw [this])
def partD (q : Qu) (x : Atom) (l : List Int) : D := .tup (x.cs.map fun c => D.int (l.getD (ixOf q.cols c) 0))
theorem ixP {l : List Int} {k : Nat} (h : k < l.length) : Wp (ixM (.tup (l.map .int)) (.int (k : Nat))) S Q ↔ Q (.int (l.getD k 0)) S := wp_ixT (at_nat (by
  rw [List.getElem?_map, List.getElem?_eq_getElem h]
  simp [List.getD, List.getElem?_eq_getElem h]))
theorem part_fn {q : Qu} {k : Nat} {x : Atom} {l : List Int} (h : OkQ q) (hx : q.atoms[k]? = some x) (hl : l.length = q.cols.length) : Wp (if [qD q, .int (k : Nat), .tup (l.map .int)].length = P_part_of.length then d_part_of [qD q, .int (k : Nat), .tup (l.map .int)] else fail) S Q ↔ Q (partD q x l) S := by
  rw [if_pos (show [qD q, D.int (k : Nat), D.tup (l.map .int)].length = P_part_of.length from rfl)]
  refine wp_some (eqOf ?_)
  unfold d_part_of
  rw [wp_def, show startR N_part_of.length [qD q, .int (k : Nat), .tup (l.map .int)] = [some (qD q), some (.int (k : Nat)), some (.tup (l.map .int)), none] from rfl]
  unfold b_part_of
  have ixa : ∀ (S : Sto) (Q : D → Sto → Prop), Wp (ixM (.tup (q.atoms.map atomD)) (.int (k : Nat))) S Q ↔ Q (atomD x) S := fun S Q => wp_ixT (at_nat (by rw [List.getElem?_map, hx]; rfl))
  have hA := h.ok x (List.mem_of_getElem? hx)
  simp only [List.set_cons_succ, List.set_cons_zero, wipeR, wp_mSeq, wp_mIfS, wp_mSet, wp_mRet, wp_mDrop, wp_mNx, wp_mPar, wp_parF, wp_mB, wp_mBin, wp_mUn, wp_mCall, wp_mFn, wp_mNil, wp_mCons, wp_mTup, wp_mLst, wp_mIf, wp_mAndV, wp_mOrV, wp_mNotV, wp_mIsN, wp_mNotN, wp_asB, wp_asI, wp_mTru, wp_truB, wp_mAnd, wp_mOr, wp_mNot, wp_mYes, wp_mPart, wp_mSl, wp_mVs, wp_mV0, wp_mC, wp_ret, wp_sub, wp_addI, wp_lt, wp_le, wp_gt, wp_ge, wp_neg, wp_eqS, wp_lenT, wp_lenL, wp_tupT, wp_tupL, Bool.not_true, Bool.not_false, Bool.false_eq_true, if_true, if_false, wp_mLc, wp_mISeq, iq1, ixa, at2, src_tup]
  refine (lcA (t := fun _ => true) (f := fun c : Str => D.int (l.getD (ixOf q.cols c) 0)) (c := D.str) (l := x.cs) srcOk_nil fun c hc => ⟨[some (qD q), some (.int (k : Nat)), some (.tup (l.map .int)), some (.str c)], rfl, ?_, fun _ => ?_⟩).mpr ?_
  · simp only [List.set_cons_succ, List.set_cons_zero, wipeR, wp_mSeq, wp_mIfS, wp_mSet, wp_mRet, wp_mDrop, wp_mNx, wp_mPar, wp_parF, wp_mB, wp_mBin, wp_mUn, wp_mCall, wp_mFn, wp_mNil, wp_mCons, wp_mTup, wp_mLst, wp_mIf, wp_mAndV, wp_mOrV, wp_mNotV, wp_mIsN, wp_mNotN, wp_asB, wp_asI, wp_mTru, wp_truB, wp_mAnd, wp_mOr, wp_mNot, wp_mYes, wp_mPart, wp_mSl, wp_mVs, wp_mV0, wp_mC, wp_ret, wp_sub, wp_addI, wp_lt, wp_le, wp_gt, wp_ge, wp_neg, wp_eqS, wp_lenT, wp_lenL, wp_tupT, wp_tupL, Bool.not_true, Bool.not_false, Bool.false_eq_true, if_true, if_false]
    (first | exact ⟨trivial, trivial⟩ | exact ⟨rfl, trivial⟩ | exact ⟨trivial, rfl⟩ | exact ⟨rfl, rfl⟩)
  · have hm := hA.2 c hc
    simp only [List.set_cons_succ, List.set_cons_zero, wipeR, wp_mSeq, wp_mIfS, wp_mSet, wp_mRet, wp_mDrop, wp_mNx, wp_mPar, wp_parF, wp_mB, wp_mBin, wp_mUn, wp_mCall, wp_mFn, wp_mNil, wp_mCons, wp_mTup, wp_mLst, wp_mIf, wp_mAndV, wp_mOrV, wp_mNotV, wp_mIsN, wp_mNotN, wp_asB, wp_asI, wp_mTru, wp_truB, wp_mAnd, wp_mOr, wp_mNot, wp_mYes, wp_mPart, wp_mSl, wp_mVs, wp_mV0, wp_mC, wp_ret, wp_sub, wp_addI, wp_lt, wp_le, wp_gt, wp_ge, wp_neg, wp_eqS, wp_lenT, wp_lenL, wp_tupT, wp_tupL, Bool.not_true, Bool.not_false, Bool.false_eq_true, if_true, if_false, wp_tidx, iq0, tidx_tup, idxT_wp hm, ixP (show ixOf q.cols c < l.length by rw [hl]; exact ixOf_lt hm)]
    (first | exact ⟨trivial, trivial⟩ | exact ⟨rfl, trivial⟩ | exact ⟨trivial, rfl⟩ | exact ⟨rfl, rfl⟩)
  rw [filt_true, wp_lim (by rw [List.length_map]; have := hA.1.2.2.1; omega)]
  simp only [List.set_cons_succ, List.set_cons_zero, wipeR, wp_mSeq, wp_mIfS, wp_mSet, wp_mRet, wp_mDrop, wp_mNx, wp_mPar, wp_parF, wp_mB, wp_mBin, wp_mUn, wp_mCall, wp_mFn, wp_mNil, wp_mCons, wp_mTup, wp_mLst, wp_mIf, wp_mAndV, wp_mOrV, wp_mNotV, wp_mIsN, wp_mNotN, wp_asB, wp_asI, wp_mTru, wp_truB, wp_mAnd, wp_mOr, wp_mNot, wp_mYes, wp_mPart, wp_mSl, wp_mVs, wp_mV0, wp_mC, wp_ret, wp_sub, wp_addI, wp_lt, wp_le, wp_gt, wp_ge, wp_neg, wp_eqS, wp_lenT, wp_lenL, wp_tupT, wp_tupL, Bool.not_true, Bool.not_false, Bool.false_eq_true, if_true, if_false]
  (first | exact ⟨trivial, trivial⟩ | exact ⟨rfl, trivial⟩ | exact ⟨trivial, rfl⟩ | exact ⟨rfl, rfl⟩)
theorem law_part_fn {q : Qu} {k : Nat} {x : Atom} {l : List Int} (h : OkQ q) (hx : q.atoms[k]? = some x) (hl : l.length = q.cols.length) : Wp (if [qD q, .int (k : Nat), .tup (l.map .int)].length = P_law_part.length then d_law_part [qD q, .int (k : Nat), .tup (l.map .int)] else fail) S Q ↔ Q (partD q x l) S := by
  rw [if_pos (show [qD q, D.int (k : Nat), D.tup (l.map .int)].length = P_law_part.length from rfl)]
  refine wp_some (eqOf ?_)
  unfold d_law_part
  rw [wp_def, show startR N_law_part.length [qD q, .int (k : Nat), .tup (l.map .int)] = [some (qD q), some (.int (k : Nat)), some (.tup (l.map .int)), none] from rfl]
  unfold b_law_part
  have ixa : ∀ (S : Sto) (Q : D → Sto → Prop), Wp (ixM (.tup (q.atoms.map atomD)) (.int (k : Nat))) S Q ↔ Q (atomD x) S := fun S Q => wp_ixT (at_nat (by rw [List.getElem?_map, hx]; rfl))
  have hA := h.ok x (List.mem_of_getElem? hx)
  simp only [List.set_cons_succ, List.set_cons_zero, wipeR, wp_mSeq, wp_mIfS, wp_mSet, wp_mRet, wp_mDrop, wp_mNx, wp_mPar, wp_parF, wp_mB, wp_mBin, wp_mUn, wp_mCall, wp_mFn, wp_mNil, wp_mCons, wp_mTup, wp_mLst, wp_mIf, wp_mAndV, wp_mOrV, wp_mNotV, wp_mIsN, wp_mNotN, wp_asB, wp_asI, wp_mTru, wp_truB, wp_mAnd, wp_mOr, wp_mNot, wp_mYes, wp_mPart, wp_mSl, wp_mVs, wp_mV0, wp_mC, wp_ret, wp_sub, wp_addI, wp_lt, wp_le, wp_gt, wp_ge, wp_neg, wp_eqS, wp_lenT, wp_lenL, wp_tupT, wp_tupL, Bool.not_true, Bool.not_false, Bool.false_eq_true, if_true, if_false, wp_mLc, wp_mISeq, iq1, ixa, at2, src_tup]
  refine (lcA (t := fun _ => true) (f := fun c : Str => D.int (l.getD (ixOf q.cols c) 0)) (c := D.str) (l := x.cs) srcOk_nil fun c hc => ⟨[some (qD q), some (.int (k : Nat)), some (.tup (l.map .int)), some (.str c)], rfl, ?_, fun _ => ?_⟩).mpr ?_
  · simp only [List.set_cons_succ, List.set_cons_zero, wipeR, wp_mSeq, wp_mIfS, wp_mSet, wp_mRet, wp_mDrop, wp_mNx, wp_mPar, wp_parF, wp_mB, wp_mBin, wp_mUn, wp_mCall, wp_mFn, wp_mNil, wp_mCons, wp_mTup, wp_mLst, wp_mIf, wp_mAndV, wp_mOrV, wp_mNotV, wp_mIsN, wp_mNotN, wp_asB, wp_asI, wp_mTru, wp_truB, wp_mAnd, wp_mOr, wp_mNot, wp_mYes, wp_mPart, wp_mSl, wp_mVs, wp_mV0, wp_mC, wp_ret, wp_sub, wp_addI, wp_lt, wp_le, wp_gt, wp_ge, wp_neg, wp_eqS, wp_lenT, wp_lenL, wp_tupT, wp_tupL, Bool.not_true, Bool.not_false, Bool.false_eq_true, if_true, if_false]
    (first | exact ⟨trivial, trivial⟩ | exact ⟨rfl, trivial⟩ | exact ⟨trivial, rfl⟩ | exact ⟨rfl, rfl⟩)
  · have hm := hA.2 c hc
    simp only [List.set_cons_succ, List.set_cons_zero, wipeR, wp_mSeq, wp_mIfS, wp_mSet, wp_mRet, wp_mDrop, wp_mNx, wp_mPar, wp_parF, wp_mB, wp_mBin, wp_mUn, wp_mCall, wp_mFn, wp_mNil, wp_mCons, wp_mTup, wp_mLst, wp_mIf, wp_mAndV, wp_mOrV, wp_mNotV, wp_mIsN, wp_mNotN, wp_asB, wp_asI, wp_mTru, wp_truB, wp_mAnd, wp_mOr, wp_mNot, wp_mYes, wp_mPart, wp_mSl, wp_mVs, wp_mV0, wp_mC, wp_ret, wp_sub, wp_addI, wp_lt, wp_le, wp_gt, wp_ge, wp_neg, wp_eqS, wp_lenT, wp_lenL, wp_tupT, wp_tupL, Bool.not_true, Bool.not_false, Bool.false_eq_true, if_true, if_false, wp_tidx, iq0, tidx_tup, idxT_wp hm, ixP (show ixOf q.cols c < l.length by rw [hl]; exact ixOf_lt hm)]
    (first | exact ⟨trivial, trivial⟩ | exact ⟨rfl, trivial⟩ | exact ⟨trivial, rfl⟩ | exact ⟨rfl, rfl⟩)
  rw [filt_true, wp_lim (by rw [List.length_map]; have := hA.1.2.2.1; omega)]
  simp only [List.set_cons_succ, List.set_cons_zero, wipeR, wp_mSeq, wp_mIfS, wp_mSet, wp_mRet, wp_mDrop, wp_mNx, wp_mPar, wp_parF, wp_mB, wp_mBin, wp_mUn, wp_mCall, wp_mFn, wp_mNil, wp_mCons, wp_mTup, wp_mLst, wp_mIf, wp_mAndV, wp_mOrV, wp_mNotV, wp_mIsN, wp_mNotN, wp_asB, wp_asI, wp_mTru, wp_truB, wp_mAnd, wp_mOr, wp_mNot, wp_mYes, wp_mPart, wp_mSl, wp_mVs, wp_mV0, wp_mC, wp_ret, wp_sub, wp_addI, wp_lt, wp_le, wp_gt, wp_ge, wp_neg, wp_eqS, wp_lenT, wp_lenL, wp_tupT, wp_tupL, Bool.not_true, Bool.not_false, Bool.false_eq_true, if_true, if_false]
  (first | exact ⟨trivial, trivial⟩ | exact ⟨rfl, trivial⟩ | exact ⟨trivial, rfl⟩ | exact ⟨rfl, rfl⟩)
/-! ### narrowed -/
def grD (a b : D) : D := match a, b with
  | .int i, .int j => .int (if j > i then j else i)
  | .int i, _ => .int i
  | _, b => b
def lsD (a b : D) : D := match a, b with
  | .int i, .int j => .int (if j < i then j else i)
  | .int i, _ => .int i
  | _, b => b
theorem gr_bnd {a b : D} (h : Bnd a) (k : Bnd b) : Bnd (grD a b) := by
  rcases h with rfl | ⟨i, rfl, h1, h2⟩ <;> rcases k with rfl | ⟨j, rfl, k1, k2⟩
  · exact .inl rfl
  · exact bI ⟨k1, k2⟩
  · exact bI ⟨h1, h2⟩
  · exact bI (by split <;> omega)
theorem ls_bnd {a b : D} (h : Bnd a) (k : Bnd b) : Bnd (lsD a b) := by
  rcases h with rfl | ⟨i, rfl, h1, h2⟩ <;> rcases k with rfl | ⟨j, rfl, k1, k2⟩
  · exact .inl rfl
  · exact bI ⟨k1, k2⟩
  · exact bI ⟨h1, h2⟩
  · exact bI (by split <;> omega)
theorem max2_wp {i j : Int} : Wp (max2M [.int i, .int j]) S Q ↔ Q (.int (if j > i then j else i)) S := wp_some rfl
theorem min2_wp {i j : Int} : Wp (min2M [.int i, .int j]) S Q ↔ Q (.int (if j < i then j else i)) S := wp_some rfl
theorem gr_fn {a b : D} (h : Bnd a) (k : Bnd b) : Wp (if [a, b].length = P_greater_of.length then d_greater_of [a, b] else fail) S Q ↔ Q (grD a b) S := by
  rw [if_pos (show [a, b].length = P_greater_of.length from rfl)]
  refine wp_some (eqOf ?_)
  unfold d_greater_of
  rw [wp_def, show startR N_greater_of.length [a, b] = [some a, some b] from rfl]
  unfold b_greater_of
  rcases h with rfl | ⟨i, rfl, h1, h2⟩ <;> rcases k with rfl | ⟨j, rfl, k1, k2⟩ <;> simp only [List.set_cons_succ, List.set_cons_zero, wipeR, wp_mSeq, wp_mIfS, wp_mSet, wp_mRet, wp_mDrop, wp_mNx, wp_mPar, wp_parF, wp_mB, wp_mBin, wp_mUn, wp_mCall, wp_mFn, wp_mNil, wp_mCons, wp_mTup, wp_mLst, wp_mIf, wp_mAndV, wp_mOrV, wp_mNotV, wp_mIsN, wp_mNotN, wp_asB, wp_asI, wp_mTru, wp_truB, wp_mAnd, wp_mOr, wp_mNot, wp_mYes, wp_mPart, wp_mSl, wp_mVs, wp_mV0, wp_mC, wp_ret, wp_sub, wp_addI, wp_lt, wp_le, wp_gt, wp_ge, wp_neg, wp_eqS, wp_lenT, wp_lenL, wp_tupT, wp_tupL, Bool.not_true, Bool.not_false, Bool.false_eq_true, if_true, if_false, isNonD, max2_wp] <;> (first | exact ⟨trivial, trivial⟩ | exact ⟨rfl, trivial⟩ | exact ⟨trivial, rfl⟩ | exact ⟨rfl, rfl⟩)
theorem ls_fn {a b : D} (h : Bnd a) (k : Bnd b) : Wp (if [a, b].length = P_less_of.length then d_less_of [a, b] else fail) S Q ↔ Q (lsD a b) S := by
  rw [if_pos (show [a, b].length = P_less_of.length from rfl)]
  refine wp_some (eqOf ?_)
  unfold d_less_of
  rw [wp_def, show startR N_less_of.length [a, b] = [some a, some b] from rfl]
  unfold b_less_of
  rcases h with rfl | ⟨i, rfl, h1, h2⟩ <;> rcases k with rfl | ⟨j, rfl, k1, k2⟩ <;> simp only [List.set_cons_succ, List.set_cons_zero, wipeR, wp_mSeq, wp_mIfS, wp_mSet, wp_mRet, wp_mDrop, wp_mNx, wp_mPar, wp_parF, wp_mB, wp_mBin, wp_mUn, wp_mCall, wp_mFn, wp_mNil, wp_mCons, wp_mTup, wp_mLst, wp_mIf, wp_mAndV, wp_mOrV, wp_mNotV, wp_mIsN, wp_mNotN, wp_asB, wp_asI, wp_mTru, wp_truB, wp_mAnd, wp_mOr, wp_mNot, wp_mYes, wp_mPart, wp_mSl, wp_mVs, wp_mV0, wp_mC, wp_ret, wp_sub, wp_addI, wp_lt, wp_le, wp_gt, wp_ge, wp_neg, wp_eqS, wp_lenT, wp_lenL, wp_tupT, wp_tupL, Bool.not_true, Bool.not_false, Bool.false_eq_true, if_true, if_false, isNonD, min2_wp] <;> (first | exact ⟨trivial, trivial⟩ | exact ⟨rfl, trivial⟩ | exact ⟨trivial, rfl⟩ | exact ⟨rfl, rfl⟩)
def badB (g m : D) : Bool := match g, m with
  | .int i, .int j => decide (j < i)
  | _, _ => false
def putR (c : Str) (g m : D) (r : Rn) : Rn := if (r.c == c) = true then ⟨c, g, m⟩ else r
def nrR (rs : List Rn) (c : Str) (g m : D) : List Rn := if (isNonD g && isNonD m) = true then rs.filter fun r => !(r.c == c) else if decide (c ∈ rs.map Rn.c) = false then rs ++ [⟨c, g, m⟩] else rs.map (putR c g m)
def nrD (q : Qu) (c : Str) (g m : D) : D := if badB g m = true then .non else qD ⟨q.cols, q.atoms, nrR q.rs c g m⟩
theorem asgQ {q : Qu} {i j k : Nat} {rho : Mn.Env} {QS : Fl × Mn.Env → Sto → Prop} : Wp (fun S => (gT 3 (gsCons (gV i) (gsCons (gV j) (gsCons (gV k) gsNil))) (qD q) rho).map fun r => ((Fl.nx, r), S)) S QS ↔ QS (.nx, ((rho.set i (some (.tup (q.cols.map .str)))).set j (some (.tup (q.atoms.map atomD)))).set k (some (.tup (q.rs.map rnD)))) S := wp_some rfl
theorem asgP {p : D × D} {i j : Nat} {rho : Mn.Env} {QS : Fl × Mn.Env → Sto → Prop} : Wp (fun S => (gT 2 (gsCons (gV i) (gsCons (gV j) gsNil)) (prD p) rho).map fun r => ((Fl.nx, r), S)) S QS ↔ QS (.nx, (rho.set i (some p.1)).set j (some p.2)) S := wp_some rfl
theorem rn0 {r : Rn} : Wp (ixM (rnD r) (.int 0)) S Q ↔ Q (.str r.c) S := wp_ixT rfl
theorem ni_lst {c : Str} {l : List Str} (hc : Sm c) (hl : ∀ x ∈ l, Sm x) : Wp (niM (.str c) (.lst (l.map .str))) S Q ↔ Q (.bl (!decide (c ∈ l))) S := by
  refine wp_some ?_
  have h1 : pds S (.str c) = some (.str c) := by show pdT (.str c) = _; rw [pdT, if_pos hc.1]
  have h2 : pds S (.lst (l.map .str)) = some (.list (l.map PyData.str)) := by show pdT _ = _; rw [pdT, pdL_strs hl]; rfl
  unfold niM inL
  simp only [h1, h2]
  rw [if_pos (show (PyData.str c).depth ≤ 100 by rw [PyData.depth]; omega), any_str]; rfl
theorem nr_fn {q : Qu} {c : Str} {lo hi : D} (h : OkQ q) (hc : Sm c) (hlo : Bnd lo) (hhi : Bnd hi) : Wp (if [qD q, .str c, lo, hi].length = P_narrowed.length then d_narrowed [qD q, .str c, lo, hi] else fail) S Q ↔ Q (nrD q c (grD (rgOf q.rs c).1 lo) (lsD (rgOf q.rs c).2 hi)) S := by
  rw [if_pos (show [qD q, D.str c, lo, hi].length = P_narrowed.length from rfl)]
  refine wp_some (eqOf ?_)
  unfold d_narrowed
  rw [wp_def, show startR N_narrowed.length [qD q, .str c, lo, hi] = [some (qD q), some (.str c), some lo, some hi, none, none, none, none, none, none, none, none] from rfl]
  unfold b_narrowed
  obtain ⟨b1, b2⟩ := rgOf_bnd h c
  have hg := gr_bnd b1 hlo
  have hm := ls_bnd b2 hhi
  refine wp_seq (R := fun r S1 => r = [some (qD q), some (.str c), some lo, some hi, some (.tup (q.cols.map .str)), some (.tup (q.atoms.map atomD)), some (.tup (q.rs.map rnD)), none, none, none, none, none] ∧ S = S1) (by simp only [List.set_cons_succ, List.set_cons_zero, wipeR, wp_mSeq, wp_mIfS, wp_mSet, wp_mRet, wp_mDrop, wp_mNx, wp_mPar, wp_parF, wp_mB, wp_mBin, wp_mUn, wp_mCall, wp_mFn, wp_mNil, wp_mCons, wp_mTup, wp_mLst, wp_mIf, wp_mAndV, wp_mOrV, wp_mNotV, wp_mIsN, wp_mNotN, wp_asB, wp_asI, wp_mTru, wp_truB, wp_mAnd, wp_mOr, wp_mNot, wp_mYes, wp_mPart, wp_mSl, wp_mVs, wp_mV0, wp_mC, wp_ret, wp_sub, wp_addI, wp_lt, wp_le, wp_gt, wp_ge, wp_neg, wp_eqS, wp_lenT, wp_lenL, wp_tupT, wp_tupL, Bool.not_true, Bool.not_false, Bool.false_eq_true, if_true, if_false, wp_mAsg, asgQ]; (refine ⟨?_, ?_, ?_⟩ <;> first | trivial | rfl)) ?_
  rintro _ _ ⟨rfl, rfl⟩
  refine wp_seq (R := fun r S1 => r = [some (qD q), some (.str c), some lo, some hi, some (.tup (q.cols.map .str)), some (.tup (q.atoms.map atomD)), some (.tup (q.rs.map rnD)), some (rgOf q.rs c).1, some (rgOf q.rs c).2, none, none, none] ∧ S = S1) (by simp only [List.set_cons_succ, List.set_cons_zero, wipeR, wp_mSeq, wp_mIfS, wp_mSet, wp_mRet, wp_mDrop, wp_mNx, wp_mPar, wp_parF, wp_mB, wp_mBin, wp_mUn, wp_mCall, wp_mFn, wp_mNil, wp_mCons, wp_mTup, wp_mLst, wp_mIf, wp_mAndV, wp_mOrV, wp_mNotV, wp_mIsN, wp_mNotN, wp_asB, wp_asI, wp_mTru, wp_truB, wp_mAnd, wp_mOr, wp_mNot, wp_mYes, wp_mPart, wp_mSl, wp_mVs, wp_mV0, wp_mC, wp_ret, wp_sub, wp_addI, wp_lt, wp_le, wp_gt, wp_ge, wp_neg, wp_eqS, wp_lenT, wp_lenL, wp_tupT, wp_tupL, Bool.not_true, Bool.not_false, Bool.false_eq_true, if_true, if_false, wp_mAsg, range_fn, asgP]; (refine ⟨?_, ?_, ?_⟩ <;> first | trivial | rfl)) ?_
  rintro _ _ ⟨rfl, rfl⟩
  refine wp_seq (R := fun r S1 => r = [some (qD q), some (.str c), some lo, some hi, some (.tup (q.cols.map .str)), some (.tup (q.atoms.map atomD)), some (.tup (q.rs.map rnD)), some (rgOf q.rs c).1, some (rgOf q.rs c).2, some (grD (rgOf q.rs c).1 lo), some (lsD (rgOf q.rs c).2 hi), none] ∧ S = S1) (by simp only [List.set_cons_succ, List.set_cons_zero, wipeR, wp_mSeq, wp_mIfS, wp_mSet, wp_mRet, wp_mDrop, wp_mNx, wp_mPar, wp_parF, wp_mB, wp_mBin, wp_mUn, wp_mCall, wp_mFn, wp_mNil, wp_mCons, wp_mTup, wp_mLst, wp_mIf, wp_mAndV, wp_mOrV, wp_mNotV, wp_mIsN, wp_mNotN, wp_asB, wp_asI, wp_mTru, wp_truB, wp_mAnd, wp_mOr, wp_mNot, wp_mYes, wp_mPart, wp_mSl, wp_mVs, wp_mV0, wp_mC, wp_ret, wp_sub, wp_addI, wp_lt, wp_le, wp_gt, wp_ge, wp_neg, wp_eqS, wp_lenT, wp_lenL, wp_tupT, wp_tupL, Bool.not_true, Bool.not_false, Bool.false_eq_true, if_true, if_false, wp_mAsg, gr_fn b1 hlo, ls_fn b2 hhi, mt2, wp_asg2]; (refine ⟨?_, ?_, ?_⟩ <;> first | trivial | rfl)) ?_
  rintro _ _ ⟨rfl, rfl⟩
  generalize grD (rgOf q.rs c).1 lo = g at *
  generalize lsD (rgOf q.rs c).2 hi = m at *
  generalize (rgOf q.rs c).1 = o1 at *
  generalize (rgOf q.rs c).2 = o2 at *
  generalize hrho : [some (qD q), some (.str c), some lo, some hi, some (.tup (q.cols.map .str)), some (.tup (q.atoms.map atomD)), some (.tup (q.rs.map rnD)), some o1, some o2, some g, some m, none] = rho
  have c1 : ∀ (S : Sto) (Q : Bool → Sto → Prop), Wp (mAnd (mB (mNotN (mV 9))) (mAnd (mB (mNotN (mV 10))) (mB (mBin gtM (mV 9) (mV 10)))) rho) S Q ↔ Q (badB g m) S := fun S Q => by
    rw [← hrho]
    rcases hg with rfl | ⟨i, rfl, _⟩ <;> rcases hm with rfl | ⟨j, rfl, _⟩ <;> simp only [List.set_cons_succ, List.set_cons_zero, wipeR, wp_mSeq, wp_mIfS, wp_mSet, wp_mRet, wp_mDrop, wp_mNx, wp_mPar, wp_parF, wp_mB, wp_mBin, wp_mUn, wp_mCall, wp_mFn, wp_mNil, wp_mCons, wp_mTup, wp_mLst, wp_mIf, wp_mAndV, wp_mOrV, wp_mNotV, wp_mIsN, wp_mNotN, wp_asB, wp_asI, wp_mTru, wp_truB, wp_mAnd, wp_mOr, wp_mNot, wp_mYes, wp_mPart, wp_mSl, wp_mVs, wp_mV0, wp_mC, wp_ret, wp_sub, wp_addI, wp_lt, wp_le, wp_gt, wp_ge, wp_neg, wp_eqS, wp_lenT, wp_lenL, wp_tupT, wp_tupL, Bool.not_true, Bool.not_false, Bool.false_eq_true, if_true, if_false, isNonD, badB]
  have c2 : ∀ (S : Sto) (Q : Bool → Sto → Prop), Wp (mAnd (mB (mIsN (mV 9))) (mB (mIsN (mV 10))) rho) S Q ↔ Q (isNonD g && isNonD m) S := fun S Q => by
    rw [← hrho]
    rcases hg with rfl | ⟨i, rfl, _⟩ <;> rcases hm with rfl | ⟨j, rfl, _⟩ <;> simp only [List.set_cons_succ, List.set_cons_zero, wipeR, wp_mSeq, wp_mIfS, wp_mSet, wp_mRet, wp_mDrop, wp_mNx, wp_mPar, wp_parF, wp_mB, wp_mBin, wp_mUn, wp_mCall, wp_mFn, wp_mNil, wp_mCons, wp_mTup, wp_mLst, wp_mIf, wp_mAndV, wp_mOrV, wp_mNotV, wp_mIsN, wp_mNotN, wp_asB, wp_asI, wp_mTru, wp_truB, wp_mAnd, wp_mOr, wp_mNot, wp_mYes, wp_mPart, wp_mSl, wp_mVs, wp_mV0, wp_mC, wp_ret, wp_sub, wp_addI, wp_lt, wp_le, wp_gt, wp_ge, wp_neg, wp_eqS, wp_lenT, wp_lenL, wp_tupT, wp_tupL, Bool.not_true, Bool.not_false, Bool.false_eq_true, if_true, if_false, isNonD, Bool.and_self, Bool.and_true, Bool.and_false]
  rw [wp_mSeq, wp_mIfS, c1]
  unfold nrD
  cases hb : badB g m with
  | true =>
    simp only [List.set_cons_succ, List.set_cons_zero, wipeR, wp_mSeq, wp_mIfS, wp_mSet, wp_mRet, wp_mDrop, wp_mNx, wp_mPar, wp_parF, wp_mB, wp_mBin, wp_mUn, wp_mCall, wp_mFn, wp_mNil, wp_mCons, wp_mTup, wp_mLst, wp_mIf, wp_mAndV, wp_mOrV, wp_mNotV, wp_mIsN, wp_mNotN, wp_asB, wp_asI, wp_mTru, wp_truB, wp_mAnd, wp_mOr, wp_mNot, wp_mYes, wp_mPart, wp_mSl, wp_mVs, wp_mV0, wp_mC, wp_ret, wp_sub, wp_addI, wp_lt, wp_le, wp_gt, wp_ge, wp_neg, wp_eqS, wp_lenT, wp_lenL, wp_tupT, wp_tupL, Bool.not_true, Bool.not_false, Bool.false_eq_true, if_true, if_false]
    (first | exact ⟨trivial, trivial⟩ | exact ⟨rfl, trivial⟩ | exact ⟨trivial, rfl⟩ | exact ⟨rfl, rfl⟩)
  | false =>
    simp only [Bool.false_eq_true, if_false]
    rw [wp_mNx]
    simp only
    rw [wp_mSeq, wp_mIfS, c2]
    unfold nrR
    cases hn : (isNonD g && isNonD m) with
    | true =>
      subst hrho
      simp only [List.set_cons_succ, List.set_cons_zero, wipeR, wp_mSeq, wp_mIfS, wp_mSet, wp_mRet, wp_mDrop, wp_mNx, wp_mPar, wp_parF, wp_mB, wp_mBin, wp_mUn, wp_mCall, wp_mFn, wp_mNil, wp_mCons, wp_mTup, wp_mLst, wp_mIf, wp_mAndV, wp_mOrV, wp_mNotV, wp_mIsN, wp_mNotN, wp_asB, wp_asI, wp_mTru, wp_truB, wp_mAnd, wp_mOr, wp_mNot, wp_mYes, wp_mPart, wp_mSl, wp_mVs, wp_mV0, wp_mC, wp_ret, wp_sub, wp_addI, wp_lt, wp_le, wp_gt, wp_ge, wp_neg, wp_eqS, wp_lenT, wp_lenL, wp_tupT, wp_tupL, Bool.not_true, Bool.not_false, Bool.false_eq_true, if_true, if_false, wp_mLc, wp_mISeq, src_tup]
      refine (lcA (t := fun r : Rn => !(r.c == c)) (f := rnD) (c := rnD) (l := q.rs) srcOk_nil fun r hr => ⟨_, rfl, ?_, fun _ => ?_⟩).mpr ?_
      · simp only [List.set_cons_succ, List.set_cons_zero, wipeR, wp_mSeq, wp_mIfS, wp_mSet, wp_mRet, wp_mDrop, wp_mNx, wp_mPar, wp_parF, wp_mB, wp_mBin, wp_mUn, wp_mCall, wp_mFn, wp_mNil, wp_mCons, wp_mTup, wp_mLst, wp_mIf, wp_mAndV, wp_mOrV, wp_mNotV, wp_mIsN, wp_mNotN, wp_asB, wp_asI, wp_mTru, wp_truB, wp_mAnd, wp_mOr, wp_mNot, wp_mYes, wp_mPart, wp_mSl, wp_mVs, wp_mV0, wp_mC, wp_ret, wp_sub, wp_addI, wp_lt, wp_le, wp_gt, wp_ge, wp_neg, wp_eqS, wp_lenT, wp_lenL, wp_tupT, wp_tupL, Bool.not_true, Bool.not_false, Bool.false_eq_true, if_true, if_false, rn0, wp_neS]
        (first | exact ⟨trivial, trivial⟩ | exact ⟨rfl, trivial⟩ | exact ⟨trivial, rfl⟩ | exact ⟨rfl, rfl⟩)
      · simp only [List.set_cons_succ, List.set_cons_zero, wipeR, wp_mSeq, wp_mIfS, wp_mSet, wp_mRet, wp_mDrop, wp_mNx, wp_mPar, wp_parF, wp_mB, wp_mBin, wp_mUn, wp_mCall, wp_mFn, wp_mNil, wp_mCons, wp_mTup, wp_mLst, wp_mIf, wp_mAndV, wp_mOrV, wp_mNotV, wp_mIsN, wp_mNotN, wp_asB, wp_asI, wp_mTru, wp_truB, wp_mAnd, wp_mOr, wp_mNot, wp_mYes, wp_mPart, wp_mSl, wp_mVs, wp_mV0, wp_mC, wp_ret, wp_sub, wp_addI, wp_lt, wp_le, wp_gt, wp_ge, wp_neg, wp_eqS, wp_lenT, wp_lenL, wp_tupT, wp_tupL, Bool.not_true, Bool.not_false, Bool.false_eq_true, if_true, if_false]
        (first | exact ⟨trivial, trivial⟩ | exact ⟨rfl, trivial⟩ | exact ⟨trivial, rfl⟩ | exact ⟨rfl, rfl⟩)
      rw [wp_lim (by rw [List.length_map]; exact Nat.le_trans (List.length_filter_le _ _) (by have := h.rl; omega))]
      simp only [List.set_cons_succ, List.set_cons_zero, wipeR, wp_mSeq, wp_mIfS, wp_mSet, wp_mRet, wp_mDrop, wp_mNx, wp_mPar, wp_parF, wp_mB, wp_mBin, wp_mUn, wp_mCall, wp_mFn, wp_mNil, wp_mCons, wp_mTup, wp_mLst, wp_mIf, wp_mAndV, wp_mOrV, wp_mNotV, wp_mIsN, wp_mNotN, wp_asB, wp_asI, wp_mTru, wp_truB, wp_mAnd, wp_mOr, wp_mNot, wp_mYes, wp_mPart, wp_mSl, wp_mVs, wp_mV0, wp_mC, wp_ret, wp_sub, wp_addI, wp_lt, wp_le, wp_gt, wp_ge, wp_neg, wp_eqS, wp_lenT, wp_lenL, wp_tupT, wp_tupL, Bool.not_true, Bool.not_false, Bool.false_eq_true, if_true, if_false, mt3]
      (first | exact ⟨trivial, trivial⟩ | exact ⟨rfl, trivial⟩ | exact ⟨trivial, rfl⟩ | exact ⟨rfl, rfl⟩)
    | false =>
      simp only [Bool.false_eq_true, if_false]
      rw [wp_mNx]
      simp only
      subst hrho
      simp only [List.set_cons_succ, List.set_cons_zero, wipeR, wp_mSeq, wp_mIfS, wp_mSet, wp_mRet, wp_mDrop, wp_mNx, wp_mPar, wp_parF, wp_mB, wp_mBin, wp_mUn, wp_mCall, wp_mFn, wp_mNil, wp_mCons, wp_mTup, wp_mLst, wp_mIf, wp_mAndV, wp_mOrV, wp_mNotV, wp_mIsN, wp_mNotN, wp_asB, wp_asI, wp_mTru, wp_truB, wp_mAnd, wp_mOr, wp_mNot, wp_mYes, wp_mPart, wp_mSl, wp_mVs, wp_mV0, wp_mC, wp_ret, wp_sub, wp_addI, wp_lt, wp_le, wp_gt, wp_ge, wp_neg, wp_eqS, wp_lenT, wp_lenL, wp_tupT, wp_tupL, Bool.not_true, Bool.not_false, Bool.false_eq_true, if_true, if_false, wp_mLc, wp_mISeq, src_tup]
      refine (lcA (t := fun _ => true) (f := fun r : Rn => D.str r.c) (c := rnD) (l := q.rs) srcOk_nil fun r hr => ⟨_, rfl, ?_, fun _ => ?_⟩).mpr ?_
      · simp only [List.set_cons_succ, List.set_cons_zero, wipeR, wp_mSeq, wp_mIfS, wp_mSet, wp_mRet, wp_mDrop, wp_mNx, wp_mPar, wp_parF, wp_mB, wp_mBin, wp_mUn, wp_mCall, wp_mFn, wp_mNil, wp_mCons, wp_mTup, wp_mLst, wp_mIf, wp_mAndV, wp_mOrV, wp_mNotV, wp_mIsN, wp_mNotN, wp_asB, wp_asI, wp_mTru, wp_truB, wp_mAnd, wp_mOr, wp_mNot, wp_mYes, wp_mPart, wp_mSl, wp_mVs, wp_mV0, wp_mC, wp_ret, wp_sub, wp_addI, wp_lt, wp_le, wp_gt, wp_ge, wp_neg, wp_eqS, wp_lenT, wp_lenL, wp_tupT, wp_tupL, Bool.not_true, Bool.not_false, Bool.false_eq_true, if_true, if_false]
        (first | exact ⟨trivial, trivial⟩ | exact ⟨rfl, trivial⟩ | exact ⟨trivial, rfl⟩ | exact ⟨rfl, rfl⟩)
      · simp only [List.set_cons_succ, List.set_cons_zero, wipeR, wp_mSeq, wp_mIfS, wp_mSet, wp_mRet, wp_mDrop, wp_mNx, wp_mPar, wp_parF, wp_mB, wp_mBin, wp_mUn, wp_mCall, wp_mFn, wp_mNil, wp_mCons, wp_mTup, wp_mLst, wp_mIf, wp_mAndV, wp_mOrV, wp_mNotV, wp_mIsN, wp_mNotN, wp_asB, wp_asI, wp_mTru, wp_truB, wp_mAnd, wp_mOr, wp_mNot, wp_mYes, wp_mPart, wp_mSl, wp_mVs, wp_mV0, wp_mC, wp_ret, wp_sub, wp_addI, wp_lt, wp_le, wp_gt, wp_ge, wp_neg, wp_eqS, wp_lenT, wp_lenL, wp_tupT, wp_tupL, Bool.not_true, Bool.not_false, Bool.false_eq_true, if_true, if_false, rn0]
        (first | exact ⟨trivial, trivial⟩ | exact ⟨rfl, trivial⟩ | exact ⟨trivial, rfl⟩ | exact ⟨rfl, rfl⟩)
      have hl := h.rl
      rw [filt_true, wp_lim (by rw [List.length_map]; omega)]
      have e1 : (q.rs.map fun r : Rn => D.str r.c) = (q.rs.map Rn.c).map .str := by rw [List.map_map]; rfl
      rw [e1, ni_lst hc (fun x hx => by obtain ⟨r, hr, rfl⟩ := List.mem_map.mp hx; exact (h.rok r hr).1)]
      cases hin : decide (c ∈ q.rs.map Rn.c) with
      | false =>
        simp only [List.set_cons_succ, List.set_cons_zero, wipeR, wp_mSeq, wp_mIfS, wp_mSet, wp_mRet, wp_mDrop, wp_mNx, wp_mPar, wp_parF, wp_mB, wp_mBin, wp_mUn, wp_mCall, wp_mFn, wp_mNil, wp_mCons, wp_mTup, wp_mLst, wp_mIf, wp_mAndV, wp_mOrV, wp_mNotV, wp_mIsN, wp_mNotN, wp_asB, wp_asI, wp_mTru, wp_truB, wp_mAnd, wp_mOr, wp_mNot, wp_mYes, wp_mPart, wp_mSl, wp_mVs, wp_mV0, wp_mC, wp_ret, wp_sub, wp_addI, wp_lt, wp_le, wp_gt, wp_ge, wp_neg, wp_eqS, wp_lenT, wp_lenL, wp_tupT, wp_tupL, Bool.not_true, Bool.not_false, Bool.false_eq_true, if_true, if_false, wp_star, starT, mt3]
        rw [wp_mkTup (by simp; omega)]
        simp only [mt3, wp_ret, if_true]
        refine ⟨?_, trivial⟩
        unfold qD rgD
        simp only [List.map_append]; rfl
      | true =>
        simp only [List.set_cons_succ, List.set_cons_zero, wipeR, wp_mSeq, wp_mIfS, wp_mSet, wp_mRet, wp_mDrop, wp_mNx, wp_mPar, wp_parF, wp_mB, wp_mBin, wp_mUn, wp_mCall, wp_mFn, wp_mNil, wp_mCons, wp_mTup, wp_mLst, wp_mIf, wp_mAndV, wp_mOrV, wp_mNotV, wp_mIsN, wp_mNotN, wp_asB, wp_asI, wp_mTru, wp_truB, wp_mAnd, wp_mOr, wp_mNot, wp_mYes, wp_mPart, wp_mSl, wp_mVs, wp_mV0, wp_mC, wp_ret, wp_sub, wp_addI, wp_lt, wp_le, wp_gt, wp_ge, wp_neg, wp_eqS, wp_lenT, wp_lenL, wp_tupT, wp_tupL, Bool.not_true, Bool.not_false, Bool.false_eq_true, if_true, if_false, wp_mLc, wp_mISeq, src_tup]
        refine (lcA (t := fun _ => true) (f := fun r : Rn => rnD (putR c g m r)) (c := rnD) (l := q.rs) srcOk_nil fun r hr => ⟨_, rfl, ?_, fun _ => ?_⟩).mpr ?_
        · simp only [List.set_cons_succ, List.set_cons_zero, wipeR, wp_mSeq, wp_mIfS, wp_mSet, wp_mRet, wp_mDrop, wp_mNx, wp_mPar, wp_parF, wp_mB, wp_mBin, wp_mUn, wp_mCall, wp_mFn, wp_mNil, wp_mCons, wp_mTup, wp_mLst, wp_mIf, wp_mAndV, wp_mOrV, wp_mNotV, wp_mIsN, wp_mNotN, wp_asB, wp_asI, wp_mTru, wp_truB, wp_mAnd, wp_mOr, wp_mNot, wp_mYes, wp_mPart, wp_mSl, wp_mVs, wp_mV0, wp_mC, wp_ret, wp_sub, wp_addI, wp_lt, wp_le, wp_gt, wp_ge, wp_neg, wp_eqS, wp_lenT, wp_lenL, wp_tupT, wp_tupL, Bool.not_true, Bool.not_false, Bool.false_eq_true, if_true, if_false]
          (first | exact ⟨trivial, trivial⟩ | exact ⟨rfl, trivial⟩ | exact ⟨trivial, rfl⟩ | exact ⟨rfl, rfl⟩)
        · simp only [List.set_cons_succ, List.set_cons_zero, wipeR, wp_mSeq, wp_mIfS, wp_mSet, wp_mRet, wp_mDrop, wp_mNx, wp_mPar, wp_parF, wp_mB, wp_mBin, wp_mUn, wp_mCall, wp_mFn, wp_mNil, wp_mCons, wp_mTup, wp_mLst, wp_mIf, wp_mAndV, wp_mOrV, wp_mNotV, wp_mIsN, wp_mNotN, wp_asB, wp_asI, wp_mTru, wp_truB, wp_mAnd, wp_mOr, wp_mNot, wp_mYes, wp_mPart, wp_mSl, wp_mVs, wp_mV0, wp_mC, wp_ret, wp_sub, wp_addI, wp_lt, wp_le, wp_gt, wp_ge, wp_neg, wp_eqS, wp_lenT, wp_lenL, wp_tupT, wp_tupL, Bool.not_true, Bool.not_false, Bool.false_eq_true, if_true, if_false, rn0]
          unfold putR
          cases hrc : (r.c == c) with
          | true =>
            simp only [List.set_cons_succ, List.set_cons_zero, wipeR, wp_mSeq, wp_mIfS, wp_mSet, wp_mRet, wp_mDrop, wp_mNx, wp_mPar, wp_parF, wp_mB, wp_mBin, wp_mUn, wp_mCall, wp_mFn, wp_mNil, wp_mCons, wp_mTup, wp_mLst, wp_mIf, wp_mAndV, wp_mOrV, wp_mNotV, wp_mIsN, wp_mNotN, wp_asB, wp_asI, wp_mTru, wp_truB, wp_mAnd, wp_mOr, wp_mNot, wp_mYes, wp_mPart, wp_mSl, wp_mVs, wp_mV0, wp_mC, wp_ret, wp_sub, wp_addI, wp_lt, wp_le, wp_gt, wp_ge, wp_neg, wp_eqS, wp_lenT, wp_lenL, wp_tupT, wp_tupL, Bool.not_true, Bool.not_false, Bool.false_eq_true, if_true, if_false, mt3]
            (first | exact ⟨trivial, trivial⟩ | exact ⟨rfl, trivial⟩ | exact ⟨trivial, rfl⟩ | exact ⟨rfl, rfl⟩)
          | false =>
            simp only [List.set_cons_succ, List.set_cons_zero, wipeR, wp_mSeq, wp_mIfS, wp_mSet, wp_mRet, wp_mDrop, wp_mNx, wp_mPar, wp_parF, wp_mB, wp_mBin, wp_mUn, wp_mCall, wp_mFn, wp_mNil, wp_mCons, wp_mTup, wp_mLst, wp_mIf, wp_mAndV, wp_mOrV, wp_mNotV, wp_mIsN, wp_mNotN, wp_asB, wp_asI, wp_mTru, wp_truB, wp_mAnd, wp_mOr, wp_mNot, wp_mYes, wp_mPart, wp_mSl, wp_mVs, wp_mV0, wp_mC, wp_ret, wp_sub, wp_addI, wp_lt, wp_le, wp_gt, wp_ge, wp_neg, wp_eqS, wp_lenT, wp_lenL, wp_tupT, wp_tupL, Bool.not_true, Bool.not_false, Bool.false_eq_true, if_true, if_false]
            (first | exact ⟨trivial, trivial⟩ | exact ⟨rfl, trivial⟩ | exact ⟨trivial, rfl⟩ | exact ⟨rfl, rfl⟩)
        rw [filt_true, wp_lim (by rw [List.length_map]; omega)]
        simp only [List.set_cons_succ, List.set_cons_zero, wipeR, wp_mSeq, wp_mIfS, wp_mSet, wp_mRet, wp_mDrop, wp_mNx, wp_mPar, wp_parF, wp_mB, wp_mBin, wp_mUn, wp_mCall, wp_mFn, wp_mNil, wp_mCons, wp_mTup, wp_mLst, wp_mIf, wp_mAndV, wp_mOrV, wp_mNotV, wp_mIsN, wp_mNotN, wp_asB, wp_asI, wp_mTru, wp_truB, wp_mAnd, wp_mOr, wp_mNot, wp_mYes, wp_mPart, wp_mSl, wp_mVs, wp_mV0, wp_mC, wp_ret, wp_sub, wp_addI, wp_lt, wp_le, wp_gt, wp_ge, wp_neg, wp_eqS, wp_lenT, wp_lenL, wp_tupT, wp_tupL, Bool.not_true, Bool.not_false, Bool.false_eq_true, if_true, if_false, mt3]
        refine ⟨?_, trivial⟩
        unfold qD rgD
        simp only [List.map_map, Bool.true_eq_false, if_false]; rfl
/-! ### the law's own narrowed -/
def endsI (a b : D) : List Int := match a, b with
  | .int i, .int j => [i, j]
  | .int i, _ => [i]
  | _, .int j => [j]
  | _, _ => []
def maxI (l : List Int) : D := match l.max? with
  | some m => .int m
  | none => .non
def minI (l : List Int) : D := match l.min? with
  | some m => .int m
  | none => .non
theorem maxI_ends {a b : D} (h : Bnd a) (k : Bnd b) : maxI (endsI a b) = grD a b := by
  rcases h with rfl | ⟨i, rfl, h1, h2⟩ <;> rcases k with rfl | ⟨j, rfl, k1, k2⟩
  · rfl
  · rfl
  · rfl
  · unfold maxI endsI grD
    simp only [List.max?_cons', List.foldl_cons, List.foldl_nil]
    congr 1
    split <;> omega
theorem minI_ends {a b : D} (h : Bnd a) (k : Bnd b) : minI (endsI a b) = lsD a b := by
  rcases h with rfl | ⟨i, rfl, h1, h2⟩ <;> rcases k with rfl | ⟨j, rfl, k1, k2⟩
  · rfl
  · rfl
  · rfl
  · unfold minI endsI lsD
    simp only [List.min?_cons', List.foldl_cons, List.foldl_nil]
    congr 1
    split <;> omega
theorem filt_ends {a b : D} (h : Bnd a) (k : Bnd b) : ([a, b].filter fun d => !isNonD d).map (fun d => d) = (endsI a b).map .int := by
  rcases h with rfl | ⟨i, rfl, h1, h2⟩ <;> rcases k with rfl | ⟨j, rfl, k1, k2⟩ <;> rfl
theorem neInts {l : List Int} : Wp (neM (.lst (l.map .int)) (.lst [])) S Q ↔ Q (.bl (!l.isEmpty)) S := by
  rw [wp_neNilL (pdL_ints _) (by rw [depth_ints]; omega), List.isEmpty_map]
theorem max_if {l : List Int} {k : Nat} {rho : Mn.Env} (e : ∀ S Q, Wp (mV k rho) S Q ↔ Q (.lst (l.map .int)) S) : Wp (mIf (mB (mBin neM (mV k) (mLst mNil))) (mCall maxLM (mCons (mV k) mNil)) (mC .non) rho) S Q ↔ Q (maxI l) S := by
  simp only [List.set_cons_succ, List.set_cons_zero, wipeR, wp_mSeq, wp_mIfS, wp_mSet, wp_mRet, wp_mDrop, wp_mNx, wp_mPar, wp_parF, wp_mB, wp_mBin, wp_mUn, wp_mCall, wp_mFn, wp_mNil, wp_mCons, wp_mTup, wp_mLst, wp_mIf, wp_mAndV, wp_mOrV, wp_mNotV, wp_mIsN, wp_mNotN, wp_asB, wp_asI, wp_mTru, wp_truB, wp_mAnd, wp_mOr, wp_mNot, wp_mYes, wp_mPart, wp_mSl, wp_mVs, wp_mV0, wp_mC, wp_ret, wp_sub, wp_addI, wp_lt, wp_le, wp_gt, wp_ge, wp_neg, wp_eqS, wp_lenT, wp_lenL, wp_tupT, wp_tupL, Bool.not_true, Bool.not_false, Bool.false_eq_true, if_true, if_false, e, ml0, neInts]
  cases l with
  | nil =>
    simp only [List.set_cons_succ, List.set_cons_zero, wipeR, wp_mSeq, wp_mIfS, wp_mSet, wp_mRet, wp_mDrop, wp_mNx, wp_mPar, wp_parF, wp_mB, wp_mBin, wp_mUn, wp_mCall, wp_mFn, wp_mNil, wp_mCons, wp_mTup, wp_mLst, wp_mIf, wp_mAndV, wp_mOrV, wp_mNotV, wp_mIsN, wp_mNotN, wp_asB, wp_asI, wp_mTru, wp_truB, wp_mAnd, wp_mOr, wp_mNot, wp_mYes, wp_mPart, wp_mSl, wp_mVs, wp_mV0, wp_mC, wp_ret, wp_sub, wp_addI, wp_lt, wp_le, wp_gt, wp_ge, wp_neg, wp_eqS, wp_lenT, wp_lenL, wp_tupT, wp_tupL, Bool.not_true, Bool.not_false, Bool.false_eq_true, if_true, if_false, List.isEmpty_nil]
    exact Iff.rfl
  | cons x l =>
    simp only [List.set_cons_succ, List.set_cons_zero, wipeR, wp_mSeq, wp_mIfS, wp_mSet, wp_mRet, wp_mDrop, wp_mNx, wp_mPar, wp_parF, wp_mB, wp_mBin, wp_mUn, wp_mCall, wp_mFn, wp_mNil, wp_mCons, wp_mTup, wp_mLst, wp_mIf, wp_mAndV, wp_mOrV, wp_mNotV, wp_mIsN, wp_mNotN, wp_asB, wp_asI, wp_mTru, wp_truB, wp_mAnd, wp_mOr, wp_mNot, wp_mYes, wp_mPart, wp_mSl, wp_mVs, wp_mV0, wp_mC, wp_ret, wp_sub, wp_addI, wp_lt, wp_le, wp_gt, wp_ge, wp_neg, wp_eqS, wp_lenT, wp_lenL, wp_tupT, wp_tupL, Bool.not_true, Bool.not_false, Bool.false_eq_true, if_true, if_false, List.isEmpty_cons, e]
    refine wp_some ?_
    unfold maxLM itemsL maxI
    simp only [Option.bind_some, intsOf_map]
    cases hm : (x :: l).max? with
    | none => simp at hm
    | some m => rfl
theorem min_if {l : List Int} {k : Nat} {rho : Mn.Env} (e : ∀ S Q, Wp (mV k rho) S Q ↔ Q (.lst (l.map .int)) S) : Wp (mIf (mB (mBin neM (mV k) (mLst mNil))) (mCall minLM (mCons (mV k) mNil)) (mC .non) rho) S Q ↔ Q (minI l) S := by
  simp only [List.set_cons_succ, List.set_cons_zero, wipeR, wp_mSeq, wp_mIfS, wp_mSet, wp_mRet, wp_mDrop, wp_mNx, wp_mPar, wp_parF, wp_mB, wp_mBin, wp_mUn, wp_mCall, wp_mFn, wp_mNil, wp_mCons, wp_mTup, wp_mLst, wp_mIf, wp_mAndV, wp_mOrV, wp_mNotV, wp_mIsN, wp_mNotN, wp_asB, wp_asI, wp_mTru, wp_truB, wp_mAnd, wp_mOr, wp_mNot, wp_mYes, wp_mPart, wp_mSl, wp_mVs, wp_mV0, wp_mC, wp_ret, wp_sub, wp_addI, wp_lt, wp_le, wp_gt, wp_ge, wp_neg, wp_eqS, wp_lenT, wp_lenL, wp_tupT, wp_tupL, Bool.not_true, Bool.not_false, Bool.false_eq_true, if_true, if_false, e, ml0, neInts]
  cases l with
  | nil =>
    simp only [List.set_cons_succ, List.set_cons_zero, wipeR, wp_mSeq, wp_mIfS, wp_mSet, wp_mRet, wp_mDrop, wp_mNx, wp_mPar, wp_parF, wp_mB, wp_mBin, wp_mUn, wp_mCall, wp_mFn, wp_mNil, wp_mCons, wp_mTup, wp_mLst, wp_mIf, wp_mAndV, wp_mOrV, wp_mNotV, wp_mIsN, wp_mNotN, wp_asB, wp_asI, wp_mTru, wp_truB, wp_mAnd, wp_mOr, wp_mNot, wp_mYes, wp_mPart, wp_mSl, wp_mVs, wp_mV0, wp_mC, wp_ret, wp_sub, wp_addI, wp_lt, wp_le, wp_gt, wp_ge, wp_neg, wp_eqS, wp_lenT, wp_lenL, wp_tupT, wp_tupL, Bool.not_true, Bool.not_false, Bool.false_eq_true, if_true, if_false, List.isEmpty_nil]
    exact Iff.rfl
  | cons x l =>
    simp only [List.set_cons_succ, List.set_cons_zero, wipeR, wp_mSeq, wp_mIfS, wp_mSet, wp_mRet, wp_mDrop, wp_mNx, wp_mPar, wp_parF, wp_mB, wp_mBin, wp_mUn, wp_mCall, wp_mFn, wp_mNil, wp_mCons, wp_mTup, wp_mLst, wp_mIf, wp_mAndV, wp_mOrV, wp_mNotV, wp_mIsN, wp_mNotN, wp_asB, wp_asI, wp_mTru, wp_truB, wp_mAnd, wp_mOr, wp_mNot, wp_mYes, wp_mPart, wp_mSl, wp_mVs, wp_mV0, wp_mC, wp_ret, wp_sub, wp_addI, wp_lt, wp_le, wp_gt, wp_ge, wp_neg, wp_eqS, wp_lenT, wp_lenL, wp_tupT, wp_tupL, Bool.not_true, Bool.not_false, Bool.false_eq_true, if_true, if_false, List.isEmpty_cons, e]
    refine wp_some ?_
    unfold minLM itemsL minI
    simp only [Option.bind_some, intsOf_map]
    cases hm : (x :: l).min? with
    | none => simp at hm
    | some m => rfl
def outR (c : Str) (g m : D) (r : Rn) : List Rn := if (r.c == c) = true then (if (isNonD g && isNonD m) = true then [] else [⟨c, g, m⟩]) else [r]
theorem outR_len {c : Str} {g m : D} {l : List Rn} : (l.flatMap (outR c g m)).length ≤ l.length := by
  induction l with
  | nil => exact Nat.le_refl _
  | cons r l ih =>
    rw [List.flatMap_cons, List.length_append, List.length_cons]
    have : (outR c g m r).length ≤ 1 := by
      unfold outR
      split
      · split <;> simp
      · simp
    omega
theorem outR_nr {c : Str} {g m : D} {rs : List Rn} : (if decide (c ∈ rs.map Rn.c) = false ∧ (isNonD g && isNonD m) = false then rs.flatMap (outR c g m) ++ [⟨c, g, m⟩] else rs.flatMap (outR c g m)) = nrR rs c g m := by
  unfold nrR
  cases hn : (isNonD g && isNonD m) with
  | true =>
    simp only [Bool.true_eq_false, and_false, if_false, if_true]
    induction rs with
    | nil => rfl
    | cons r rs ih =>
      rw [List.flatMap_cons, ih]
      unfold outR
      cases hc : (r.c == c) with
      | true => simp [hn, hc]
      | false => simp [hc]
  | false =>
    have hf : rs.flatMap (outR c g m) = rs.map (putR c g m) := by
      induction rs with
      | nil => rfl
      | cons r rs ih =>
        rw [List.flatMap_cons, ih, List.map_cons]
        unfold outR putR
        cases hc : (r.c == c) with
        | true => simp [hn]
        | false => simp
    rw [hf]
    cases hd : decide (c ∈ rs.map Rn.c) with
    | true => simp
    | false =>
      simp only [Bool.false_eq_true, if_true, if_false, and_self]
      congr 1
      have hni : c ∉ rs.map Rn.c := of_decide_eq_false hd
      have : ∀ r ∈ rs, putR c g m r = r := fun r hr => by
        unfold putR
        rw [if_neg]
        intro hc
        exact hni (List.mem_map.mpr ⟨r, hr, by simpa using hc⟩)
      conv => rhs; rw [← List.map_id rs]
      exact List.map_congr_left this
theorem law_nr_fn {q : Qu} {c : Str} {lo hi : D} (h : OkQ q) (hc : Sm c) (hlo : Bnd lo) (hhi : Bnd hi) (k : ∀ S1, Gr S S1 → Q (nrD q c (grD (rgOf q.rs c).1 lo) (lsD (rgOf q.rs c).2 hi)) S1) : Wp (if [qD q, .str c, lo, hi].length = P_law_narrowed.length then d_law_narrowed [qD q, .str c, lo, hi] else fail) S Q := by
  rw [if_pos (show [qD q, D.str c, lo, hi].length = P_law_narrowed.length from rfl)]
  unfold d_law_narrowed
  rw [wp_def, show startR N_law_narrowed.length [qD q, .str c, lo, hi] = [some (qD q), some (.str c), some lo, some hi, none, none, none, none, none, none, none, none, none] from rfl]
  unfold b_law_narrowed
  obtain ⟨b1, b2⟩ := rgOf_bnd h c
  have hg := gr_bnd b1 hlo
  have hm := ls_bnd b2 hhi
  refine wp_seq (R := fun r S1 => r = [some (qD q), some (.str c), some lo, some hi, some (rgOf q.rs c).1, some (rgOf q.rs c).2, none, none, none, none, none, none, none] ∧ S = S1) (by simp only [List.set_cons_succ, List.set_cons_zero, wipeR, wp_mSeq, wp_mIfS, wp_mSet, wp_mRet, wp_mDrop, wp_mNx, wp_mPar, wp_parF, wp_mB, wp_mBin, wp_mUn, wp_mCall, wp_mFn, wp_mNil, wp_mCons, wp_mTup, wp_mLst, wp_mIf, wp_mAndV, wp_mOrV, wp_mNotV, wp_mIsN, wp_mNotN, wp_asB, wp_asI, wp_mTru, wp_truB, wp_mAnd, wp_mOr, wp_mNot, wp_mYes, wp_mPart, wp_mSl, wp_mVs, wp_mV0, wp_mC, wp_ret, wp_sub, wp_addI, wp_lt, wp_le, wp_gt, wp_ge, wp_neg, wp_eqS, wp_lenT, wp_lenL, wp_tupT, wp_tupL, Bool.not_true, Bool.not_false, Bool.false_eq_true, if_true, if_false, wp_mAsg, law_range_fn h, asgP]; (refine ⟨?_, ?_, ?_⟩ <;> first | trivial | rfl)) ?_
  rintro _ _ ⟨rfl, rfl⟩
  have e1 := maxI_ends b1 hlo
  have e2 := minI_ends b2 hhi
  generalize (rgOf q.rs c).1 = o1 at *
  generalize (rgOf q.rs c).2 = o2 at *
  refine wp_seq (R := fun r S1 => r = [some (qD q), some (.str c), some lo, some hi, some o1, some o2, some (.lst ((endsI o1 lo).map .int)), none, none, none, none, none, none] ∧ S = S1) ?_ ?_
  · simp only [List.set_cons_succ, List.set_cons_zero, wipeR, wp_mSeq, wp_mIfS, wp_mSet, wp_mRet, wp_mDrop, wp_mNx, wp_mPar, wp_parF, wp_mB, wp_mBin, wp_mUn, wp_mCall, wp_mFn, wp_mNil, wp_mCons, wp_mTup, wp_mLst, wp_mIf, wp_mAndV, wp_mOrV, wp_mNotV, wp_mIsN, wp_mNotN, wp_asB, wp_asI, wp_mTru, wp_truB, wp_mAnd, wp_mOr, wp_mNot, wp_mYes, wp_mPart, wp_mSl, wp_mVs, wp_mV0, wp_mC, wp_ret, wp_sub, wp_addI, wp_lt, wp_le, wp_gt, wp_ge, wp_neg, wp_eqS, wp_lenT, wp_lenL, wp_tupT, wp_tupL, Bool.not_true, Bool.not_false, Bool.false_eq_true, if_true, if_false, wp_mLc, wp_mISeq, mt2, src_tup]
    refine (lcD (t := fun d => !isNonD d) (f := fun d => d) (g := gV 12) (l := [o1, lo]) srcOk_nil fun d hd => ⟨_, rfl, ?_, fun _ => ?_⟩).mpr ?_
    · simp only [List.set_cons_succ, List.set_cons_zero, wipeR, wp_mSeq, wp_mIfS, wp_mSet, wp_mRet, wp_mDrop, wp_mNx, wp_mPar, wp_parF, wp_mB, wp_mBin, wp_mUn, wp_mCall, wp_mFn, wp_mNil, wp_mCons, wp_mTup, wp_mLst, wp_mIf, wp_mAndV, wp_mOrV, wp_mNotV, wp_mIsN, wp_mNotN, wp_asB, wp_asI, wp_mTru, wp_truB, wp_mAnd, wp_mOr, wp_mNot, wp_mYes, wp_mPart, wp_mSl, wp_mVs, wp_mV0, wp_mC, wp_ret, wp_sub, wp_addI, wp_lt, wp_le, wp_gt, wp_ge, wp_neg, wp_eqS, wp_lenT, wp_lenL, wp_tupT, wp_tupL, Bool.not_true, Bool.not_false, Bool.false_eq_true, if_true, if_false]
      (first | exact ⟨trivial, trivial⟩ | exact ⟨rfl, trivial⟩ | exact ⟨trivial, rfl⟩ | exact ⟨rfl, rfl⟩)
    · simp only [List.set_cons_succ, List.set_cons_zero, wipeR, wp_mSeq, wp_mIfS, wp_mSet, wp_mRet, wp_mDrop, wp_mNx, wp_mPar, wp_parF, wp_mB, wp_mBin, wp_mUn, wp_mCall, wp_mFn, wp_mNil, wp_mCons, wp_mTup, wp_mLst, wp_mIf, wp_mAndV, wp_mOrV, wp_mNotV, wp_mIsN, wp_mNotN, wp_asB, wp_asI, wp_mTru, wp_truB, wp_mAnd, wp_mOr, wp_mNot, wp_mYes, wp_mPart, wp_mSl, wp_mVs, wp_mV0, wp_mC, wp_ret, wp_sub, wp_addI, wp_lt, wp_le, wp_gt, wp_ge, wp_neg, wp_eqS, wp_lenT, wp_lenL, wp_tupT, wp_tupL, Bool.not_true, Bool.not_false, Bool.false_eq_true, if_true, if_false]
      (first | exact ⟨trivial, trivial⟩ | exact ⟨rfl, trivial⟩ | exact ⟨trivial, rfl⟩ | exact ⟨rfl, rfl⟩)
    rw [filt_ends b1 hlo, wp_lim (by rw [List.length_map]; unfold endsI; split <;> simp)]
    (refine ⟨?_, ?_, ?_⟩ <;> first | trivial | rfl)
  rintro _ _ ⟨rfl, rfl⟩
  refine wp_seq (R := fun r S1 => r = [some (qD q), some (.str c), some lo, some hi, some o1, some o2, some (.lst ((endsI o1 lo).map .int)), some (.lst ((endsI o2 hi).map .int)), none, none, none, none, none] ∧ S = S1) ?_ ?_
  · simp only [List.set_cons_succ, List.set_cons_zero, wipeR, wp_mSeq, wp_mIfS, wp_mSet, wp_mRet, wp_mDrop, wp_mNx, wp_mPar, wp_parF, wp_mB, wp_mBin, wp_mUn, wp_mCall, wp_mFn, wp_mNil, wp_mCons, wp_mTup, wp_mLst, wp_mIf, wp_mAndV, wp_mOrV, wp_mNotV, wp_mIsN, wp_mNotN, wp_asB, wp_asI, wp_mTru, wp_truB, wp_mAnd, wp_mOr, wp_mNot, wp_mYes, wp_mPart, wp_mSl, wp_mVs, wp_mV0, wp_mC, wp_ret, wp_sub, wp_addI, wp_lt, wp_le, wp_gt, wp_ge, wp_neg, wp_eqS, wp_lenT, wp_lenL, wp_tupT, wp_tupL, Bool.not_true, Bool.not_false, Bool.false_eq_true, if_true, if_false, wp_mLc, wp_mISeq, mt2, src_tup]
    refine (lcD (t := fun d => !isNonD d) (f := fun d => d) (g := gV 12) (l := [o2, hi]) srcOk_nil fun d hd => ⟨_, rfl, ?_, fun _ => ?_⟩).mpr ?_
    · simp only [List.set_cons_succ, List.set_cons_zero, wipeR, wp_mSeq, wp_mIfS, wp_mSet, wp_mRet, wp_mDrop, wp_mNx, wp_mPar, wp_parF, wp_mB, wp_mBin, wp_mUn, wp_mCall, wp_mFn, wp_mNil, wp_mCons, wp_mTup, wp_mLst, wp_mIf, wp_mAndV, wp_mOrV, wp_mNotV, wp_mIsN, wp_mNotN, wp_asB, wp_asI, wp_mTru, wp_truB, wp_mAnd, wp_mOr, wp_mNot, wp_mYes, wp_mPart, wp_mSl, wp_mVs, wp_mV0, wp_mC, wp_ret, wp_sub, wp_addI, wp_lt, wp_le, wp_gt, wp_ge, wp_neg, wp_eqS, wp_lenT, wp_lenL, wp_tupT, wp_tupL, Bool.not_true, Bool.not_false, Bool.false_eq_true, if_true, if_false]
      (first | exact ⟨trivial, trivial⟩ | exact ⟨rfl, trivial⟩ | exact ⟨trivial, rfl⟩ | exact ⟨rfl, rfl⟩)
    · simp only [List.set_cons_succ, List.set_cons_zero, wipeR, wp_mSeq, wp_mIfS, wp_mSet, wp_mRet, wp_mDrop, wp_mNx, wp_mPar, wp_parF, wp_mB, wp_mBin, wp_mUn, wp_mCall, wp_mFn, wp_mNil, wp_mCons, wp_mTup, wp_mLst, wp_mIf, wp_mAndV, wp_mOrV, wp_mNotV, wp_mIsN, wp_mNotN, wp_asB, wp_asI, wp_mTru, wp_truB, wp_mAnd, wp_mOr, wp_mNot, wp_mYes, wp_mPart, wp_mSl, wp_mVs, wp_mV0, wp_mC, wp_ret, wp_sub, wp_addI, wp_lt, wp_le, wp_gt, wp_ge, wp_neg, wp_eqS, wp_lenT, wp_lenL, wp_tupT, wp_tupL, Bool.not_true, Bool.not_false, Bool.false_eq_true, if_true, if_false]
      (first | exact ⟨trivial, trivial⟩ | exact ⟨rfl, trivial⟩ | exact ⟨trivial, rfl⟩ | exact ⟨rfl, rfl⟩)
    rw [filt_ends b2 hhi, wp_lim (by rw [List.length_map]; unfold endsI; split <;> simp)]
    (refine ⟨?_, ?_, ?_⟩ <;> first | trivial | rfl)
  rintro _ _ ⟨rfl, rfl⟩
  refine wp_seq (R := fun r S1 => r = [some (qD q), some (.str c), some lo, some hi, some o1, some o2, some (.lst ((endsI o1 lo).map .int)), some (.lst ((endsI o2 hi).map .int)), some (grD o1 lo), some (lsD o2 hi), none, none, none] ∧ S = S1) ?_ ?_
  · rw [wp_mPar, wp_mCons, max_if (l := endsI o1 lo) (fun S Q => by simp only [List.set_cons_succ, List.set_cons_zero, wipeR, wp_mSeq, wp_mIfS, wp_mSet, wp_mRet, wp_mDrop, wp_mNx, wp_mPar, wp_parF, wp_mB, wp_mBin, wp_mUn, wp_mCall, wp_mFn, wp_mNil, wp_mCons, wp_mTup, wp_mLst, wp_mIf, wp_mAndV, wp_mOrV, wp_mNotV, wp_mIsN, wp_mNotN, wp_asB, wp_asI, wp_mTru, wp_truB, wp_mAnd, wp_mOr, wp_mNot, wp_mYes, wp_mPart, wp_mSl, wp_mVs, wp_mV0, wp_mC, wp_ret, wp_sub, wp_addI, wp_lt, wp_le, wp_gt, wp_ge, wp_neg, wp_eqS, wp_lenT, wp_lenL, wp_tupT, wp_tupL, Bool.not_true, Bool.not_false, Bool.false_eq_true, if_true, if_false]), wp_mCons, min_if (l := endsI o2 hi) (fun S Q => by simp only [List.set_cons_succ, List.set_cons_zero, wipeR, wp_mSeq, wp_mIfS, wp_mSet, wp_mRet, wp_mDrop, wp_mNx, wp_mPar, wp_parF, wp_mB, wp_mBin, wp_mUn, wp_mCall, wp_mFn, wp_mNil, wp_mCons, wp_mTup, wp_mLst, wp_mIf, wp_mAndV, wp_mOrV, wp_mNotV, wp_mIsN, wp_mNotN, wp_asB, wp_asI, wp_mTru, wp_truB, wp_mAnd, wp_mOr, wp_mNot, wp_mYes, wp_mPart, wp_mSl, wp_mVs, wp_mV0, wp_mC, wp_ret, wp_sub, wp_addI, wp_lt, wp_le, wp_gt, wp_ge, wp_neg, wp_eqS, wp_lenT, wp_lenL, wp_tupT, wp_tupL, Bool.not_true, Bool.not_false, Bool.false_eq_true, if_true, if_false]), e1, e2]
    simp only [List.set_cons_succ, List.set_cons_zero, wipeR, wp_mSeq, wp_mIfS, wp_mSet, wp_mRet, wp_mDrop, wp_mNx, wp_mPar, wp_parF, wp_mB, wp_mBin, wp_mUn, wp_mCall, wp_mFn, wp_mNil, wp_mCons, wp_mTup, wp_mLst, wp_mIf, wp_mAndV, wp_mOrV, wp_mNotV, wp_mIsN, wp_mNotN, wp_asB, wp_asI, wp_mTru, wp_truB, wp_mAnd, wp_mOr, wp_mNot, wp_mYes, wp_mPart, wp_mSl, wp_mVs, wp_mV0, wp_mC, wp_ret, wp_sub, wp_addI, wp_lt, wp_le, wp_gt, wp_ge, wp_neg, wp_eqS, wp_lenT, wp_lenL, wp_tupT, wp_tupL, Bool.not_true, Bool.not_false, Bool.false_eq_true, if_true, if_false]
    (refine ⟨?_, ?_, ?_⟩ <;> first | trivial | rfl)
  rintro _ _ ⟨rfl, rfl⟩
  generalize grD o1 lo = g at *
  generalize lsD o2 hi = m at *
  generalize (D.lst ((endsI o1 lo).map .int)) = l1 at *
  generalize (D.lst ((endsI o2 hi).map .int)) = l2 at *
  have c1 : ∀ (x y z : Option D) (S : Sto) (Q : Bool → Sto → Prop), Wp (mAnd (mB (mNotN (mV 8))) (mAnd (mB (mNotN (mV 9))) (mB (mBin ltM (mV 9) (mV 8)))) [some (qD q), some (.str c), some lo, some hi, some o1, some o2, some l1, some l2, some g, some m, x, y, z]) S Q ↔ Q (badB g m) S := fun x y z S Q => by
    rcases hg with rfl | ⟨i, rfl, _⟩ <;> rcases hm with rfl | ⟨j, rfl, _⟩ <;> simp only [List.set_cons_succ, List.set_cons_zero, wipeR, wp_mSeq, wp_mIfS, wp_mSet, wp_mRet, wp_mDrop, wp_mNx, wp_mPar, wp_parF, wp_mB, wp_mBin, wp_mUn, wp_mCall, wp_mFn, wp_mNil, wp_mCons, wp_mTup, wp_mLst, wp_mIf, wp_mAndV, wp_mOrV, wp_mNotV, wp_mIsN, wp_mNotN, wp_asB, wp_asI, wp_mTru, wp_truB, wp_mAnd, wp_mOr, wp_mNot, wp_mYes, wp_mPart, wp_mSl, wp_mVs, wp_mV0, wp_mC, wp_ret, wp_sub, wp_addI, wp_lt, wp_le, wp_gt, wp_ge, wp_neg, wp_eqS, wp_lenT, wp_lenL, wp_tupT, wp_tupL, Bool.not_true, Bool.not_false, Bool.false_eq_true, if_true, if_false, isNonD, badB]
  rw [wp_mSeq, wp_mIfS, c1]
  unfold nrD at k
  cases hb : badB g m with
  | true =>
    rw [hb] at k
    simp only [List.set_cons_succ, List.set_cons_zero, wipeR, wp_mSeq, wp_mIfS, wp_mSet, wp_mRet, wp_mDrop, wp_mNx, wp_mPar, wp_parF, wp_mB, wp_mBin, wp_mUn, wp_mCall, wp_mFn, wp_mNil, wp_mCons, wp_mTup, wp_mLst, wp_mIf, wp_mAndV, wp_mOrV, wp_mNotV, wp_mIsN, wp_mNotN, wp_asB, wp_asI, wp_mTru, wp_truB, wp_mAnd, wp_mOr, wp_mNot, wp_mYes, wp_mPart, wp_mSl, wp_mVs, wp_mV0, wp_mC, wp_ret, wp_sub, wp_addI, wp_lt, wp_le, wp_gt, wp_ge, wp_neg, wp_eqS, wp_lenT, wp_lenL, wp_tupT, wp_tupL, Bool.not_true, Bool.not_false, Bool.false_eq_true, if_true, if_false]
    exact k S Gr.refl
  | false =>
    rw [hb] at k
    simp only [Bool.false_eq_true, if_false] at k ⊢
    rw [wp_mNx]
    simp only
    refine wp_seq (R := fun r S1 => r = [some (qD q), some (.str c), some lo, some hi, some o1, some o2, some l1, some l2, some g, some m, some (.ref S.nx), none, none] ∧ S1 = S.new (.lst [])) (by simp only [List.set_cons_succ, List.set_cons_zero, wipeR, wp_mSeq, wp_mIfS, wp_mSet, wp_mRet, wp_mDrop, wp_mNx, wp_mPar, wp_parF, wp_mB, wp_mBin, wp_mUn, wp_mCall, wp_mFn, wp_mNil, wp_mCons, wp_mTup, wp_mLst, wp_mIf, wp_mAndV, wp_mOrV, wp_mNotV, wp_mIsN, wp_mNotN, wp_asB, wp_asI, wp_mTru, wp_truB, wp_mAnd, wp_mOr, wp_mNot, wp_mYes, wp_mPart, wp_mSl, wp_mVs, wp_mV0, wp_mC, wp_ret, wp_sub, wp_addI, wp_lt, wp_le, wp_gt, wp_ge, wp_neg, wp_eqS, wp_lenT, wp_lenL, wp_tupT, wp_tupL, Bool.not_true, Bool.not_false, Bool.false_eq_true, if_true, if_false, wp_mNew, new_nil]; (refine ⟨?_, ?_, ?_⟩ <;> first | trivial | rfl)) ?_
    rintro _ _ ⟨rfl, rfl⟩
    have hl := h.rl
    refine wp_seq (R := fun r S1 => (∃ y, r = [some (qD q), some (.str c), some lo, some hi, some o1, some o2, some l1, some l2, some g, some m, some (.ref S.nx), y, none]) ∧ S1.ob S.nx = some (.lst ((q.rs.flatMap (outR c g m)).map rnD)) ∧ Gr S S1) ?_ ?_
    · rw [wp_mFor, wp_mISeq]
      simp only [List.set_cons_succ, List.set_cons_zero, wipeR, wp_mSeq, wp_mIfS, wp_mSet, wp_mRet, wp_mDrop, wp_mNx, wp_mPar, wp_parF, wp_mB, wp_mBin, wp_mUn, wp_mCall, wp_mFn, wp_mNil, wp_mCons, wp_mTup, wp_mLst, wp_mIf, wp_mAndV, wp_mOrV, wp_mNotV, wp_mIsN, wp_mNotN, wp_asB, wp_asI, wp_mTru, wp_truB, wp_mAnd, wp_mOr, wp_mNot, wp_mYes, wp_mPart, wp_mSl, wp_mVs, wp_mV0, wp_mC, wp_ret, wp_sub, wp_addI, wp_lt, wp_le, wp_gt, wp_ge, wp_neg, wp_eqS, wp_lenT, wp_lenL, wp_tupT, wp_tupL, Bool.not_true, Bool.not_false, Bool.false_eq_true, if_true, if_false, iq2, src_tup]
      refine (loopA_done (src := ⟨q.rs.map rnD, []⟩) (l := q.rs) (pre := []) (c := rnD) (I := fun done r S1 => (∃ y, r = [some (qD q), some (.str c), some lo, some hi, some o1, some o2, some l1, some l2, some g, some m, some (.ref S.nx), y, none]) ∧ S1.ob S.nx = some (.lst ((done.flatMap (outR c g m)).map rnD)) ∧ Gr S S1) (fun _ _ _ _ => srcOk_nil) ⟨⟨_, rfl⟩, by rw [Sto.new_ob, if_pos rfl]; rfl, Gr.refl.new⟩ ?_).mono fun p S1 hh => hh
      rintro done r rest e _ S1 ⟨⟨y, rfl⟩, ho, gr⟩
      have hdl : (done.flatMap (outR c g m)).length ≤ 6 := by
        have h9 := congrArg List.length e
        rw [List.nil_append, List.length_append] at h9
        exact Nat.le_trans outR_len (by omega)
      refine ⟨_, rfl, ?_⟩
      have app : ∀ (d : D), Wp (appM (.ref S.nx) [d]) S1 fun _ S2 => S2.ob S.nx = some (.lst ((done.flatMap (outR c g m)).map rnD ++ [d])) ∧ Gr S S2 := fun d => by
        rw [app_wp ho (by rw [List.length_map]; omega)]
        exact ⟨ob_set, gr.setN (Nat.le_refl _)⟩
      cases hrc : (r.c == c) with
      | false =>
        have ho1 : outR c g m r = [r] := by unfold outR; rw [hrc]; rfl
        simp only [List.set_cons_succ, List.set_cons_zero, wipeR, wp_mSeq, wp_mIfS, wp_mSet, wp_mRet, wp_mDrop, wp_mNx, wp_mPar, wp_parF, wp_mB, wp_mBin, wp_mUn, wp_mCall, wp_mFn, wp_mNil, wp_mCons, wp_mTup, wp_mLst, wp_mIf, wp_mAndV, wp_mOrV, wp_mNotV, wp_mIsN, wp_mNotN, wp_asB, wp_asI, wp_mTru, wp_truB, wp_mAnd, wp_mOr, wp_mNot, wp_mYes, wp_mPart, wp_mSl, wp_mVs, wp_mV0, wp_mC, wp_ret, wp_sub, wp_addI, wp_lt, wp_le, wp_gt, wp_ge, wp_neg, wp_eqS, wp_lenT, wp_lenL, wp_tupT, wp_tupL, Bool.not_true, Bool.not_false, Bool.false_eq_true, if_true, if_false, rn0, wp_neS, hrc, wp_mMet]
        refine (wp_ref (f := appM) ho).mpr ?_
        simp only [List.set_cons_succ, List.set_cons_zero, wipeR, wp_mSeq, wp_mIfS, wp_mSet, wp_mRet, wp_mDrop, wp_mNx, wp_mPar, wp_parF, wp_mB, wp_mBin, wp_mUn, wp_mCall, wp_mFn, wp_mNil, wp_mCons, wp_mTup, wp_mLst, wp_mIf, wp_mAndV, wp_mOrV, wp_mNotV, wp_mIsN, wp_mNotN, wp_asB, wp_asI, wp_mTru, wp_truB, wp_mAnd, wp_mOr, wp_mNot, wp_mYes, wp_mPart, wp_mSl, wp_mVs, wp_mV0, wp_mC, wp_ret, wp_sub, wp_addI, wp_lt, wp_le, wp_gt, wp_ge, wp_neg, wp_eqS, wp_lenT, wp_lenL, wp_tupT, wp_tupL, Bool.not_true, Bool.not_false, Bool.false_eq_true, if_true, if_false]
        refine (app (rnD r)).mono fun _ S2 ⟨h1, h2⟩ => ⟨trivial, ⟨_, rfl⟩, ?_, h2⟩
        rw [h1, List.flatMap_append, List.map_append]
        simp only [List.flatMap_cons, List.flatMap_nil, List.append_nil, ho1, List.map_cons, List.map_nil]
      | true =>
        cases hn : (isNonD g && isNonD m) with
        | true =>
          obtain ⟨g1, m1⟩ : isNonD g = true ∧ isNonD m = true := by simpa using hn
          have ho1 : outR c g m r = [] := by unfold outR; rw [hrc, hn]; rfl
          simp only [List.set_cons_succ, List.set_cons_zero, wipeR, wp_mSeq, wp_mIfS, wp_mSet, wp_mRet, wp_mDrop, wp_mNx, wp_mPar, wp_parF, wp_mB, wp_mBin, wp_mUn, wp_mCall, wp_mFn, wp_mNil, wp_mCons, wp_mTup, wp_mLst, wp_mIf, wp_mAndV, wp_mOrV, wp_mNotV, wp_mIsN, wp_mNotN, wp_asB, wp_asI, wp_mTru, wp_truB, wp_mAnd, wp_mOr, wp_mNot, wp_mYes, wp_mPart, wp_mSl, wp_mVs, wp_mV0, wp_mC, wp_ret, wp_sub, wp_addI, wp_lt, wp_le, wp_gt, wp_ge, wp_neg, wp_eqS, wp_lenT, wp_lenL, wp_tupT, wp_tupL, Bool.not_true, Bool.not_false, Bool.false_eq_true, if_true, if_false, rn0, wp_neS, hrc, g1, m1]
          refine ⟨trivial, ⟨_, rfl⟩, ?_, gr⟩
          rw [ho, List.flatMap_append]
          simp only [List.flatMap_cons, List.flatMap_nil, List.append_nil, ho1]
        | false =>
          have ho1 : outR c g m r = [⟨c, g, m⟩] := by unfold outR; rw [hrc, hn]; rfl
          have fin : Wp (appM (.ref S.nx) [.tup [.str c, g, m]]) S1 fun _ S2 => True ∧ (∃ y, [some (qD q), some (.str c), some lo, some hi, some o1, some o2, some l1, some l2, some g, some m, some (.ref S.nx), some (rnD r), none] = [some (qD q), some (.str c), some lo, some hi, some o1, some o2, some l1, some l2, some g, some m, some (.ref S.nx), y, none]) ∧ S2.ob S.nx = some (.lst (((done ++ [r]).flatMap (outR c g m)).map rnD)) ∧ Gr S S2 := (app (rnD ⟨c, g, m⟩)).mono fun _ S2 ⟨h1, h2⟩ => ⟨trivial, ⟨_, rfl⟩, by
            rw [h1, List.flatMap_append, List.map_append]
            simp only [List.flatMap_cons, List.flatMap_nil, List.append_nil, ho1, List.map_cons, List.map_nil], h2⟩
          cases g1 : isNonD g with
          | false =>
            simp only [List.set_cons_succ, List.set_cons_zero, wipeR, wp_mSeq, wp_mIfS, wp_mSet, wp_mRet, wp_mDrop, wp_mNx, wp_mPar, wp_parF, wp_mB, wp_mBin, wp_mUn, wp_mCall, wp_mFn, wp_mNil, wp_mCons, wp_mTup, wp_mLst, wp_mIf, wp_mAndV, wp_mOrV, wp_mNotV, wp_mIsN, wp_mNotN, wp_asB, wp_asI, wp_mTru, wp_truB, wp_mAnd, wp_mOr, wp_mNot, wp_mYes, wp_mPart, wp_mSl, wp_mVs, wp_mV0, wp_mC, wp_ret, wp_sub, wp_addI, wp_lt, wp_le, wp_gt, wp_ge, wp_neg, wp_eqS, wp_lenT, wp_lenL, wp_tupT, wp_tupL, Bool.not_true, Bool.not_false, Bool.false_eq_true, if_true, if_false, rn0, wp_neS, hrc, g1, wp_mMet]
            refine (wp_ref (f := appM) ho).mpr ?_
            simp only [List.set_cons_succ, List.set_cons_zero, wipeR, wp_mSeq, wp_mIfS, wp_mSet, wp_mRet, wp_mDrop, wp_mNx, wp_mPar, wp_parF, wp_mB, wp_mBin, wp_mUn, wp_mCall, wp_mFn, wp_mNil, wp_mCons, wp_mTup, wp_mLst, wp_mIf, wp_mAndV, wp_mOrV, wp_mNotV, wp_mIsN, wp_mNotN, wp_asB, wp_asI, wp_mTru, wp_truB, wp_mAnd, wp_mOr, wp_mNot, wp_mYes, wp_mPart, wp_mSl, wp_mVs, wp_mV0, wp_mC, wp_ret, wp_sub, wp_addI, wp_lt, wp_le, wp_gt, wp_ge, wp_neg, wp_eqS, wp_lenT, wp_lenL, wp_tupT, wp_tupL, Bool.not_true, Bool.not_false, Bool.false_eq_true, if_true, if_false, mt3]
            exact fin
          | true =>
            have m1 : isNonD m = false := by rw [g1, Bool.true_and] at hn; exact hn
            simp only [List.set_cons_succ, List.set_cons_zero, wipeR, wp_mSeq, wp_mIfS, wp_mSet, wp_mRet, wp_mDrop, wp_mNx, wp_mPar, wp_parF, wp_mB, wp_mBin, wp_mUn, wp_mCall, wp_mFn, wp_mNil, wp_mCons, wp_mTup, wp_mLst, wp_mIf, wp_mAndV, wp_mOrV, wp_mNotV, wp_mIsN, wp_mNotN, wp_asB, wp_asI, wp_mTru, wp_truB, wp_mAnd, wp_mOr, wp_mNot, wp_mYes, wp_mPart, wp_mSl, wp_mVs, wp_mV0, wp_mC, wp_ret, wp_sub, wp_addI, wp_lt, wp_le, wp_gt, wp_ge, wp_neg, wp_eqS, wp_lenT, wp_lenL, wp_tupT, wp_tupL, Bool.not_true, Bool.not_false, Bool.false_eq_true, if_true, if_false, rn0, wp_neS, hrc, g1, m1, wp_mMet]
            refine (wp_ref (f := appM) ho).mpr ?_
            simp only [List.set_cons_succ, List.set_cons_zero, wipeR, wp_mSeq, wp_mIfS, wp_mSet, wp_mRet, wp_mDrop, wp_mNx, wp_mPar, wp_parF, wp_mB, wp_mBin, wp_mUn, wp_mCall, wp_mFn, wp_mNil, wp_mCons, wp_mTup, wp_mLst, wp_mIf, wp_mAndV, wp_mOrV, wp_mNotV, wp_mIsN, wp_mNotN, wp_asB, wp_asI, wp_mTru, wp_truB, wp_mAnd, wp_mOr, wp_mNot, wp_mYes, wp_mPart, wp_mSl, wp_mVs, wp_mV0, wp_mC, wp_ret, wp_sub, wp_addI, wp_lt, wp_le, wp_gt, wp_ge, wp_neg, wp_eqS, wp_lenT, wp_lenL, wp_tupT, wp_tupL, Bool.not_true, Bool.not_false, Bool.false_eq_true, if_true, if_false, mt3]
            exact fin
    rintro _ S1 ⟨⟨y, rfl⟩, ho, gr⟩
    have hfl : (q.rs.flatMap (outR c g m)).length ≤ 6 := Nat.le_trans outR_len hl
    refine wp_seq (R := fun r S2 => r = [some (qD q), some (.str c), some lo, some hi, some o1, some o2, some l1, some l2, some g, some m, some (.ref S.nx), y, none] ∧ S2.ob S.nx = some (.lst ((nrR q.rs c g m).map rnD)) ∧ Gr S S2) ?_ ?_
    · have e3 : (q.rs.map fun r : Rn => D.str r.c) = (q.rs.map Rn.c).map .str := by rw [List.map_map]; rfl
      have nr := outR_nr (c := c) (g := g) (m := m) (rs := q.rs)
      simp only [List.set_cons_succ, List.set_cons_zero, wipeR, wp_mSeq, wp_mIfS, wp_mSet, wp_mRet, wp_mDrop, wp_mNx, wp_mPar, wp_parF, wp_mB, wp_mBin, wp_mUn, wp_mCall, wp_mFn, wp_mNil, wp_mCons, wp_mTup, wp_mLst, wp_mIf, wp_mAndV, wp_mOrV, wp_mNotV, wp_mIsN, wp_mNotN, wp_asB, wp_asI, wp_mTru, wp_truB, wp_mAnd, wp_mOr, wp_mNot, wp_mYes, wp_mPart, wp_mSl, wp_mVs, wp_mV0, wp_mC, wp_ret, wp_sub, wp_addI, wp_lt, wp_le, wp_gt, wp_ge, wp_neg, wp_eqS, wp_lenT, wp_lenL, wp_tupT, wp_tupL, Bool.not_true, Bool.not_false, Bool.false_eq_true, if_true, if_false, wp_mLc, wp_mISeq, iq2, src_tup]
      refine (lcA (g := gV 11) (t := fun _ => true) (f := fun r : Rn => D.str r.c) (c := rnD) (l := q.rs) srcOk_nil fun r hr => ⟨_, rfl, ?_, fun _ => ?_⟩).mpr ?_
      · simp only [List.set_cons_succ, List.set_cons_zero, wipeR, wp_mSeq, wp_mIfS, wp_mSet, wp_mRet, wp_mDrop, wp_mNx, wp_mPar, wp_parF, wp_mB, wp_mBin, wp_mUn, wp_mCall, wp_mFn, wp_mNil, wp_mCons, wp_mTup, wp_mLst, wp_mIf, wp_mAndV, wp_mOrV, wp_mNotV, wp_mIsN, wp_mNotN, wp_asB, wp_asI, wp_mTru, wp_truB, wp_mAnd, wp_mOr, wp_mNot, wp_mYes, wp_mPart, wp_mSl, wp_mVs, wp_mV0, wp_mC, wp_ret, wp_sub, wp_addI, wp_lt, wp_le, wp_gt, wp_ge, wp_neg, wp_eqS, wp_lenT, wp_lenL, wp_tupT, wp_tupL, Bool.not_true, Bool.not_false, Bool.false_eq_true, if_true, if_false]
        (first | exact ⟨trivial, trivial⟩ | exact ⟨rfl, trivial⟩ | exact ⟨trivial, rfl⟩ | exact ⟨rfl, rfl⟩)
      · simp only [List.set_cons_succ, List.set_cons_zero, wipeR, wp_mSeq, wp_mIfS, wp_mSet, wp_mRet, wp_mDrop, wp_mNx, wp_mPar, wp_parF, wp_mB, wp_mBin, wp_mUn, wp_mCall, wp_mFn, wp_mNil, wp_mCons, wp_mTup, wp_mLst, wp_mIf, wp_mAndV, wp_mOrV, wp_mNotV, wp_mIsN, wp_mNotN, wp_asB, wp_asI, wp_mTru, wp_truB, wp_mAnd, wp_mOr, wp_mNot, wp_mYes, wp_mPart, wp_mSl, wp_mVs, wp_mV0, wp_mC, wp_ret, wp_sub, wp_addI, wp_lt, wp_le, wp_gt, wp_ge, wp_neg, wp_eqS, wp_lenT, wp_lenL, wp_tupT, wp_tupL, Bool.not_true, Bool.not_false, Bool.false_eq_true, if_true, if_false, rn0]
        (first | exact ⟨trivial, trivial⟩ | exact ⟨rfl, trivial⟩ | exact ⟨trivial, rfl⟩ | exact ⟨rfl, rfl⟩)
      rw [filt_true, wp_lim (by rw [List.length_map]; omega), e3, ni_lst hc (fun x hx => by obtain ⟨r, hr, rfl⟩ := List.mem_map.mp hx; exact (h.rok r hr).1)]
      cases hin : decide (c ∈ q.rs.map Rn.c) with
      | true =>
        rw [if_neg (by rw [hin]; simp)] at nr
        simp only [List.set_cons_succ, List.set_cons_zero, wipeR, wp_mSeq, wp_mIfS, wp_mSet, wp_mRet, wp_mDrop, wp_mNx, wp_mPar, wp_parF, wp_mB, wp_mBin, wp_mUn, wp_mCall, wp_mFn, wp_mNil, wp_mCons, wp_mTup, wp_mLst, wp_mIf, wp_mAndV, wp_mOrV, wp_mNotV, wp_mIsN, wp_mNotN, wp_asB, wp_asI, wp_mTru, wp_truB, wp_mAnd, wp_mOr, wp_mNot, wp_mYes, wp_mPart, wp_mSl, wp_mVs, wp_mV0, wp_mC, wp_ret, wp_sub, wp_addI, wp_lt, wp_le, wp_gt, wp_ge, wp_neg, wp_eqS, wp_lenT, wp_lenL, wp_tupT, wp_tupL, Bool.not_true, Bool.not_false, Bool.false_eq_true, if_true, if_false]
        exact ⟨trivial, trivial, by rw [← nr]; exact ho, gr⟩
      | false =>
        cases hn : (isNonD g && isNonD m) with
        | true =>
          rw [if_neg (by rw [hn]; simp)] at nr
          obtain ⟨g1, m1⟩ : isNonD g = true ∧ isNonD m = true := by simpa using hn
          simp only [List.set_cons_succ, List.set_cons_zero, wipeR, wp_mSeq, wp_mIfS, wp_mSet, wp_mRet, wp_mDrop, wp_mNx, wp_mPar, wp_parF, wp_mB, wp_mBin, wp_mUn, wp_mCall, wp_mFn, wp_mNil, wp_mCons, wp_mTup, wp_mLst, wp_mIf, wp_mAndV, wp_mOrV, wp_mNotV, wp_mIsN, wp_mNotN, wp_asB, wp_asI, wp_mTru, wp_truB, wp_mAnd, wp_mOr, wp_mNot, wp_mYes, wp_mPart, wp_mSl, wp_mVs, wp_mV0, wp_mC, wp_ret, wp_sub, wp_addI, wp_lt, wp_le, wp_gt, wp_ge, wp_neg, wp_eqS, wp_lenT, wp_lenL, wp_tupT, wp_tupL, Bool.not_true, Bool.not_false, Bool.false_eq_true, if_true, if_false, g1, m1]
          exact ⟨trivial, trivial, by rw [← nr]; exact ho, gr⟩
        | false =>
          rw [if_pos ⟨hin, hn⟩] at nr
          have fin : Wp (appM (.ref S.nx) [.tup [.str c, g, m]]) S1 fun _ S2 => True ∧ True ∧ S2.ob S.nx = some (.lst ((nrR q.rs c g m).map rnD)) ∧ Gr S S2 := by
            rw [app_wp ho (by rw [List.length_map]; omega)]
            exact ⟨trivial, trivial, by rw [ob_set, ← nr, List.map_append]; rfl, gr.setN (Nat.le_refl _)⟩
          cases g1 : isNonD g with
          | false =>
            simp only [List.set_cons_succ, List.set_cons_zero, wipeR, wp_mSeq, wp_mIfS, wp_mSet, wp_mRet, wp_mDrop, wp_mNx, wp_mPar, wp_parF, wp_mB, wp_mBin, wp_mUn, wp_mCall, wp_mFn, wp_mNil, wp_mCons, wp_mTup, wp_mLst, wp_mIf, wp_mAndV, wp_mOrV, wp_mNotV, wp_mIsN, wp_mNotN, wp_asB, wp_asI, wp_mTru, wp_truB, wp_mAnd, wp_mOr, wp_mNot, wp_mYes, wp_mPart, wp_mSl, wp_mVs, wp_mV0, wp_mC, wp_ret, wp_sub, wp_addI, wp_lt, wp_le, wp_gt, wp_ge, wp_neg, wp_eqS, wp_lenT, wp_lenL, wp_tupT, wp_tupL, Bool.not_true, Bool.not_false, Bool.false_eq_true, if_true, if_false, g1, wp_mMet]
            refine (wp_ref (f := appM) ho).mpr ?_
            simp only [List.set_cons_succ, List.set_cons_zero, wipeR, wp_mSeq, wp_mIfS, wp_mSet, wp_mRet, wp_mDrop, wp_mNx, wp_mPar, wp_parF, wp_mB, wp_mBin, wp_mUn, wp_mCall, wp_mFn, wp_mNil, wp_mCons, wp_mTup, wp_mLst, wp_mIf, wp_mAndV, wp_mOrV, wp_mNotV, wp_mIsN, wp_mNotN, wp_asB, wp_asI, wp_mTru, wp_truB, wp_mAnd, wp_mOr, wp_mNot, wp_mYes, wp_mPart, wp_mSl, wp_mVs, wp_mV0, wp_mC, wp_ret, wp_sub, wp_addI, wp_lt, wp_le, wp_gt, wp_ge, wp_neg, wp_eqS, wp_lenT, wp_lenL, wp_tupT, wp_tupL, Bool.not_true, Bool.not_false, Bool.false_eq_true, if_true, if_false, mt3]
            exact fin
          | true =>
            have m1 : isNonD m = false := by rw [g1, Bool.true_and] at hn; exact hn
            simp only [List.set_cons_succ, List.set_cons_zero, wipeR, wp_mSeq, wp_mIfS, wp_mSet, wp_mRet, wp_mDrop, wp_mNx, wp_mPar, wp_parF, wp_mB, wp_mBin, wp_mUn, wp_mCall, wp_mFn, wp_mNil, wp_mCons, wp_mTup, wp_mLst, wp_mIf, wp_mAndV, wp_mOrV, wp_mNotV, wp_mIsN, wp_mNotN, wp_asB, wp_asI, wp_mTru, wp_truB, wp_mAnd, wp_mOr, wp_mNot, wp_mYes, wp_mPart, wp_mSl, wp_mVs, wp_mV0, wp_mC, wp_ret, wp_sub, wp_addI, wp_lt, wp_le, wp_gt, wp_ge, wp_neg, wp_eqS, wp_lenT, wp_lenL, wp_tupT, wp_tupL, Bool.not_true, Bool.not_false, Bool.false_eq_true, if_true, if_false, g1, m1, wp_mMet]
            refine (wp_ref (f := appM) ho).mpr ?_
            simp only [List.set_cons_succ, List.set_cons_zero, wipeR, wp_mSeq, wp_mIfS, wp_mSet, wp_mRet, wp_mDrop, wp_mNx, wp_mPar, wp_parF, wp_mB, wp_mBin, wp_mUn, wp_mCall, wp_mFn, wp_mNil, wp_mCons, wp_mTup, wp_mLst, wp_mIf, wp_mAndV, wp_mOrV, wp_mNotV, wp_mIsN, wp_mNotN, wp_asB, wp_asI, wp_mTru, wp_truB, wp_mAnd, wp_mOr, wp_mNot, wp_mYes, wp_mPart, wp_mSl, wp_mVs, wp_mV0, wp_mC, wp_ret, wp_sub, wp_addI, wp_lt, wp_le, wp_gt, wp_ge, wp_neg, wp_eqS, wp_lenT, wp_lenL, wp_tupT, wp_tupL, Bool.not_true, Bool.not_false, Bool.false_eq_true, if_true, if_false, mt3]
            exact fin
    rintro _ S2 ⟨rfl, ho2, gr2⟩
    have s2 : ∀ (S : Sto) (Q : D → Sto → Prop), Wp (slM (qD q) none (some 2)) S Q ↔ Q (.tup [.tup (q.cols.map .str), .tup (q.atoms.map atomD)]) S := fun S Q => wp_some rfl
    simp only [List.set_cons_succ, List.set_cons_zero, wipeR, wp_mSeq, wp_mIfS, wp_mSet, wp_mRet, wp_mDrop, wp_mNx, wp_mPar, wp_parF, wp_mB, wp_mBin, wp_mUn, wp_mCall, wp_mFn, wp_mNil, wp_mCons, wp_mTup, wp_mLst, wp_mIf, wp_mAndV, wp_mOrV, wp_mNotV, wp_mIsN, wp_mNotN, wp_asB, wp_asI, wp_mTru, wp_truB, wp_mAnd, wp_mOr, wp_mNot, wp_mYes, wp_mPart, wp_mSl, wp_mVs, wp_mV0, wp_mC, wp_ret, wp_sub, wp_addI, wp_lt, wp_le, wp_gt, wp_ge, wp_neg, wp_eqS, wp_lenT, wp_lenL, wp_tupT, wp_tupL, Bool.not_true, Bool.not_false, Bool.false_eq_true, if_true, if_false, s2, wp_tupR ho2, Mn.mt1]
    rw [wp_addT (by simp)]
    exact k S2 gr2
/-! ### near points -/
theorem El.ok {d : D} (h : El d) : ∃ p, OkD 50 0 d p := by
  rcases h with ⟨i, rfl, h1, h2⟩ | rfl | rfl | rfl
  · exact ⟨_, (OkD.int h1 h2).mono (by omega) (Nat.le_refl _)⟩
  · exact ⟨_, OkD.bl.mono (Nat.zero_le _) (Nat.le_refl _)⟩
  · exact ⟨_, OkD.non.mono (Nat.zero_le _) (Nat.le_refl _)⟩
  · exact ⟨_, (OkD.str (n := 0) ⟨by decide +kernel, by decide +kernel⟩).mono (by omega) (Nat.le_refl _)⟩
theorem Th.tup {ds : List D} (hl : ds.length ≤ 20) (h : ∀ x ∈ ds, El x) : Th (.tup ds) := by
  obtain ⟨ps, hp⟩ := OkL.all (a := 50) (n := 0) fun x hx => (h x hx).ok
  exact ⟨⟨_, fun S Q => wp_repr hp.tup (by omega) (by omega)⟩, .inl ⟨ds, rfl, hl, h⟩⟩
theorem Th.lst {ds : List D} (hl : ds.length ≤ 20) (h : ∀ x ∈ ds, El x) : Th (.lst ds) := by
  obtain ⟨ps, hp⟩ := OkL.all (a := 50) (n := 0) fun x hx => (h x hx).ok
  exact ⟨⟨_, fun S Q => wp_repr hp.lst (by omega) (by omega)⟩, .inr ⟨fun ds h => (nomatch h), fun S Q => isi_wp rfl (by decide +kernel)⟩⟩
theorem Th.non : Th .non := ⟨⟨_, fun S Q => wp_repr (OkD.non (c := 0) (n := 0)) (by omega) (by omega)⟩, .inr ⟨fun ds h => (nomatch h), fun S Q => isi_wp rfl (by decide +kernel)⟩⟩
theorem Th.int {i : Int} (h1 : -999999999999 ≤ i) (h2 : i ≤ 999999999999) : Th (.int i) := ⟨⟨_, fun S Q => wp_repr (OkD.int (n := 0) h1 h2) (by omega) (by omega)⟩, .inr ⟨fun ds h => (nomatch h), fun S Q => isi_wp rfl (by decide +kernel)⟩⟩
theorem Th.str {x : Str} (h : Sm x) : Th (.str x) := ⟨⟨_, fun S Q => wp_repr (OkD.str (n := 0) h) (by omega) (by omega)⟩, .inr ⟨fun ds h => (nomatch h), fun S Q => isi_wp rfl (by decide +kernel)⟩⟩
theorem Th.dic : Th (.dic [] []) := ⟨⟨_, fun S Q => wp_some (by unfold reprM; rw [show dic0 [D.dic [] []] = true from rfl]; rfl)⟩, .inr ⟨fun ds h => (nomatch h), fun S Q => isi_wp rfl (by decide +kernel)⟩⟩
end
section
variable {S : Sto} {b : Nat} {Q : D → Sto → Prop}
theorem some_ints {l : List Int} (hb : Bag S b) (h0 : 0 < l.length) (h1 : l.length < 1000) (k : ∀ v S', v ∈ l → Bag S' b → Kp b S S' → Q (.int v) S') :
    Wp (if [D.ref b, D.lst (l.map .int)].length = P_law_some.length then d_law_some [.ref b, .lst (l.map .int)] else fail) S Q := some_fn hb (.inl rfl) (by rw [List.length_map]; exact h0) (by rw [List.length_map]; exact h1) fun d S' hd g kp => by
  obtain ⟨x, hx, rfl⟩ := List.mem_map.mp hd
  exact k x S' hx g kp
theorem ends_mem {a b : D} (h : Bnd a) (k : Bnd b) : ∀ v ∈ endsI a b, -10 ≤ v ∧ v ≤ 10 := by
  rcases h with rfl | ⟨i, rfl, h1, h2⟩ <;> rcases k with rfl | ⟨j, rfl, k1, k2⟩ <;> intro v hv <;> simp [endsI] at hv
  · rw [hv]; exact ⟨k1, k2⟩
  · rw [hv]; exact ⟨h1, h2⟩
  · rcases hv with rfl | rfl
    · exact ⟨h1, h2⟩
    · exact ⟨k1, k2⟩
theorem ends_len {a b : D} : (endsI a b).length ≤ 2 := by unfold endsI; split <;> simp
theorem pow9 {S : Sto} {Q : D → Sto → Prop} : Wp (powM (.int 10) (.int 9)) S Q ↔ Q (.int 1000000000) S := by
  have := wp_pow (S := S) (Q := Q) (i := 10) (j := 9) (by decide) (by decide) (by decide)
  rw [show (10 : Int) ^ ((9 : Int).toNat) = 1000000000 from by decide] at this
  exact this
theorem src_pr {p : D × D} {S : Sto} {QI : Src → Sto → Prop} : Wp (fun S => (srcOf (prD p) S).map fun s => (s, S)) S QI ↔ QI ⟨[p.1, p.2], []⟩ S := wp_some rfl
theorem near_fn {q : Qu} (h : OkQ q) (hb : Bag S b) (hlt : b < S.nx) (fin : ∀ d S', Th d → Bag S' b → Kp b S S' → Q d S') :
    Wp (if [D.ref b, qD q].length = P_law_near_point.length then d_law_near_point [.ref b, qD q] else fail) S Q := by
  rw [if_pos (show [D.ref b, qD q].length = P_law_near_point.length from rfl)]
  unfold d_law_near_point
  rw [wp_def, show startR N_law_near_point.length [D.ref b, qD q] = [some (.ref b), some (qD q), none, none, none, none, none, none] from rfl]
  unfold b_law_near_point
  refine wp_seq (R := fun r S1 => r = [some (.ref b), some (qD q), some (.ref S.nx), none, none, none, none, none] ∧ S1 = S.new (.lst [])) (by simp only [List.set_cons_succ, List.set_cons_zero, wipeR, wp_mSeq, wp_mIfS, wp_mSet, wp_mRet, wp_mDrop, wp_mNx, wp_mPar, wp_parF, wp_mB, wp_mBin, wp_mUn, wp_mCall, wp_mFn, wp_mNil, wp_mCons, wp_mTup, wp_mLst, wp_mIf, wp_mAndV, wp_mOrV, wp_mNotV, wp_mIsN, wp_mNotN, wp_asB, wp_asI, wp_mTru, wp_truB, wp_mAnd, wp_mOr, wp_mNot, wp_mYes, wp_mPart, wp_mSl, wp_mVs, wp_mV0, wp_mC, wp_ret, wp_sub, wp_addI, wp_lt, wp_le, wp_gt, wp_ge, wp_neg, wp_eqS, wp_lenT, wp_lenL, wp_tupT, wp_tupL, Bool.not_true, Bool.not_false, Bool.false_eq_true, if_true, if_false, wp_mNew, new_nil]; (refine ⟨?_, ?_, ?_⟩ <;> first | trivial | rfl)) ?_
  rintro _ _ ⟨rfl, rfl⟩
  have nb : S.nx ≠ b := Nat.ne_of_gt hlt
  refine wp_seq (R := fun r S1 => (∃ x3 x4, r = [some (.ref b), some (qD q), some (.ref S.nx), x3, x4, none, none, none]) ∧ (∃ vs : List Int, vs.length = q.cols.length ∧ (∀ v ∈ vs, -9999999999 ≤ v ∧ v ≤ 9999999999) ∧ S1.ob S.nx = some (.lst (vs.map .int))) ∧ Bag S1 b ∧ Kp b S S1) ?_ ?_
  · rw [wp_mFor, wp_mISeq]
    simp only [List.set_cons_succ, List.set_cons_zero, wipeR, wp_mSeq, wp_mIfS, wp_mSet, wp_mRet, wp_mDrop, wp_mNx, wp_mPar, wp_parF, wp_mB, wp_mBin, wp_mUn, wp_mCall, wp_mFn, wp_mNil, wp_mCons, wp_mTup, wp_mLst, wp_mIf, wp_mAndV, wp_mOrV, wp_mNotV, wp_mIsN, wp_mNotN, wp_asB, wp_asI, wp_mTru, wp_truB, wp_mAnd, wp_mOr, wp_mNot, wp_mYes, wp_mPart, wp_mSl, wp_mVs, wp_mV0, wp_mC, wp_ret, wp_sub, wp_addI, wp_lt, wp_le, wp_gt, wp_ge, wp_neg, wp_eqS, wp_lenT, wp_lenL, wp_tupT, wp_tupL, Bool.not_true, Bool.not_false, Bool.false_eq_true, if_true, if_false, iq0, src_tup]
    refine (loopA_done (src := ⟨q.cols.map .str, []⟩) (l := q.cols) (pre := []) (c := D.str) (I := fun done r S1 => (∃ x3 x4, r = [some (.ref b), some (qD q), some (.ref S.nx), x3, x4, none, none, none]) ∧ (∃ vs : List Int, vs.length = done.length ∧ (∀ v ∈ vs, -9999999999 ≤ v ∧ v ≤ 9999999999) ∧ S1.ob S.nx = some (.lst (vs.map .int))) ∧ (Bag S1 b ∧ Kp b S S1) ∧ S.nx < S1.nx) (fun _ _ _ _ => srcOk_nil) ⟨⟨_, _, rfl⟩, ⟨[], rfl, (fun v hv => nomatch hv), by rw [Sto.new_ob, if_pos rfl]; rfl⟩, ⟨hb.new hlt, Kp.refl.new⟩, Nat.lt_succ_self _⟩ ?_).mono fun p S1 hh => ⟨hh.1, hh.2.1, hh.2.2.1, hh.2.2.2.1⟩
    rintro done c rest e _ S1 ⟨⟨x3, x4, rfl⟩, ⟨vs, hvl, hvb, ho⟩, ⟨g1, k1⟩, hx1⟩
    have hdl : done.length ≤ 6 := by
      have h9 := congrArg List.length e
      have := h.c
      rw [List.nil_append, List.length_append] at h9
      omega
    refine ⟨_, rfl, ?_⟩
    obtain ⟨b1, b2⟩ := rgOf_bnd h c
    refine wp_seq (R := fun r S2 => r = [some (.ref b), some (qD q), some (.ref S.nx), some (.str c), some (.lst ((endsI (rgOf q.rs c).1 (rgOf q.rs c).2 ++ [0, 3]).map .int)), none, none, none] ∧ S1 = S2) ?_ ?_
    · simp only [List.set_cons_succ, List.set_cons_zero, wipeR, wp_mSeq, wp_mIfS, wp_mSet, wp_mRet, wp_mDrop, wp_mNx, wp_mPar, wp_parF, wp_mB, wp_mBin, wp_mUn, wp_mCall, wp_mFn, wp_mNil, wp_mCons, wp_mTup, wp_mLst, wp_mIf, wp_mAndV, wp_mOrV, wp_mNotV, wp_mIsN, wp_mNotN, wp_asB, wp_asI, wp_mTru, wp_truB, wp_mAnd, wp_mOr, wp_mNot, wp_mYes, wp_mPart, wp_mSl, wp_mVs, wp_mV0, wp_mC, wp_ret, wp_sub, wp_addI, wp_lt, wp_le, wp_gt, wp_ge, wp_neg, wp_eqS, wp_lenT, wp_lenL, wp_tupT, wp_tupL, Bool.not_true, Bool.not_false, Bool.false_eq_true, if_true, if_false, wp_mLc, wp_mISeq, law_range_fn h, src_pr]
      refine (lcD (g := gV 7) (t := fun d => !isNonD d) (f := fun d => d) (l := [(rgOf q.rs c).1, (rgOf q.rs c).2]) srcOk_nil fun d hd => ⟨_, rfl, ?_, fun _ => ?_⟩).mpr ?_
      · simp only [List.set_cons_succ, List.set_cons_zero, wipeR, wp_mSeq, wp_mIfS, wp_mSet, wp_mRet, wp_mDrop, wp_mNx, wp_mPar, wp_parF, wp_mB, wp_mBin, wp_mUn, wp_mCall, wp_mFn, wp_mNil, wp_mCons, wp_mTup, wp_mLst, wp_mIf, wp_mAndV, wp_mOrV, wp_mNotV, wp_mIsN, wp_mNotN, wp_asB, wp_asI, wp_mTru, wp_truB, wp_mAnd, wp_mOr, wp_mNot, wp_mYes, wp_mPart, wp_mSl, wp_mVs, wp_mV0, wp_mC, wp_ret, wp_sub, wp_addI, wp_lt, wp_le, wp_gt, wp_ge, wp_neg, wp_eqS, wp_lenT, wp_lenL, wp_tupT, wp_tupL, Bool.not_true, Bool.not_false, Bool.false_eq_true, if_true, if_false]
        (first | exact ⟨trivial, trivial⟩ | exact ⟨rfl, trivial⟩ | exact ⟨trivial, rfl⟩ | exact ⟨rfl, rfl⟩)
      · simp only [List.set_cons_succ, List.set_cons_zero, wipeR, wp_mSeq, wp_mIfS, wp_mSet, wp_mRet, wp_mDrop, wp_mNx, wp_mPar, wp_parF, wp_mB, wp_mBin, wp_mUn, wp_mCall, wp_mFn, wp_mNil, wp_mCons, wp_mTup, wp_mLst, wp_mIf, wp_mAndV, wp_mOrV, wp_mNotV, wp_mIsN, wp_mNotN, wp_asB, wp_asI, wp_mTru, wp_truB, wp_mAnd, wp_mOr, wp_mNot, wp_mYes, wp_mPart, wp_mSl, wp_mVs, wp_mV0, wp_mC, wp_ret, wp_sub, wp_addI, wp_lt, wp_le, wp_gt, wp_ge, wp_neg, wp_eqS, wp_lenT, wp_lenL, wp_tupT, wp_tupL, Bool.not_true, Bool.not_false, Bool.false_eq_true, if_true, if_false]
        (first | exact ⟨trivial, trivial⟩ | exact ⟨rfl, trivial⟩ | exact ⟨trivial, rfl⟩ | exact ⟨rfl, rfl⟩)
      rw [filt_ends b1 b2, wp_lim (by rw [List.length_map]; have := ends_len (a := (rgOf q.rs c).1) (b := (rgOf q.rs c).2); omega)]
      simp only [List.set_cons_succ, List.set_cons_zero, wipeR, wp_mSeq, wp_mIfS, wp_mSet, wp_mRet, wp_mDrop, wp_mNx, wp_mPar, wp_parF, wp_mB, wp_mBin, wp_mUn, wp_mCall, wp_mFn, wp_mNil, wp_mCons, wp_mTup, wp_mLst, wp_mIf, wp_mAndV, wp_mOrV, wp_mNotV, wp_mIsN, wp_mNotN, wp_asB, wp_asI, wp_mTru, wp_truB, wp_mAnd, wp_mOr, wp_mNot, wp_mYes, wp_mPart, wp_mSl, wp_mVs, wp_mV0, wp_mC, wp_ret, wp_sub, wp_addI, wp_lt, wp_le, wp_gt, wp_ge, wp_neg, wp_eqS, wp_lenT, wp_lenL, wp_tupT, wp_tupL, Bool.not_true, Bool.not_false, Bool.false_eq_true, if_true, if_false, ml2]
      rw [wp_addL (by rw [List.length_map]; have := ends_len (a := (rgOf q.rs c).1) (b := (rgOf q.rs c).2); simp; omega)]
      refine ⟨trivial, ?_, rfl⟩
      rw [List.map_append]; rfl
    rintro _ _ ⟨rfl, rfl⟩
    have hem := ends_mem b1 b2
    have hel := ends_len (a := (rgOf q.rs c).1) (b := (rgOf q.rs c).2)
    generalize endsI (rgOf q.rs c).1 (rgOf q.rs c).2 = es at *
    simp only [List.set_cons_succ, List.set_cons_zero, wipeR, wp_mSeq, wp_mIfS, wp_mSet, wp_mRet, wp_mDrop, wp_mNx, wp_mPar, wp_parF, wp_mB, wp_mBin, wp_mUn, wp_mCall, wp_mFn, wp_mNil, wp_mCons, wp_mTup, wp_mLst, wp_mIf, wp_mAndV, wp_mOrV, wp_mNotV, wp_mIsN, wp_mNotN, wp_asB, wp_asI, wp_mTru, wp_truB, wp_mAnd, wp_mOr, wp_mNot, wp_mYes, wp_mPart, wp_mSl, wp_mVs, wp_mV0, wp_mC, wp_ret, wp_sub, wp_addI, wp_lt, wp_le, wp_gt, wp_ge, wp_neg, wp_eqS, wp_lenT, wp_lenL, wp_tupT, wp_tupL, Bool.not_true, Bool.not_false, Bool.false_eq_true, if_true, if_false, wp_mMet]
    refine (wp_ref (f := appM) ho).mpr ?_
    simp only [List.set_cons_succ, List.set_cons_zero, wipeR, wp_mSeq, wp_mIfS, wp_mSet, wp_mRet, wp_mDrop, wp_mNx, wp_mPar, wp_parF, wp_mB, wp_mBin, wp_mUn, wp_mCall, wp_mFn, wp_mNil, wp_mCons, wp_mTup, wp_mLst, wp_mIf, wp_mAndV, wp_mOrV, wp_mNotV, wp_mIsN, wp_mNotN, wp_asB, wp_asI, wp_mTru, wp_truB, wp_mAnd, wp_mOr, wp_mNot, wp_mYes, wp_mPart, wp_mSl, wp_mVs, wp_mV0, wp_mC, wp_ret, wp_sub, wp_addI, wp_lt, wp_le, wp_gt, wp_ge, wp_neg, wp_eqS, wp_lenT, wp_lenL, wp_tupT, wp_tupL, Bool.not_true, Bool.not_false, Bool.false_eq_true, if_true, if_false]
    refine some_ints g1 (by simp) (by simp; omega) fun v S2 hv g2 k2 => ?_
    simp only [List.set_cons_succ, List.set_cons_zero, wipeR, wp_mSeq, wp_mIfS, wp_mSet, wp_mRet, wp_mDrop, wp_mNx, wp_mPar, wp_parF, wp_mB, wp_mBin, wp_mUn, wp_mCall, wp_mFn, wp_mNil, wp_mCons, wp_mTup, wp_mLst, wp_mIf, wp_mAndV, wp_mOrV, wp_mNotV, wp_mIsN, wp_mNotN, wp_asB, wp_asI, wp_mTru, wp_truB, wp_mAnd, wp_mOr, wp_mNot, wp_mYes, wp_mPart, wp_mSl, wp_mVs, wp_mV0, wp_mC, wp_ret, wp_sub, wp_addI, wp_lt, wp_le, wp_gt, wp_ge, wp_neg, wp_eqS, wp_lenT, wp_lenL, wp_tupT, wp_tupL, Bool.not_true, Bool.not_false, Bool.false_eq_true, if_true, if_false, pow9]
    rw [wp_mkLst (by simp)]
    refine some_ints (l := [0, 0, 1, -1, 1000000000 - 9]) g2 (by simp) (by simp) fun v2 S3 hv2 g3 k3 => ?_
    have k13 := k2.trans k3
    have ho3 : S3.ob S.nx = some (.lst (vs.map .int)) := (k13.2 S.nx nb hx1).trans ho
    simp only [List.set_cons_succ, List.set_cons_zero, wipeR, wp_mSeq, wp_mIfS, wp_mSet, wp_mRet, wp_mDrop, wp_mNx, wp_mPar, wp_parF, wp_mB, wp_mBin, wp_mUn, wp_mCall, wp_mFn, wp_mNil, wp_mCons, wp_mTup, wp_mLst, wp_mIf, wp_mAndV, wp_mOrV, wp_mNotV, wp_mIsN, wp_mNotN, wp_asB, wp_asI, wp_mTru, wp_truB, wp_mAnd, wp_mOr, wp_mNot, wp_mYes, wp_mPart, wp_mSl, wp_mVs, wp_mV0, wp_mC, wp_ret, wp_sub, wp_addI, wp_lt, wp_le, wp_gt, wp_ge, wp_neg, wp_eqS, wp_lenT, wp_lenL, wp_tupT, wp_tupL, Bool.not_true, Bool.not_false, Bool.false_eq_true, if_true, if_false]
    rw [app_wp ho3 (by rw [List.length_map]; omega)]
    have bv : -10 ≤ v ∧ v ≤ 10 := by
      rcases List.mem_append.mp hv with hv | hv
      · exact hem v hv
      · simp at hv; omega
    have bv2 : -10 ≤ v2 ∧ v2 ≤ 1000000000 := by
      simp at hv2; omega
    refine ⟨trivial, ⟨_, _, rfl⟩, ⟨vs ++ [v + v2], by simp [hvl], fun w hw => ?_, by rw [ob_set, List.map_append]; rfl⟩, ⟨Bag.kp (S' := S3) g3 nb, (k1.trans k13).setN (Nat.le_refl _)⟩, Nat.lt_of_lt_of_le hx1 k13.1⟩
    rcases List.mem_append.mp hw with hw | hw
    · exact hvb w hw
    · rw [List.mem_singleton.mp hw]; omega
  rintro _ S1 ⟨⟨x3, x4, rfl⟩, ⟨vs, hvl, hvb, ho⟩, g1, k1⟩
  have hc := h.c
  have hc1 := h.c1
  generalize hps : vs.map D.int = ps at *
  have hpl : ps.length = q.cols.length := by rw [← hps, List.length_map]; exact hvl
  have hpe : ∀ x ∈ ps, El x := fun x hx => by
    rw [← hps] at hx
    obtain ⟨v, hv, rfl⟩ := List.mem_map.mp hx
    exact .inl ⟨v, rfl, by have := hvb v hv; omega, by have := hvb v hv; omega⟩
  refine wp_seq (R := fun r S2 => (∃ v : Int, r = [some (.ref b), some (qD q), some (.tup ps), x3, x4, some (.int v), none, none]) ∧ Bag S2 b ∧ Kp b S S2) ?_ ?_
  · simp only [List.set_cons_succ, List.set_cons_zero, wipeR, wp_mSeq, wp_mIfS, wp_mSet, wp_mRet, wp_mDrop, wp_mNx, wp_mPar, wp_parF, wp_mB, wp_mBin, wp_mUn, wp_mCall, wp_mFn, wp_mNil, wp_mCons, wp_mTup, wp_mLst, wp_mIf, wp_mAndV, wp_mOrV, wp_mNotV, wp_mIsN, wp_mNotN, wp_asB, wp_asI, wp_mTru, wp_truB, wp_mAnd, wp_mOr, wp_mNot, wp_mYes, wp_mPart, wp_mSl, wp_mVs, wp_mV0, wp_mC, wp_ret, wp_sub, wp_addI, wp_lt, wp_le, wp_gt, wp_ge, wp_neg, wp_eqS, wp_lenT, wp_lenL, wp_tupT, wp_tupL, Bool.not_true, Bool.not_false, Bool.false_eq_true, if_true, if_false, wp_tupR ho, wp_lenR ho]
    refine take_fn g1 (by omega) (by omega) fun v S2 _ _ g2 k2 => ?_
    exact ⟨trivial, ⟨v, rfl⟩, g2, k1.trans k2⟩
  rintro _ S2 ⟨⟨v, rfl⟩, g2, k2⟩
  have cl : ∀ (a c : Option Int), (cutD ps a c).length ≤ 6 := fun a c => Nat.le_trans len_cutD (by omega)
  have ce : ∀ (a c : Option Int), ∀ x ∈ cutD ps a c, El x := fun a c x hx => hpe x (mem_cutD hx)
  have midT : ∀ x : D, El x → Th (.tup (cutD ps none (some v) ++ [x] ++ cutD ps (some (v + 1)) none)) := fun x hx => by
    refine Th.tup ?_ fun y hy => ?_
    · have h1 := len_cutD (l := ps) (a := none) (b := some v)
      have h2 := len_cutD (l := ps) (a := some (v + 1)) (b := none)
      have h3 : ps.length ≤ 6 := by omega
      rw [List.length_append, List.length_append, List.length_singleton]
      omega
    · rcases List.mem_append.mp hy with hy | hy
      · rcases List.mem_append.mp hy with hy | hy
        · exact ce _ _ y hy
        · rw [List.mem_singleton.mp hy]; exact hx
      · exact ce _ _ y hy
  have li : ∀ (S : Sto) (Q : D → Sto → Prop), Wp (listM [.tup ps]) S Q ↔ Q (.lst ps) S := fun S Q => wp_some rfl
  refine wp_seq (R := fun r S3 => ∃ ths : List D, r = [some (.ref b), some (qD q), some (.tup ps), x3, x4, some (.int v), some (.lst ths), none] ∧ (∀ d ∈ ths, Th d) ∧ ths.length = 6 ∧ S2 = S3) ?_ ?_
  · have ad : ∀ (a c : List D) (S : Sto) (Q : D → Sto → Prop), a.length ≤ 20 → c.length ≤ 20 → (Wp (addM (.tup a) (.tup c)) S Q ↔ Q (.tup (a ++ c)) S) := fun a c S Q h1 h2 => wp_addT (by omega)
    simp only [List.set_cons_succ, List.set_cons_zero, wipeR, wp_mSeq, wp_mIfS, wp_mSet, wp_mRet, wp_mDrop, wp_mNx, wp_mPar, wp_parF, wp_mB, wp_mBin, wp_mUn, wp_mCall, wp_mFn, wp_mNil, wp_mCons, wp_mTup, wp_mLst, wp_mIf, wp_mAndV, wp_mOrV, wp_mNotV, wp_mIsN, wp_mNotN, wp_asB, wp_asI, wp_mTru, wp_truB, wp_mAnd, wp_mOr, wp_mNot, wp_mYes, wp_mPart, wp_mSl, wp_mVs, wp_mV0, wp_mC, wp_ret, wp_sub, wp_addI, wp_lt, wp_le, wp_gt, wp_ge, wp_neg, wp_eqS, wp_lenT, wp_lenL, wp_tupT, wp_tupL, Bool.not_true, Bool.not_false, Bool.false_eq_true, if_true, if_false, Mn.mt1, li, wp_slT]
    rw [ad _ _ _ _ (by omega) (by simp), ad _ _ _ _ (Nat.le_trans (cl _ _) (by omega)) (by simp), ad _ _ _ _ (by have := cl none (some v); simp; omega) (Nat.le_trans (cl _ _) (by omega)), wp_mkLst (by simp)]
    refine ⟨trivial, _, rfl, fun d hd => ?_, rfl, rfl⟩
    simp only [List.mem_cons, List.not_mem_nil, or_false] at hd
    rcases hd with rfl | rfl | rfl | rfl | rfl | rfl
    · exact Th.tup (by omega) hpe
    · exact Th.tup (by omega) hpe
    · refine Th.tup (by simp; omega) fun x hx => ?_
      rcases List.mem_append.mp hx with hx | hx
      · exact hpe x hx
      · rw [List.mem_singleton.mp hx]; exact .inl ⟨1, rfl, by decide, by decide⟩
    · exact Th.tup (Nat.le_trans (cl _ _) (by omega)) (ce _ _)
    · exact Th.lst (by omega) hpe
    · exact midT _ (.inr (.inl rfl))
  rintro _ _ ⟨ths, rfl, hth, hth6, rfl⟩
  refine wp_seq (R := fun r S3 => ∃ ths : List D, r = [some (.ref b), some (qD q), some (.tup ps), x3, x4, some (.int v), some (.lst ths), none] ∧ (∀ d ∈ ths, Th d) ∧ ths.length = 13 ∧ S2 = S3) ?_ ?_
  · have ad : ∀ (a c : List D) (S : Sto) (Q : D → Sto → Prop), a.length ≤ 20 → c.length ≤ 20 → (Wp (addM (.tup a) (.tup c)) S Q ↔ Q (.tup (a ++ c)) S) := fun a c S Q h1 h2 => wp_addT (by omega)
    have d0 : ∀ (S : Sto) (Q : D → Sto → Prop), Wp (mDic0 [some (.ref b), some (qD q), some (.tup ps), x3, x4, some (.int v), some (.lst ths), none]) S Q ↔ Q (.dic [] []) S := fun S Q => wp_some rfl
    simp only [List.set_cons_succ, List.set_cons_zero, wipeR, wp_mSeq, wp_mIfS, wp_mSet, wp_mRet, wp_mDrop, wp_mNx, wp_mPar, wp_parF, wp_mB, wp_mBin, wp_mUn, wp_mCall, wp_mFn, wp_mNil, wp_mCons, wp_mTup, wp_mLst, wp_mIf, wp_mAndV, wp_mOrV, wp_mNotV, wp_mIsN, wp_mNotN, wp_asB, wp_asI, wp_mTru, wp_truB, wp_mAnd, wp_mOr, wp_mNot, wp_mYes, wp_mPart, wp_mSl, wp_mVs, wp_mV0, wp_mC, wp_ret, wp_sub, wp_addI, wp_lt, wp_le, wp_gt, wp_ge, wp_neg, wp_eqS, wp_lenT, wp_lenL, wp_tupT, wp_tupL, Bool.not_true, Bool.not_false, Bool.false_eq_true, if_true, if_false, Mn.mt1, Mn.mt0, li, wp_slT, d0]
    rw [ad _ _ _ _ (Nat.le_trans (cl _ _) (by omega)) (by simp), ad _ _ _ _ (by have := cl none (some v); simp; omega) (Nat.le_trans (cl _ _) (by omega)), ad _ _ _ _ (Nat.le_trans (cl _ _) (by omega)) (by simp), ad _ _ _ _ (by have := cl none (some v); simp; omega) (Nat.le_trans (cl _ _) (by omega)), wp_mkLst (by simp), wp_addL (by simp; omega)]
    refine ⟨trivial, _, rfl, fun d hd => ?_, by simp [hth6], rfl⟩
    rcases List.mem_append.mp hd with hd | hd
    · exact hth d hd
    simp only [List.mem_cons, List.not_mem_nil, or_false] at hd
    rcases hd with rfl | rfl | rfl | rfl | rfl | rfl | rfl
    · exact midT _ (.inr (.inr (.inl rfl)))
    · exact midT _ (.inr (.inr (.inr rfl)))
    · exact Th.non
    · exact Th.tup (by simp) (fun x hx => nomatch hx)
    · exact Th.str (sm_names "a" (by simp))
    · exact Th.dic
    · exact Th.int (by decide) (by decide)
  rintro _ _ ⟨ths, rfl, hth, hth6, rfl⟩
  refine wp_ret1 ?_
  simp only [List.set_cons_succ, List.set_cons_zero, wipeR, wp_mSeq, wp_mIfS, wp_mSet, wp_mRet, wp_mDrop, wp_mNx, wp_mPar, wp_parF, wp_mB, wp_mBin, wp_mUn, wp_mCall, wp_mFn, wp_mNil, wp_mCons, wp_mTup, wp_mLst, wp_mIf, wp_mAndV, wp_mOrV, wp_mNotV, wp_mIsN, wp_mNotN, wp_asB, wp_asI, wp_mTru, wp_truB, wp_mAnd, wp_mOr, wp_mNot, wp_mYes, wp_mPart, wp_mSl, wp_mVs, wp_mV0, wp_mC, wp_ret, wp_sub, wp_addI, wp_lt, wp_le, wp_gt, wp_ge, wp_neg, wp_eqS, wp_lenT, wp_lenL, wp_tupT, wp_tupL, Bool.not_true, Bool.not_false, Bool.false_eq_true, if_true, if_false]
  refine some_fn g2 (.inl rfl) (by omega) (by omega) fun d S3 hd g3 k3 => ?_
  exact fin d S3 (hth d hd) g3 (k2.trans k3)
/-! ### the law -/
theorem order_fn {q : Qu} {cs : List Str} : Wp (if [qD q, .tup (cs.map .str)].length = P_in_order.length then d_in_order [qD q, .tup (cs.map .str)] else fail) S Q ↔ Q (qD ⟨cs, q.atoms, q.rs⟩) S := by
  rw [if_pos (show [qD q, D.tup (cs.map .str)].length = P_in_order.length from rfl)]
  refine wp_some (eqOf ?_)
  unfold d_in_order
  rw [wp_def, show startR N_in_order.length [qD q, .tup (cs.map .str)] = [some (qD q), some (.tup (cs.map .str))] from rfl]
  unfold b_in_order
  simp only [List.set_cons_succ, List.set_cons_zero, wipeR, wp_mSeq, wp_mIfS, wp_mSet, wp_mRet, wp_mDrop, wp_mNx, wp_mPar, wp_parF, wp_mB, wp_mBin, wp_mUn, wp_mCall, wp_mFn, wp_mNil, wp_mCons, wp_mTup, wp_mLst, wp_mIf, wp_mAndV, wp_mOrV, wp_mNotV, wp_mIsN, wp_mNotN, wp_asB, wp_asI, wp_mTru, wp_truB, wp_mAnd, wp_mOr, wp_mNot, wp_mYes, wp_mPart, wp_mSl, wp_mVs, wp_mV0, wp_mC, wp_ret, wp_sub, wp_addI, wp_lt, wp_le, wp_gt, wp_ge, wp_neg, wp_eqS, wp_lenT, wp_lenL, wp_tupT, wp_tupL, Bool.not_true, Bool.not_false, Bool.false_eq_true, if_true, if_false, iq1, iq2, mt3]
  (first | exact ⟨trivial, trivial⟩ | exact ⟨rfl, trivial⟩ | exact ⟨trivial, rfl⟩ | exact ⟨rfl, rfl⟩)
theorem nr_ok {q : Qu} {c : Str} {g m : D} (h : OkQ q) (hc : Sm c) (hg : Bnd g) (hm : Bnd m) : ∃ p, OkD 5000 4 (nrD q c g m) p := by
  unfold nrD
  split
  · exact ⟨_, OkD.non.mono (Nat.zero_le _) (Nat.zero_le _)⟩
  · have hl := h.rl
    have hR : ∀ r ∈ nrR q.rs c g m, OkR r := fun r hr => by
      unfold nrR at hr
      split at hr
      · exact h.rok r (List.mem_filter.mp hr).1
      · split at hr
        · rcases List.mem_append.mp hr with hr | hr
          · exact h.rok r hr
          · rw [List.mem_singleton.mp hr]; exact ⟨hc, hg, hm⟩
        · obtain ⟨r0, hr0, rfl⟩ := List.mem_map.mp hr
          unfold putR
          split
          · exact ⟨hc, hg, hm⟩
          · exact h.rok r0 hr0
    have hL : (nrR q.rs c g m).length ≤ 7 := by
      unfold nrR
      split
      · exact Nat.le_trans (List.length_filter_le _ _) (by omega)
      · split
        · simp; omega
        · simp; omega
    obtain ⟨r, hr, _⟩ := ok_qd h.c h.cs h.a (fun x hx => (h.ok x hx).1) hL hR
    exact ⟨_, hr⟩
theorem pr_ok {q : Qu} (h : OkQ q) (c : Str) : ∃ p, OkD 90 1 (prD (rgOf q.rs c)) p := by
  obtain ⟨b1, b2⟩ := rgOf_bnd h c
  obtain ⟨p1, o1⟩ := b1.ok
  obtain ⟨p2, o2⟩ := b2.ok
  exact ⟨_, (OkL.cons o1 (OkL.cons o2 OkL.nil)).tup.mono (by omega) (Nat.le_refl _)⟩
theorem ints_ok {n : Nat} {l : List Int} (hl : l.length ≤ 100) (h : ∀ v ∈ l, -999999999999 ≤ v ∧ v ≤ 999999999999) : ∃ p, OkD 5000 (n + 1) (.tup (l.map .int)) p :=
  ⟨_, (OkL.map (f := D.int) (g := PyData.int) fun x hx => OkD.int (h x hx).1 (h x hx).2).tup.mono (by omega) (Nat.le_refl _)⟩
/-- the columns' turn -/
theorem col_turn {ns : List Int} {q : Qu} {c : Str} {sh : Str} {x2 x7 x8 x9 x10 x11 x12 x13 x14 x15 x16 x17 x18 x19 x20 : Option D} (h : OkQ q) (hc : Sm c) : Wp ((mSeq (mSet 7 (mLst (mCons (mFn P_atoms_of.length d_atoms_of (mCons (mV 3) (mCons (mV 6) mNil))) (mCons (mFn P_range_of.length d_range_of (mCons (mV 3) (mCons (mV 6) mNil))) mNil))))
    (mSeq (mIfS (mNot (mTru (mFn P_law_alike.length d_law_alike (mCons (mV 7) (mCons (mLst (mCons (mCall tupleM (mCons (mFn P_law_atoms_of.length d_law_atoms_of (mCons (mV 3) (mCons (mV 6) mNil))) mNil)) (mCons (mFn P_law_range_of.length d_law_range_of (mCons (mV 3) (mCons (mV 6) mNil))) mNil))) mNil))))) (mSeq (mRet (mC (.bl false)))
    mNx) mNx)
    (mSeq (mFor (mISeq (mBin addM (mLc (mISeq (mFn P_law_range_of.length d_law_range_of (mCons (mV 3) (mCons (mV 6) mNil)))) [18] (gV 18) (mB (mNotN (mV 18))) (mV 18)) (mLst (mCons (mC (.int 0)) (mCons (mBin subM (mC (.int 2)) (mBin powM (mC (.int 10)) (mC (.int 9)))) mNil))))) (gV 8) (mSeq (mSet 9 (mLc (mISeq (mTup (mCons (mUn negM (mC (.int 1))) (mCons (mC (.int 0)) (mCons (mC (.int 1)) mNil))))) [19] (gV 19) mYes (mFn P_law_is_in_range.length d_law_is_in_range (mCons (mV 3) (mCons (mV 6) (mCons (mBin addM (mV 8) (mV 19)) mNil))))))
    (mSeq (mIfS (mNot (mTru (mFn P_law_alike.length d_law_alike (mCons (mLc (mISeq (mTup (mCons (mUn negM (mC (.int 1))) (mCons (mC (.int 0)) (mCons (mC (.int 1)) mNil))))) [19] (gV 19) mYes (mFn P_lets.length d_lets (mCons (mV 3) (mCons (mV 6) (mCons (mBin addM (mV 8) (mV 19)) mNil))))) (mCons (mV 9) mNil))))) (mSeq (mRet (mC (.bl false)))
    mNx) mNx)
    mNx)))
    mNx))) [some (scr ns), some (.ref b), x2, some (qD q), some (.str sh), some (.tup (q.cols.map .str)), some (.str c), x7, x8, x9, x10, x11, x12, x13, x14, x15, x16, x17, x18, x19, x20]) S fun p S1 => p.1 = .nx ∧ (∃ x7 x8 x9 : Option D, p.2 = [some (scr ns), some (.ref b), x2, some (qD q), some (.str sh), some (.tup (q.cols.map .str)), some (.str c), x7, x8, x9, x10, x11, x12, x13, x14, x15, x16, x17, x18, x19, x20]) ∧ S1 = S := by
  obtain ⟨p2, o2⟩ := pr_ok h c
  have hil : (idx q.atoms c).length ≤ 9 := by
    unfold idx
    rw [List.length_map]
    exact Nat.le_trans (List.length_filter_le _ _) (by rw [List.length_zipIdx]; exact h.a)
  have hib : ∀ v ∈ idx q.atoms c, -999999999999 ≤ v ∧ v ≤ 999999999999 := fun v hv => by
    unfold idx at hv
    obtain ⟨p, hp, rfl⟩ := List.mem_map.mp hv
    have := List.mem_zipIdx (List.mem_filter.mp hp).1
    have := h.a
    omega
  obtain ⟨p1, o1⟩ := ints_ok (n := 0) (Nat.le_trans hil (by omega)) hib
  have okl := (OkL.cons o1 (OkL.cons o2 OkL.nil)).lst
  refine wp_seq (R := fun r S1 => r = [some (scr ns), some (.ref b), x2, some (qD q), some (.str sh), some (.tup (q.cols.map .str)), some (.str c), some (.lst [.tup ((idx q.atoms c).map .int), prD (rgOf q.rs c)]), x8, x9, x10, x11, x12, x13, x14, x15, x16, x17, x18, x19, x20] ∧ S = S1) (by simp only [List.set_cons_succ, List.set_cons_zero, wipeR, wp_mSeq, wp_mIfS, wp_mSet, wp_mRet, wp_mDrop, wp_mNx, wp_mPar, wp_parF, wp_mB, wp_mBin, wp_mUn, wp_mCall, wp_mFn, wp_mNil, wp_mCons, wp_mTup, wp_mLst, wp_mIf, wp_mAndV, wp_mOrV, wp_mNotV, wp_mIsN, wp_mNotN, wp_asB, wp_asI, wp_mTru, wp_truB, wp_mAnd, wp_mOr, wp_mNot, wp_mYes, wp_mPart, wp_mSl, wp_mVs, wp_mV0, wp_mC, wp_ret, wp_sub, wp_addI, wp_lt, wp_le, wp_gt, wp_ge, wp_neg, wp_eqS, wp_lenT, wp_lenL, wp_tupT, wp_tupL, Bool.not_true, Bool.not_false, Bool.false_eq_true, if_true, if_false, atoms_fn h hc, range_fn, ml2]; (refine ⟨?_, ?_, ?_⟩ <;> first | trivial | rfl)) ?_
  rintro _ _ ⟨rfl, rfl⟩
  refine wp_seq (R := fun r S1 => r = [some (scr ns), some (.ref b), x2, some (qD q), some (.str sh), some (.tup (q.cols.map .str)), some (.str c), some (.lst [.tup ((idx q.atoms c).map .int), prD (rgOf q.rs c)]), x8, x9, x10, x11, x12, x13, x14, x15, x16, x17, x18, x19, x20] ∧ S = S1) (by simp only [List.set_cons_succ, List.set_cons_zero, wipeR, wp_mSeq, wp_mIfS, wp_mSet, wp_mRet, wp_mDrop, wp_mNx, wp_mPar, wp_parF, wp_mB, wp_mBin, wp_mUn, wp_mCall, wp_mFn, wp_mNil, wp_mCons, wp_mTup, wp_mLst, wp_mIf, wp_mAndV, wp_mOrV, wp_mNotV, wp_mIsN, wp_mNotN, wp_asB, wp_asI, wp_mTru, wp_truB, wp_mAnd, wp_mOr, wp_mNot, wp_mYes, wp_mPart, wp_mSl, wp_mVs, wp_mV0, wp_mC, wp_ret, wp_sub, wp_addI, wp_lt, wp_le, wp_gt, wp_ge, wp_neg, wp_eqS, wp_lenT, wp_lenL, wp_tupT, wp_tupL, Bool.not_true, Bool.not_false, Bool.false_eq_true, if_true, if_false, law_atoms_fn h hc, law_range_fn h, ml2, alike_fn okl (by omega) (by omega)]; (refine ⟨?_, ?_, ?_⟩ <;> first | trivial | rfl)) ?_
  rintro _ _ ⟨rfl, rfl⟩
  obtain ⟨b1, b2⟩ := rgOf_bnd h c
  rw [wp_mSeq, wp_mFor, wp_mISeq]
  simp only [List.set_cons_succ, List.set_cons_zero, wipeR, wp_mSeq, wp_mIfS, wp_mSet, wp_mRet, wp_mDrop, wp_mNx, wp_mPar, wp_parF, wp_mB, wp_mBin, wp_mUn, wp_mCall, wp_mFn, wp_mNil, wp_mCons, wp_mTup, wp_mLst, wp_mIf, wp_mAndV, wp_mOrV, wp_mNotV, wp_mIsN, wp_mNotN, wp_asB, wp_asI, wp_mTru, wp_truB, wp_mAnd, wp_mOr, wp_mNot, wp_mYes, wp_mPart, wp_mSl, wp_mVs, wp_mV0, wp_mC, wp_ret, wp_sub, wp_addI, wp_lt, wp_le, wp_gt, wp_ge, wp_neg, wp_eqS, wp_lenT, wp_lenL, wp_tupT, wp_tupL, Bool.not_true, Bool.not_false, Bool.false_eq_true, if_true, if_false, wp_mLc, wp_mISeq, law_range_fn h, src_pr]
  refine (lcD (g := gV 18) (t := fun d => !isNonD d) (f := fun d => d) (l := [(rgOf q.rs c).1, (rgOf q.rs c).2]) srcOk_nil fun d hd => ⟨_, rfl, ?_, fun _ => ?_⟩).mpr ?_
  · simp only [List.set_cons_succ, List.set_cons_zero, wipeR, wp_mSeq, wp_mIfS, wp_mSet, wp_mRet, wp_mDrop, wp_mNx, wp_mPar, wp_parF, wp_mB, wp_mBin, wp_mUn, wp_mCall, wp_mFn, wp_mNil, wp_mCons, wp_mTup, wp_mLst, wp_mIf, wp_mAndV, wp_mOrV, wp_mNotV, wp_mIsN, wp_mNotN, wp_asB, wp_asI, wp_mTru, wp_truB, wp_mAnd, wp_mOr, wp_mNot, wp_mYes, wp_mPart, wp_mSl, wp_mVs, wp_mV0, wp_mC, wp_ret, wp_sub, wp_addI, wp_lt, wp_le, wp_gt, wp_ge, wp_neg, wp_eqS, wp_lenT, wp_lenL, wp_tupT, wp_tupL, Bool.not_true, Bool.not_false, Bool.false_eq_true, if_true, if_false]
    (first | exact ⟨trivial, trivial⟩ | exact ⟨rfl, trivial⟩ | exact ⟨trivial, rfl⟩ | exact ⟨rfl, rfl⟩)
  · simp only [List.set_cons_succ, List.set_cons_zero, wipeR, wp_mSeq, wp_mIfS, wp_mSet, wp_mRet, wp_mDrop, wp_mNx, wp_mPar, wp_parF, wp_mB, wp_mBin, wp_mUn, wp_mCall, wp_mFn, wp_mNil, wp_mCons, wp_mTup, wp_mLst, wp_mIf, wp_mAndV, wp_mOrV, wp_mNotV, wp_mIsN, wp_mNotN, wp_asB, wp_asI, wp_mTru, wp_truB, wp_mAnd, wp_mOr, wp_mNot, wp_mYes, wp_mPart, wp_mSl, wp_mVs, wp_mV0, wp_mC, wp_ret, wp_sub, wp_addI, wp_lt, wp_le, wp_gt, wp_ge, wp_neg, wp_eqS, wp_lenT, wp_lenL, wp_tupT, wp_tupL, Bool.not_true, Bool.not_false, Bool.false_eq_true, if_true, if_false]
    (first | exact ⟨trivial, trivial⟩ | exact ⟨rfl, trivial⟩ | exact ⟨trivial, rfl⟩ | exact ⟨rfl, rfl⟩)
  have hel := ends_len (a := (rgOf q.rs c).1) (b := (rgOf q.rs c).2)
  rw [filt_ends b1 b2, wp_lim (by rw [List.length_map]; omega)]
  simp only [List.set_cons_succ, List.set_cons_zero, wipeR, wp_mSeq, wp_mIfS, wp_mSet, wp_mRet, wp_mDrop, wp_mNx, wp_mPar, wp_parF, wp_mB, wp_mBin, wp_mUn, wp_mCall, wp_mFn, wp_mNil, wp_mCons, wp_mTup, wp_mLst, wp_mIf, wp_mAndV, wp_mOrV, wp_mNotV, wp_mIsN, wp_mNotN, wp_asB, wp_asI, wp_mTru, wp_truB, wp_mAnd, wp_mOr, wp_mNot, wp_mYes, wp_mPart, wp_mSl, wp_mVs, wp_mV0, wp_mC, wp_ret, wp_sub, wp_addI, wp_lt, wp_le, wp_gt, wp_ge, wp_neg, wp_eqS, wp_lenT, wp_lenL, wp_tupT, wp_tupL, Bool.not_true, Bool.not_false, Bool.false_eq_true, if_true, if_false, pow9, ml2]
  rw [wp_addL (by rw [List.length_map]; simp; omega), src_lst]
  generalize hp : rgOf q.rs c = pr at *
  have e0 : (endsI pr.1 pr.2).map D.int ++ [D.int 0, D.int (2 - 1000000000)] = (endsI pr.1 pr.2 ++ [0, 2 - 1000000000]).map .int := by rw [List.map_append]; rfl
  rw [e0]
  refine (loopA_done (g := gV 8) (src := ⟨(endsI pr.1 pr.2 ++ [0, 2 - 1000000000]).map .int, []⟩) (l := endsI pr.1 pr.2 ++ [0, 2 - 1000000000]) (pre := []) (c := D.int) (I := fun _ r S1 => (∃ x8 x9, r = [some (scr ns), some (.ref b), x2, some (qD q), some (.str sh), some (.tup (q.cols.map .str)), some (.str c), some (.lst [.tup ((idx q.atoms c).map .int), prD pr]), x8, x9, x10, x11, x12, x13, x14, x15, x16, x17, x18, x19, x20]) ∧ S = S1) (fun _ _ _ _ => srcOk_nil) ⟨⟨_, _, rfl⟩, rfl⟩ ?_).mono ?_
  · rintro done v rest e _ S1 ⟨⟨x8, x9, rfl⟩, rfl⟩
    refine ⟨_, rfl, ?_⟩
    have okb := (OkL.map (n := 0) (l := [-1, 0, 1]) (f := fun m : Int => D.bl (inR pr (v + m))) (g := fun m : Int => PyData.bool (inR pr (v + m))) fun m _ => OkD.bl (c := 0)).lst
    refine wp_seq (R := fun r S1 => r = [some (scr ns), some (.ref b), x2, some (qD q), some (.str sh), some (.tup (q.cols.map .str)), some (.str c), some (.lst [.tup ((idx q.atoms c).map .int), prD pr]), some (.int v), some (.lst ([-1, 0, 1].map fun m : Int => D.bl (inR pr (v + m)))), x10, x11, x12, x13, x14, x15, x16, x17, x18, x19, x20] ∧ S = S1) ?_ ?_
    · simp only [List.set_cons_succ, List.set_cons_zero, wipeR, wp_mSeq, wp_mIfS, wp_mSet, wp_mRet, wp_mDrop, wp_mNx, wp_mPar, wp_parF, wp_mB, wp_mBin, wp_mUn, wp_mCall, wp_mFn, wp_mNil, wp_mCons, wp_mTup, wp_mLst, wp_mIf, wp_mAndV, wp_mOrV, wp_mNotV, wp_mIsN, wp_mNotN, wp_asB, wp_asI, wp_mTru, wp_truB, wp_mAnd, wp_mOr, wp_mNot, wp_mYes, wp_mPart, wp_mSl, wp_mVs, wp_mV0, wp_mC, wp_ret, wp_sub, wp_addI, wp_lt, wp_le, wp_gt, wp_ge, wp_neg, wp_eqS, wp_lenT, wp_lenL, wp_tupT, wp_tupL, Bool.not_true, Bool.not_false, Bool.false_eq_true, if_true, if_false, wp_mLc, wp_mISeq, mt3, src_tup]
      refine (lcA (g := gV 19) (t := fun _ => true) (f := fun m : Int => D.bl (inR pr (v + m))) (l := [-1, 0, 1]) (c := D.int) srcOk_nil fun m hm => ⟨_, rfl, ?_, fun _ => ?_⟩).mpr ?_
      · simp only [List.set_cons_succ, List.set_cons_zero, wipeR, wp_mSeq, wp_mIfS, wp_mSet, wp_mRet, wp_mDrop, wp_mNx, wp_mPar, wp_parF, wp_mB, wp_mBin, wp_mUn, wp_mCall, wp_mFn, wp_mNil, wp_mCons, wp_mTup, wp_mLst, wp_mIf, wp_mAndV, wp_mOrV, wp_mNotV, wp_mIsN, wp_mNotN, wp_asB, wp_asI, wp_mTru, wp_truB, wp_mAnd, wp_mOr, wp_mNot, wp_mYes, wp_mPart, wp_mSl, wp_mVs, wp_mV0, wp_mC, wp_ret, wp_sub, wp_addI, wp_lt, wp_le, wp_gt, wp_ge, wp_neg, wp_eqS, wp_lenT, wp_lenL, wp_tupT, wp_tupL, Bool.not_true, Bool.not_false, Bool.false_eq_true, if_true, if_false]
        (first | exact ⟨trivial, trivial⟩ | exact ⟨rfl, trivial⟩ | exact ⟨trivial, rfl⟩ | exact ⟨rfl, rfl⟩)
      · simp only [List.set_cons_succ, List.set_cons_zero, wipeR, wp_mSeq, wp_mIfS, wp_mSet, wp_mRet, wp_mDrop, wp_mNx, wp_mPar, wp_parF, wp_mB, wp_mBin, wp_mUn, wp_mCall, wp_mFn, wp_mNil, wp_mCons, wp_mTup, wp_mLst, wp_mIf, wp_mAndV, wp_mOrV, wp_mNotV, wp_mIsN, wp_mNotN, wp_asB, wp_asI, wp_mTru, wp_truB, wp_mAnd, wp_mOr, wp_mNot, wp_mYes, wp_mPart, wp_mSl, wp_mVs, wp_mV0, wp_mC, wp_ret, wp_sub, wp_addI, wp_lt, wp_le, wp_gt, wp_ge, wp_neg, wp_eqS, wp_lenT, wp_lenL, wp_tupT, wp_tupL, Bool.not_true, Bool.not_false, Bool.false_eq_true, if_true, if_false, law_in_fn h, hp]
        (first | exact ⟨trivial, trivial⟩ | exact ⟨rfl, trivial⟩ | exact ⟨trivial, rfl⟩ | exact ⟨rfl, rfl⟩)
      rw [filt_true, wp_lim (by simp)]
      (refine ⟨?_, ?_, ?_⟩ <;> first | trivial | rfl)
    rintro _ _ ⟨rfl, rfl⟩
    simp only [List.set_cons_succ, List.set_cons_zero, wipeR, wp_mSeq, wp_mIfS, wp_mSet, wp_mRet, wp_mDrop, wp_mNx, wp_mPar, wp_parF, wp_mB, wp_mBin, wp_mUn, wp_mCall, wp_mFn, wp_mNil, wp_mCons, wp_mTup, wp_mLst, wp_mIf, wp_mAndV, wp_mOrV, wp_mNotV, wp_mIsN, wp_mNotN, wp_asB, wp_asI, wp_mTru, wp_truB, wp_mAnd, wp_mOr, wp_mNot, wp_mYes, wp_mPart, wp_mSl, wp_mVs, wp_mV0, wp_mC, wp_ret, wp_sub, wp_addI, wp_lt, wp_le, wp_gt, wp_ge, wp_neg, wp_eqS, wp_lenT, wp_lenL, wp_tupT, wp_tupL, Bool.not_true, Bool.not_false, Bool.false_eq_true, if_true, if_false, wp_mLc, wp_mISeq, mt3, src_tup]
    refine (lcA (g := gV 19) (t := fun _ => true) (f := fun m : Int => D.bl (inR pr (v + m))) (l := [-1, 0, 1]) (c := D.int) srcOk_nil fun m hm => ⟨_, rfl, ?_, fun _ => ?_⟩).mpr ?_
    · simp only [List.set_cons_succ, List.set_cons_zero, wipeR, wp_mSeq, wp_mIfS, wp_mSet, wp_mRet, wp_mDrop, wp_mNx, wp_mPar, wp_parF, wp_mB, wp_mBin, wp_mUn, wp_mCall, wp_mFn, wp_mNil, wp_mCons, wp_mTup, wp_mLst, wp_mIf, wp_mAndV, wp_mOrV, wp_mNotV, wp_mIsN, wp_mNotN, wp_asB, wp_asI, wp_mTru, wp_truB, wp_mAnd, wp_mOr, wp_mNot, wp_mYes, wp_mPart, wp_mSl, wp_mVs, wp_mV0, wp_mC, wp_ret, wp_sub, wp_addI, wp_lt, wp_le, wp_gt, wp_ge, wp_neg, wp_eqS, wp_lenT, wp_lenL, wp_tupT, wp_tupL, Bool.not_true, Bool.not_false, Bool.false_eq_true, if_true, if_false]
      (first | exact ⟨trivial, trivial⟩ | exact ⟨rfl, trivial⟩ | exact ⟨trivial, rfl⟩ | exact ⟨rfl, rfl⟩)
    · simp only [List.set_cons_succ, List.set_cons_zero, wipeR, wp_mSeq, wp_mIfS, wp_mSet, wp_mRet, wp_mDrop, wp_mNx, wp_mPar, wp_parF, wp_mB, wp_mBin, wp_mUn, wp_mCall, wp_mFn, wp_mNil, wp_mCons, wp_mTup, wp_mLst, wp_mIf, wp_mAndV, wp_mOrV, wp_mNotV, wp_mIsN, wp_mNotN, wp_asB, wp_asI, wp_mTru, wp_truB, wp_mAnd, wp_mOr, wp_mNot, wp_mYes, wp_mPart, wp_mSl, wp_mVs, wp_mV0, wp_mC, wp_ret, wp_sub, wp_addI, wp_lt, wp_le, wp_gt, wp_ge, wp_neg, wp_eqS, wp_lenT, wp_lenL, wp_tupT, wp_tupL, Bool.not_true, Bool.not_false, Bool.false_eq_true, if_true, if_false, lets_fn h, hp]
      (first | exact ⟨trivial, trivial⟩ | exact ⟨rfl, trivial⟩ | exact ⟨trivial, rfl⟩ | exact ⟨rfl, rfl⟩)
    rw [filt_true, wp_lim (by simp), alike_fn okb (by simp) (by omega)]
    simp only [List.set_cons_succ, List.set_cons_zero, wipeR, wp_mSeq, wp_mIfS, wp_mSet, wp_mRet, wp_mDrop, wp_mNx, wp_mPar, wp_parF, wp_mB, wp_mBin, wp_mUn, wp_mCall, wp_mFn, wp_mNil, wp_mCons, wp_mTup, wp_mLst, wp_mIf, wp_mAndV, wp_mOrV, wp_mNotV, wp_mIsN, wp_mNotN, wp_asB, wp_asI, wp_mTru, wp_truB, wp_mAnd, wp_mOr, wp_mNot, wp_mYes, wp_mPart, wp_mSl, wp_mVs, wp_mV0, wp_mC, wp_ret, wp_sub, wp_addI, wp_lt, wp_le, wp_gt, wp_ge, wp_neg, wp_eqS, wp_lenT, wp_lenL, wp_tupT, wp_tupL, Bool.not_true, Bool.not_false, Bool.false_eq_true, if_true, if_false]
    exact ⟨trivial, ⟨_, _, rfl⟩, trivial⟩
  · rintro ⟨fl, r⟩ S1 ⟨e, ⟨x8, x9, e2⟩, e3⟩
    have e : fl = .nx := e
    have e2 : r = _ := e2
    subst e e2 e3
    exact wp_mNx.mpr ⟨rfl, ⟨_, _, _, rfl⟩, rfl⟩
/-- the points' turn -/
theorem again_turn {ns : List Int} {q : Qu} {sh : Str} {x2 x6 x7 x8 x9 x10 x12 x13 x14 x15 x16 x17 x18 x19 x20 d : Option D} (h : OkQ q) (hb : Bag S b) (hlt : b < S.nx) : Wp ((mSeq (mAsg (mTup (mCons (mFn P_law_near_point.length d_law_near_point (mCons (mV 1) (mCons (mV 3) mNil))) (mCons (mFn P_law_some.length d_law_some (mCons (mV 1) (mCons (mV 5) mNil))) mNil))) (gT 2 (gsCons (gV 12) (gsCons (gV 6) gsNil))))
    (mSeq (mPar 13 14 (mCons (mFn P_law_some.length d_law_some (mCons (mV 1) (mCons (mLst (mCons (mC .non) (mCons (mC (.int 0)) (mCons (mC (.int 2)) (mCons (mUn negM (mC (.int 3))) (mCons (mC (.int 5)) mNil)))))) mNil))) (mCons (mFn P_law_some.length d_law_some (mCons (mV 1) (mCons (mLst (mCons (mC .non) (mCons (mC (.int 4)) (mCons (mC (.int 1)) (mCons (mC (.int 6)) (mCons (mUn negM (mC (.int 4))) (mCons (mC (.int 2)) mNil))))))) mNil))) mNil)))
    (mSeq (mSet 15 (mCall reprM (mCons (mV 12) mNil)))
    (mSeq (mIfS (mOr (mNot (mTru (mFn P_law_alike.length d_law_alike (mCons (mFn P_is_point.length d_is_point (mCons (mV 3) (mCons (mV 12) mNil))) (mCons (mFn P_law_is_point.length d_law_is_point (mCons (mV 3) (mCons (mV 12) mNil))) mNil))))) (mB (mBin neM (mCall reprM (mCons (mV 12) mNil)) (mV 15)))) (mSeq (mRet (mC (.bl false)))
    mNx) mNx)
    (mSeq (mIfS (mNot (mTru (mFn P_law_alike.length d_law_alike (mCons (mFn P_narrowed.length d_narrowed (mCons (mV 3) (mCons (mV 6) (mCons (mV 13) (mCons (mV 14) mNil))))) (mCons (mFn P_law_narrowed.length d_law_narrowed (mCons (mV 3) (mCons (mV 6) (mCons (mV 13) (mCons (mV 14) mNil))))) mNil))))) (mSeq (mRet (mC (.bl false)))
    mNx) mNx)
    mNx))))) [some (scr ns), some (.ref b), x2, some (qD q), some (.str sh), some (.tup (q.cols.map .str)), x6, x7, x8, x9, x10, d, x12, x13, x14, x15, x16, x17, x18, x19, x20]) S fun p S1 => p.1 = .nx ∧ (∃ x6 x11 x12 x13 x14 x15 : Option D, p.2 = [some (scr ns), some (.ref b), x2, some (qD q), some (.str sh), some (.tup (q.cols.map .str)), x6, x7, x8, x9, x10, x11, x12, x13, x14, x15, x16, x17, x18, x19, x20]) ∧ Bag S1 b ∧ b < S1.nx := by
  refine wp_seq (R := fun r S1 => (∃ th c, Th th ∧ c ∈ q.cols ∧ r = [some (scr ns), some (.ref b), x2, some (qD q), some (.str sh), some (.tup (q.cols.map .str)), some (.str c), x7, x8, x9, x10, d, some th, x13, x14, x15, x16, x17, x18, x19, x20]) ∧ Bag S1 b ∧ b < S1.nx) ?_ ?_
  · simp only [List.set_cons_succ, List.set_cons_zero, wipeR, wp_mSeq, wp_mIfS, wp_mSet, wp_mRet, wp_mDrop, wp_mNx, wp_mPar, wp_parF, wp_mB, wp_mBin, wp_mUn, wp_mCall, wp_mFn, wp_mNil, wp_mCons, wp_mTup, wp_mLst, wp_mIf, wp_mAndV, wp_mOrV, wp_mNotV, wp_mIsN, wp_mNotN, wp_asB, wp_asI, wp_mTru, wp_truB, wp_mAnd, wp_mOr, wp_mNot, wp_mYes, wp_mPart, wp_mSl, wp_mVs, wp_mV0, wp_mC, wp_ret, wp_sub, wp_addI, wp_lt, wp_le, wp_gt, wp_ge, wp_neg, wp_eqS, wp_lenT, wp_lenL, wp_tupT, wp_tupL, Bool.not_true, Bool.not_false, Bool.false_eq_true, if_true, if_false, wp_mAsg]
    refine near_fn h hb hlt fun th S1 t g1 k1 => ?_
    refine some_fn g1 (.inr rfl) (by rw [List.length_map]; exact h.c1) (by rw [List.length_map]; have := h.c; omega) fun d S2 hd g2 k2 => ?_
    obtain ⟨c, hc, rfl⟩ := List.mem_map.mp hd
    rw [mt2, wp_asg2]
    exact ⟨rfl, ⟨th, c, t, hc, rfl⟩, g2, Nat.lt_of_lt_of_le hlt (k1.trans k2).1⟩
  rintro _ S1 ⟨⟨th, c, t, hcm, rfl⟩, g1, lt1⟩
  have hc := h.cs c hcm
  refine wp_seq (R := fun r S2 => (∃ lo hi, Bnd lo ∧ Bnd hi ∧ r = [some (scr ns), some (.ref b), x2, some (qD q), some (.str sh), some (.tup (q.cols.map .str)), some (.str c), x7, x8, x9, x10, d, some th, some lo, some hi, x15, x16, x17, x18, x19, x20]) ∧ Bag S2 b ∧ b < S2.nx) ?_ ?_
  · simp only [List.set_cons_succ, List.set_cons_zero, wipeR, wp_mSeq, wp_mIfS, wp_mSet, wp_mRet, wp_mDrop, wp_mNx, wp_mPar, wp_parF, wp_mB, wp_mBin, wp_mUn, wp_mCall, wp_mFn, wp_mNil, wp_mCons, wp_mTup, wp_mLst, wp_mIf, wp_mAndV, wp_mOrV, wp_mNotV, wp_mIsN, wp_mNotN, wp_asB, wp_asI, wp_mTru, wp_truB, wp_mAnd, wp_mOr, wp_mNot, wp_mYes, wp_mPart, wp_mSl, wp_mVs, wp_mV0, wp_mC, wp_ret, wp_sub, wp_addI, wp_lt, wp_le, wp_gt, wp_ge, wp_neg, wp_eqS, wp_lenT, wp_lenL, wp_tupT, wp_tupL, Bool.not_true, Bool.not_false, Bool.false_eq_true, if_true, if_false]
    rw [wp_mkLst (by simp)]
    refine some_bnd g1 (by simp) (by simp) (fun d hd => ?_) fun lo S2 hlo g2 k2 => ?_
    · simp only [List.mem_cons, List.not_mem_nil, or_false] at hd
      rcases hd with rfl | rfl | rfl | rfl | rfl
      · exact .inl rfl
      all_goals exact bI (by decide)
    rw [wp_mkLst (by simp)]
    refine some_bnd g2 (by simp) (by simp) (fun d hd => ?_) fun hi S3 hhi g3 k3 => ?_
    · simp only [List.mem_cons, List.not_mem_nil, or_false] at hd
      rcases hd with rfl | rfl | rfl | rfl | rfl | rfl
      · exact .inl rfl
      all_goals exact bI (by decide)
    exact ⟨trivial, ⟨lo, hi, hlo, hhi, rfl⟩, g3, Nat.lt_of_lt_of_le lt1 (k2.trans k3).1⟩
  rintro _ S2 ⟨⟨lo, hi, hlo, hhi, rfl⟩, g2, lt2⟩
  obtain ⟨kp, rp⟩ := t.rp
  refine wp_seq (R := fun r S3 => r = [some (scr ns), some (.ref b), x2, some (qD q), some (.str sh), some (.tup (q.cols.map .str)), some (.str c), x7, x8, x9, x10, d, some th, some lo, some hi, some (.str kp), x16, x17, x18, x19, x20] ∧ S2 = S3) (by simp only [List.set_cons_succ, List.set_cons_zero, wipeR, wp_mSeq, wp_mIfS, wp_mSet, wp_mRet, wp_mDrop, wp_mNx, wp_mPar, wp_parF, wp_mB, wp_mBin, wp_mUn, wp_mCall, wp_mFn, wp_mNil, wp_mCons, wp_mTup, wp_mLst, wp_mIf, wp_mAndV, wp_mOrV, wp_mNotV, wp_mIsN, wp_mNotN, wp_asB, wp_asI, wp_mTru, wp_truB, wp_mAnd, wp_mOr, wp_mNot, wp_mYes, wp_mPart, wp_mSl, wp_mVs, wp_mV0, wp_mC, wp_ret, wp_sub, wp_addI, wp_lt, wp_le, wp_gt, wp_ge, wp_neg, wp_eqS, wp_lenT, wp_lenL, wp_tupT, wp_tupL, Bool.not_true, Bool.not_false, Bool.false_eq_true, if_true, if_false, rp]; (refine ⟨?_, ?_, ?_⟩ <;> first | trivial | rfl)) ?_
  rintro _ _ ⟨rfl, rfl⟩
  refine wp_seq (R := fun r S3 => r = [some (scr ns), some (.ref b), x2, some (qD q), some (.str sh), some (.tup (q.cols.map .str)), some (.str c), x7, x8, x9, x10, d, some th, some lo, some hi, some (.str kp), x16, x17, x18, x19, x20] ∧ S2 = S3) (by simp only [List.set_cons_succ, List.set_cons_zero, wipeR, wp_mSeq, wp_mIfS, wp_mSet, wp_mRet, wp_mDrop, wp_mNx, wp_mPar, wp_parF, wp_mB, wp_mBin, wp_mUn, wp_mCall, wp_mFn, wp_mNil, wp_mCons, wp_mTup, wp_mLst, wp_mIf, wp_mAndV, wp_mOrV, wp_mNotV, wp_mIsN, wp_mNotN, wp_asB, wp_asI, wp_mTru, wp_truB, wp_mAnd, wp_mOr, wp_mNot, wp_mYes, wp_mPart, wp_mSl, wp_mVs, wp_mV0, wp_mC, wp_ret, wp_sub, wp_addI, wp_lt, wp_le, wp_gt, wp_ge, wp_neg, wp_eqS, wp_lenT, wp_lenL, wp_tupT, wp_tupL, Bool.not_true, Bool.not_false, Bool.false_eq_true, if_true, if_false, point_fn h t, law_point_fn h t, alike_fn (OkD.bl (c := 0) (n := 0)) (by omega) (by omega), rp, wp_neS, beq_self_eq_true]; (refine ⟨?_, ?_, ?_⟩ <;> first | trivial | rfl)) ?_
  rintro _ _ ⟨rfl, rfl⟩
  obtain ⟨b1, b2⟩ := rgOf_bnd h c
  obtain ⟨p, op⟩ := nr_ok (q := q) h hc (gr_bnd b1 hlo) (ls_bnd b2 hhi)
  simp only [List.set_cons_succ, List.set_cons_zero, wipeR, wp_mSeq, wp_mIfS, wp_mSet, wp_mRet, wp_mDrop, wp_mNx, wp_mPar, wp_parF, wp_mB, wp_mBin, wp_mUn, wp_mCall, wp_mFn, wp_mNil, wp_mCons, wp_mTup, wp_mLst, wp_mIf, wp_mAndV, wp_mOrV, wp_mNotV, wp_mIsN, wp_mNotN, wp_asB, wp_asI, wp_mTru, wp_truB, wp_mAnd, wp_mOr, wp_mNot, wp_mYes, wp_mPart, wp_mSl, wp_mVs, wp_mV0, wp_mC, wp_ret, wp_sub, wp_addI, wp_lt, wp_le, wp_gt, wp_ge, wp_neg, wp_eqS, wp_lenT, wp_lenL, wp_tupT, wp_tupL, Bool.not_true, Bool.not_false, Bool.false_eq_true, if_true, if_false, nr_fn h hc hlo hhi]
  refine law_nr_fn h hc hlo hhi fun S3 gr => ?_
  rw [alike_fn op (by omega) (by omega)]
  simp only [List.set_cons_succ, List.set_cons_zero, wipeR, wp_mSeq, wp_mIfS, wp_mSet, wp_mRet, wp_mDrop, wp_mNx, wp_mPar, wp_parF, wp_mB, wp_mBin, wp_mUn, wp_mCall, wp_mFn, wp_mNil, wp_mCons, wp_mTup, wp_mLst, wp_mIf, wp_mAndV, wp_mOrV, wp_mNotV, wp_mIsN, wp_mNotN, wp_asB, wp_asI, wp_mTru, wp_truB, wp_mAnd, wp_mOr, wp_mNot, wp_mYes, wp_mPart, wp_mSl, wp_mVs, wp_mV0, wp_mC, wp_ret, wp_sub, wp_addI, wp_lt, wp_le, wp_gt, wp_ge, wp_neg, wp_eqS, wp_lenT, wp_lenL, wp_tupT, wp_tupL, Bool.not_true, Bool.not_false, Bool.false_eq_true, if_true, if_false]
  exact ⟨trivial, ⟨_, _, _, _, _, _, rfl⟩, g2.gr lt2 gr, Nat.lt_of_lt_of_le lt2 gr.1⟩
def Ev (ns : List Int) (b : Nat) (rho : Mn.Env) : Prop := ∃ x2 x3 x4 x5 x6 x7 x8 x9 x10 x11 x12 x13 x14 x15 x16 x17 x18 x19 x20 : Option D, rho = [some (scr ns), some (.ref b), x2, x3, x4, x5, x6, x7, x8, x9, x10, x11, x12, x13, x14, x15, x16, x17, x18, x19, x20]
def EvQ (ns : List Int) (b : Nat) (q : Qu) (sh : Str) (rho : Mn.Env) : Prop := ∃ x2 x6 x7 x8 x9 x10 x11 x12 x13 x14 x15 x16 x17 x18 x19 x20 : Option D, rho = [some (scr ns), some (.ref b), x2, some (qD q), some (.str sh), some (.tup (q.cols.map .str)), x6, x7, x8, x9, x10, x11, x12, x13, x14, x15, x16, x17, x18, x19, x20]
theorem turn_spec {ns : List Int} {rho : Mn.Env} (he : Ev ns b rho) (hb : Bag S b) (hlt : b < S.nx) : Wp ((mSeq (mSet 3 (mIf (mB (mBin gtM (mFn P_law_take.length d_law_take (mCons (mV 1) (mCons (mC (.int 3)) mNil))) (mC (.int 0)))) (mFn P_law_nested_question.length d_law_nested_question (mCons (mV 1) (mCons (mC (.int 5)) mNil))) (mFn P_law_crossing_question.length d_law_crossing_question (mCons (mV 1) mNil))))
    (mSeq (mPar 4 5 (mCons (mCall reprM (mCons (mV 3) mNil)) (mCons (mBin ixM (mV 3) (mC (.int 0))) mNil)))
    (mSeq (mIfS (mNot (mTru (mFn P_law_alike.length d_law_alike (mCons (mFn P_names_of.length d_names_of (mCons (mV 3) mNil)) (mCons (mCall tupleM (mCons (mCall sortM (mCons (mLc (mISeq (mBin ixM (mV 3) (mC (.int 1)))) [17] (gV 17) mYes (mBin ixM (mV 17) (mC (.int 1)))) mNil)) mNil)) mNil))))) (mSeq (mRet (mC (.bl false)))
    mNx) mNx)
    (mSeq (mFor (mISeq (mV 5)) (gV 6) (mSeq (mSet 7 (mLst (mCons (mFn P_atoms_of.length d_atoms_of (mCons (mV 3) (mCons (mV 6) mNil))) (mCons (mFn P_range_of.length d_range_of (mCons (mV 3) (mCons (mV 6) mNil))) mNil))))
    (mSeq (mIfS (mNot (mTru (mFn P_law_alike.length d_law_alike (mCons (mV 7) (mCons (mLst (mCons (mCall tupleM (mCons (mFn P_law_atoms_of.length d_law_atoms_of (mCons (mV 3) (mCons (mV 6) mNil))) mNil)) (mCons (mFn P_law_range_of.length d_law_range_of (mCons (mV 3) (mCons (mV 6) mNil))) mNil))) mNil))))) (mSeq (mRet (mC (.bl false)))
    mNx) mNx)
    (mSeq (mFor (mISeq (mBin addM (mLc (mISeq (mFn P_law_range_of.length d_law_range_of (mCons (mV 3) (mCons (mV 6) mNil)))) [18] (gV 18) (mB (mNotN (mV 18))) (mV 18)) (mLst (mCons (mC (.int 0)) (mCons (mBin subM (mC (.int 2)) (mBin powM (mC (.int 10)) (mC (.int 9)))) mNil))))) (gV 8) (mSeq (mSet 9 (mLc (mISeq (mTup (mCons (mUn negM (mC (.int 1))) (mCons (mC (.int 0)) (mCons (mC (.int 1)) mNil))))) [19] (gV 19) mYes (mFn P_law_is_in_range.length d_law_is_in_range (mCons (mV 3) (mCons (mV 6) (mCons (mBin addM (mV 8) (mV 19)) mNil))))))
    (mSeq (mIfS (mNot (mTru (mFn P_law_alike.length d_law_alike (mCons (mLc (mISeq (mTup (mCons (mUn negM (mC (.int 1))) (mCons (mC (.int 0)) (mCons (mC (.int 1)) mNil))))) [19] (gV 19) mYes (mFn P_lets.length d_lets (mCons (mV 3) (mCons (mV 6) (mCons (mBin addM (mV 8) (mV 19)) mNil))))) (mCons (mV 9) mNil))))) (mSeq (mRet (mC (.bl false)))
    mNx) mNx)
    mNx)))
    mNx))))
    (mSeq (mSet 10 (mCall tupleM (mCons (mLc (mISeq (mV 5)) [6] (gV 6) mYes (mFn P_law_take.length d_law_take (mCons (mV 1) (mCons (mC (.int 9)) mNil)))) mNil)))
    (mSeq (mSet 9 (mLc (mIR rng1M (mCons (mCall lenM (mCons (mBin ixM (mV 3) (mC (.int 1))) mNil)) mNil)) [20] (gV 20) mYes (mFn P_law_part.length d_law_part (mCons (mV 3) (mCons (mV 20) (mCons (mV 10) mNil))))))
    (mSeq (mIfS (mNot (mTru (mFn P_law_alike.length d_law_alike (mCons (mLc (mIR rng1M (mCons (mCall lenM (mCons (mBin ixM (mV 3) (mC (.int 1))) mNil)) mNil)) [20] (gV 20) mYes (mFn P_part_of.length d_part_of (mCons (mV 3) (mCons (mV 20) (mCons (mV 10) mNil))))) (mCons (mV 9) mNil))))) (mSeq (mRet (mC (.bl false)))
    mNx) mNx)
    (mSeq (mFor (mIR rng1M (mCons (mC (.int 5)) mNil)) (gV 11) (mSeq (mAsg (mTup (mCons (mFn P_law_near_point.length d_law_near_point (mCons (mV 1) (mCons (mV 3) mNil))) (mCons (mFn P_law_some.length d_law_some (mCons (mV 1) (mCons (mV 5) mNil))) mNil))) (gT 2 (gsCons (gV 12) (gsCons (gV 6) gsNil))))
    (mSeq (mPar 13 14 (mCons (mFn P_law_some.length d_law_some (mCons (mV 1) (mCons (mLst (mCons (mC .non) (mCons (mC (.int 0)) (mCons (mC (.int 2)) (mCons (mUn negM (mC (.int 3))) (mCons (mC (.int 5)) mNil)))))) mNil))) (mCons (mFn P_law_some.length d_law_some (mCons (mV 1) (mCons (mLst (mCons (mC .non) (mCons (mC (.int 4)) (mCons (mC (.int 1)) (mCons (mC (.int 6)) (mCons (mUn negM (mC (.int 4))) (mCons (mC (.int 2)) mNil))))))) mNil))) mNil)))
    (mSeq (mSet 15 (mCall reprM (mCons (mV 12) mNil)))
    (mSeq (mIfS (mOr (mNot (mTru (mFn P_law_alike.length d_law_alike (mCons (mFn P_is_point.length d_is_point (mCons (mV 3) (mCons (mV 12) mNil))) (mCons (mFn P_law_is_point.length d_law_is_point (mCons (mV 3) (mCons (mV 12) mNil))) mNil))))) (mB (mBin neM (mCall reprM (mCons (mV 12) mNil)) (mV 15)))) (mSeq (mRet (mC (.bl false)))
    mNx) mNx)
    (mSeq (mIfS (mNot (mTru (mFn P_law_alike.length d_law_alike (mCons (mFn P_narrowed.length d_narrowed (mCons (mV 3) (mCons (mV 6) (mCons (mV 13) (mCons (mV 14) mNil))))) (mCons (mFn P_law_narrowed.length d_law_narrowed (mCons (mV 3) (mCons (mV 6) (mCons (mV 13) (mCons (mV 14) mNil))))) mNil))))) (mSeq (mRet (mC (.bl false)))
    mNx) mNx)
    mNx))))))
    (mSeq (mSet 16 (mCall tupleM (mCons (mFn P_law_mixed.length d_law_mixed (mCons (mV 1) (mCons (mCall listM (mCons (mV 5) mNil)) mNil))) mNil)))
    (mSeq (mIfS (mOr (mNot (mTru (mFn P_law_alike.length d_law_alike (mCons (mFn P_in_order.length d_in_order (mCons (mV 3) (mCons (mV 16) mNil))) (mCons (mBin addM (mTup (mCons (mV 16) mNil)) (mSl (mV 3) (mPart (mC (.int 1))) (fun _ => ret none))) mNil))))) (mB (mBin neM (mCall reprM (mCons (mV 3) mNil)) (mV 4)))) (mSeq (mRet (mC (.bl false)))
    mNx) mNx)
    mNx)))))))))) rho) S fun p S1 => p.1 = .nx ∧ Ev ns b p.2 ∧ Bag S1 b ∧ b < S1.nx := by
  obtain ⟨x2, x3, x4, x5, x6, x7, x8, x9, x10, x11, x12, x13, x14, x15, x16, x17, x18, x19, x20, rfl⟩ := he
  -- the question
  refine wp_seq (R := fun r S1 => (∃ q, OkQ q ∧ r = [some (scr ns), some (.ref b), x2, some (qD q), x4, x5, x6, x7, x8, x9, x10, x11, x12, x13, x14, x15, x16, x17, x18, x19, x20]) ∧ Bag S1 b ∧ b < S1.nx) ?_ ?_
  · simp only [List.set_cons_succ, List.set_cons_zero, wipeR, wp_mSeq, wp_mIfS, wp_mSet, wp_mRet, wp_mDrop, wp_mNx, wp_mPar, wp_parF, wp_mB, wp_mBin, wp_mUn, wp_mCall, wp_mFn, wp_mNil, wp_mCons, wp_mTup, wp_mLst, wp_mIf, wp_mAndV, wp_mOrV, wp_mNotV, wp_mIsN, wp_mNotN, wp_asB, wp_asI, wp_mTru, wp_truB, wp_mAnd, wp_mOr, wp_mNot, wp_mYes, wp_mPart, wp_mSl, wp_mVs, wp_mV0, wp_mC, wp_ret, wp_sub, wp_addI, wp_lt, wp_le, wp_gt, wp_ge, wp_neg, wp_eqS, wp_lenT, wp_lenL, wp_tupT, wp_tupL, Bool.not_true, Bool.not_false, Bool.false_eq_true, if_true, if_false]
    refine take_fn hb (by decide) (by decide) fun v S1 a c g1 k1 => ?_
    have lt1 := Nat.lt_of_lt_of_le hlt k1.1
    by_cases hv : 0 < v
    · simp only [List.set_cons_succ, List.set_cons_zero, wipeR, wp_mSeq, wp_mIfS, wp_mSet, wp_mRet, wp_mDrop, wp_mNx, wp_mPar, wp_parF, wp_mB, wp_mBin, wp_mUn, wp_mCall, wp_mFn, wp_mNil, wp_mCons, wp_mTup, wp_mLst, wp_mIf, wp_mAndV, wp_mOrV, wp_mNotV, wp_mIsN, wp_mNotN, wp_asB, wp_asI, wp_mTru, wp_truB, wp_mAnd, wp_mOr, wp_mNot, wp_mYes, wp_mPart, wp_mSl, wp_mVs, wp_mV0, wp_mC, wp_ret, wp_sub, wp_addI, wp_lt, wp_le, wp_gt, wp_ge, wp_neg, wp_eqS, wp_lenT, wp_lenL, wp_tupT, wp_tupL, Bool.not_true, Bool.not_false, Bool.false_eq_true, if_true, if_false, decide_eq_true hv]
      exact nested_spec g1 lt1 fun q S2 hq _ _ g2 k2 => ⟨trivial, ⟨q, hq, rfl⟩, g2, Nat.lt_of_lt_of_le lt1 k2.1⟩
    · simp only [List.set_cons_succ, List.set_cons_zero, wipeR, wp_mSeq, wp_mIfS, wp_mSet, wp_mRet, wp_mDrop, wp_mNx, wp_mPar, wp_parF, wp_mB, wp_mBin, wp_mUn, wp_mCall, wp_mFn, wp_mNil, wp_mCons, wp_mTup, wp_mLst, wp_mIf, wp_mAndV, wp_mOrV, wp_mNotV, wp_mIsN, wp_mNotN, wp_asB, wp_asI, wp_mTru, wp_truB, wp_mAnd, wp_mOr, wp_mNot, wp_mYes, wp_mPart, wp_mSl, wp_mVs, wp_mV0, wp_mC, wp_ret, wp_sub, wp_addI, wp_lt, wp_le, wp_gt, wp_ge, wp_neg, wp_eqS, wp_lenT, wp_lenL, wp_tupT, wp_tupL, Bool.not_true, Bool.not_false, Bool.false_eq_true, if_true, if_false, decide_eq_false hv]
      exact crossq_spec g1 lt1 fun q S2 hq g2 k2 => ⟨trivial, ⟨q, hq, rfl⟩, g2, Nat.lt_of_lt_of_le lt1 k2.1⟩
  rintro _ S1 ⟨⟨q, h, rfl⟩, g1, lt1⟩
  -- what is shown
  obtain ⟨pq, oq, _⟩ := ok_q h
  generalize hsh : (PyData.tuple [.tuple (q.cols.map .str), .tuple (q.atoms.map atomP), pq]).shown = sh
  have rp : ∀ (S : Sto) (Q : D → Sto → Prop), Wp (reprM [qD q]) S Q ↔ Q (.str sh) S := fun S Q => by rw [wp_repr oq (by decide) (by decide), hsh]
  refine wp_seq (R := fun r S2 => r = [some (scr ns), some (.ref b), x2, some (qD q), some (.str sh), some (.tup (q.cols.map .str)), x6, x7, x8, x9, x10, x11, x12, x13, x14, x15, x16, x17, x18, x19, x20] ∧ S1 = S2) (by simp only [List.set_cons_succ, List.set_cons_zero, wipeR, wp_mSeq, wp_mIfS, wp_mSet, wp_mRet, wp_mDrop, wp_mNx, wp_mPar, wp_parF, wp_mB, wp_mBin, wp_mUn, wp_mCall, wp_mFn, wp_mNil, wp_mCons, wp_mTup, wp_mLst, wp_mIf, wp_mAndV, wp_mOrV, wp_mNotV, wp_mIsN, wp_mNotN, wp_asB, wp_asI, wp_mTru, wp_truB, wp_mAnd, wp_mOr, wp_mNot, wp_mYes, wp_mPart, wp_mSl, wp_mVs, wp_mV0, wp_mC, wp_ret, wp_sub, wp_addI, wp_lt, wp_le, wp_gt, wp_ge, wp_neg, wp_eqS, wp_lenT, wp_lenL, wp_tupT, wp_tupL, Bool.not_true, Bool.not_false, Bool.false_eq_true, if_true, if_false, rp, iq0]; (refine ⟨?_, ?_, ?_⟩ <;> first | trivial | rfl)) ?_
  rintro _ _ ⟨rfl, rfl⟩
  -- names
  obtain ⟨nl, hnl, hns, hsrt⟩ := names_srt h
  have okn := (OkL.map (n := 0) (f := D.str) (g := PyData.str) fun x hx => OkD.str (hns x hx)).tup
  refine wp_seq (R := fun r S2 => r = [some (scr ns), some (.ref b), x2, some (qD q), some (.str sh), some (.tup (q.cols.map .str)), x6, x7, x8, x9, x10, x11, x12, x13, x14, x15, x16, x17, x18, x19, x20] ∧ S1 = S2) ?_ ?_
  · simp only [List.set_cons_succ, List.set_cons_zero, wipeR, wp_mSeq, wp_mIfS, wp_mSet, wp_mRet, wp_mDrop, wp_mNx, wp_mPar, wp_parF, wp_mB, wp_mBin, wp_mUn, wp_mCall, wp_mFn, wp_mNil, wp_mCons, wp_mTup, wp_mLst, wp_mIf, wp_mAndV, wp_mOrV, wp_mNotV, wp_mIsN, wp_mNotN, wp_asB, wp_asI, wp_mTru, wp_truB, wp_mAnd, wp_mOr, wp_mNot, wp_mYes, wp_mPart, wp_mSl, wp_mVs, wp_mV0, wp_mC, wp_ret, wp_sub, wp_addI, wp_lt, wp_le, wp_gt, wp_ge, wp_neg, wp_eqS, wp_lenT, wp_lenL, wp_tupT, wp_tupL, Bool.not_true, Bool.not_false, Bool.false_eq_true, if_true, if_false, names_fn h hsrt, wp_mLc, wp_mISeq, iq1, src_tup]
    refine (lcA (g := gV 17) (t := fun _ => true) (f := fun a : Atom => D.str a.t) (c := atomD) (l := q.atoms) srcOk_nil fun a ha => ⟨_, rfl, ?_, fun _ => ?_⟩).mpr ?_
    · simp only [List.set_cons_succ, List.set_cons_zero, wipeR, wp_mSeq, wp_mIfS, wp_mSet, wp_mRet, wp_mDrop, wp_mNx, wp_mPar, wp_parF, wp_mB, wp_mBin, wp_mUn, wp_mCall, wp_mFn, wp_mNil, wp_mCons, wp_mTup, wp_mLst, wp_mIf, wp_mAndV, wp_mOrV, wp_mNotV, wp_mIsN, wp_mNotN, wp_asB, wp_asI, wp_mTru, wp_truB, wp_mAnd, wp_mOr, wp_mNot, wp_mYes, wp_mPart, wp_mSl, wp_mVs, wp_mV0, wp_mC, wp_ret, wp_sub, wp_addI, wp_lt, wp_le, wp_gt, wp_ge, wp_neg, wp_eqS, wp_lenT, wp_lenL, wp_tupT, wp_tupL, Bool.not_true, Bool.not_false, Bool.false_eq_true, if_true, if_false]
      (first | exact ⟨trivial, trivial⟩ | exact ⟨rfl, trivial⟩ | exact ⟨trivial, rfl⟩ | exact ⟨rfl, rfl⟩)
    · simp only [List.set_cons_succ, List.set_cons_zero, wipeR, wp_mSeq, wp_mIfS, wp_mSet, wp_mRet, wp_mDrop, wp_mNx, wp_mPar, wp_parF, wp_mB, wp_mBin, wp_mUn, wp_mCall, wp_mFn, wp_mNil, wp_mCons, wp_mTup, wp_mLst, wp_mIf, wp_mAndV, wp_mOrV, wp_mNotV, wp_mIsN, wp_mNotN, wp_asB, wp_asI, wp_mTru, wp_truB, wp_mAnd, wp_mOr, wp_mNot, wp_mYes, wp_mPart, wp_mSl, wp_mVs, wp_mV0, wp_mC, wp_ret, wp_sub, wp_addI, wp_lt, wp_le, wp_gt, wp_ge, wp_neg, wp_eqS, wp_lenT, wp_lenL, wp_tupT, wp_tupL, Bool.not_true, Bool.not_false, Bool.false_eq_true, if_true, if_false, at1]
      (first | exact ⟨trivial, trivial⟩ | exact ⟨rfl, trivial⟩ | exact ⟨trivial, rfl⟩ | exact ⟨rfl, rfl⟩)
    rw [filt_true, wp_lim (by rw [List.length_map]; have := h.a; omega)]
    simp only [List.set_cons_succ, List.set_cons_zero, wipeR, wp_mSeq, wp_mIfS, wp_mSet, wp_mRet, wp_mDrop, wp_mNx, wp_mPar, wp_parF, wp_mB, wp_mBin, wp_mUn, wp_mCall, wp_mFn, wp_mNil, wp_mCons, wp_mTup, wp_mLst, wp_mIf, wp_mAndV, wp_mOrV, wp_mNotV, wp_mIsN, wp_mNotN, wp_asB, wp_asI, wp_mTru, wp_truB, wp_mAnd, wp_mOr, wp_mNot, wp_mYes, wp_mPart, wp_mSl, wp_mVs, wp_mV0, wp_mC, wp_ret, wp_sub, wp_addI, wp_lt, wp_le, wp_gt, wp_ge, wp_neg, wp_eqS, wp_lenT, wp_lenL, wp_tupT, wp_tupL, Bool.not_true, Bool.not_false, Bool.false_eq_true, if_true, if_false, srt_wp hsrt]
    rw [alike_fn okn (by omega) (by omega)]
    simp only [List.set_cons_succ, List.set_cons_zero, wipeR, wp_mSeq, wp_mIfS, wp_mSet, wp_mRet, wp_mDrop, wp_mNx, wp_mPar, wp_parF, wp_mB, wp_mBin, wp_mUn, wp_mCall, wp_mFn, wp_mNil, wp_mCons, wp_mTup, wp_mLst, wp_mIf, wp_mAndV, wp_mOrV, wp_mNotV, wp_mIsN, wp_mNotN, wp_asB, wp_asI, wp_mTru, wp_truB, wp_mAnd, wp_mOr, wp_mNot, wp_mYes, wp_mPart, wp_mSl, wp_mVs, wp_mV0, wp_mC, wp_ret, wp_sub, wp_addI, wp_lt, wp_le, wp_gt, wp_ge, wp_neg, wp_eqS, wp_lenT, wp_lenL, wp_tupT, wp_tupL, Bool.not_true, Bool.not_false, Bool.false_eq_true, if_true, if_false]
    (refine ⟨?_, ?_, ?_⟩ <;> first | trivial | rfl)
  rintro _ _ ⟨rfl, rfl⟩
  -- columns
  refine wp_seq (R := fun r S2 => EvQ ns b q sh r ∧ S1 = S2) ?_ ?_
  · rw [wp_mFor, wp_mISeq]
    simp only [List.set_cons_succ, List.set_cons_zero, wipeR, wp_mSeq, wp_mIfS, wp_mSet, wp_mRet, wp_mDrop, wp_mNx, wp_mPar, wp_parF, wp_mB, wp_mBin, wp_mUn, wp_mCall, wp_mFn, wp_mNil, wp_mCons, wp_mTup, wp_mLst, wp_mIf, wp_mAndV, wp_mOrV, wp_mNotV, wp_mIsN, wp_mNotN, wp_asB, wp_asI, wp_mTru, wp_truB, wp_mAnd, wp_mOr, wp_mNot, wp_mYes, wp_mPart, wp_mSl, wp_mVs, wp_mV0, wp_mC, wp_ret, wp_sub, wp_addI, wp_lt, wp_le, wp_gt, wp_ge, wp_neg, wp_eqS, wp_lenT, wp_lenL, wp_tupT, wp_tupL, Bool.not_true, Bool.not_false, Bool.false_eq_true, if_true, if_false, src_tup]
    refine (loopA_done (g := gV 6) (src := ⟨q.cols.map .str, []⟩) (l := q.cols) (pre := []) (c := D.str) (I := fun _ r S2 => EvQ ns b q sh r ∧ S1 = S2) (fun _ _ _ _ => srcOk_nil) ⟨⟨_, _, _, _, _, _, _, _, _, _, _, _, _, _, _, _, rfl⟩, rfl⟩ ?_).mono fun p S2 hh => hh
    rintro done c rest e _ S2 ⟨⟨x2, x6, x7, x8, x9, x10, x11, x12, x13, x14, x15, x16, x17, x18, x19, x20, rfl⟩, rfl⟩
    have hcm : c ∈ q.cols := by
      have e' : q.cols = done ++ c :: rest := e
      rw [e']; simp
    refine ⟨_, rfl, (col_turn h (h.cs c hcm)).mono ?_⟩
    rintro ⟨fl, r⟩ S3 ⟨e1, ⟨y7, y8, y9, e2⟩, rfl⟩
    have e2 : r = _ := e2
    exact ⟨e1, ⟨_, _, _, _, _, _, _, _, _, _, _, _, _, _, _, _, e2⟩, rfl⟩
  rintro _ _ ⟨⟨x2, x6, x7, x8, x9, x10, x11, x12, x13, x14, x15, x16, x17, x18, x19, x20, rfl⟩, rfl⟩
  -- a point
  refine wp_seq (R := fun r S2 => (∃ vs : List Int, vs.length = q.cols.length ∧ (∀ v ∈ vs, 0 ≤ v ∧ v < 9) ∧ r = [some (scr ns), some (.ref b), x2, some (qD q), some (.str sh), some (.tup (q.cols.map .str)), x6, x7, x8, x9, some (.tup (vs.map .int)), x11, x12, x13, x14, x15, x16, x17, x18, x19, x20]) ∧ Bag S2 b ∧ b < S2.nx) ?_ ?_
  · simp only [List.set_cons_succ, List.set_cons_zero, wipeR, wp_mSeq, wp_mIfS, wp_mSet, wp_mRet, wp_mDrop, wp_mNx, wp_mPar, wp_parF, wp_mB, wp_mBin, wp_mUn, wp_mCall, wp_mFn, wp_mNil, wp_mCons, wp_mTup, wp_mLst, wp_mIf, wp_mAndV, wp_mOrV, wp_mNotV, wp_mIsN, wp_mNotN, wp_asB, wp_asI, wp_mTru, wp_truB, wp_mAnd, wp_mOr, wp_mNot, wp_mYes, wp_mPart, wp_mSl, wp_mVs, wp_mV0, wp_mC, wp_ret, wp_sub, wp_addI, wp_lt, wp_le, wp_gt, wp_ge, wp_neg, wp_eqS, wp_lenT, wp_lenL, wp_tupT, wp_tupL, Bool.not_true, Bool.not_false, Bool.false_eq_true, if_true, if_false, wp_mLc, wp_mISeq, src_tup]
    refine (lcA_inv (g := gV 6) (src := ⟨q.cols.map .str, []⟩) (l := q.cols) (c := D.str) (I := fun S2 => Bag S2 b ∧ b < S2.nx) (P := fun _ y => ∃ v : Int, y = .int v ∧ 0 ≤ v ∧ v < 9) (fun _ _ => srcOk_nil) ⟨g1, lt1⟩ fun c hc => ⟨_, rfl, fun S2 ⟨g2, lt2⟩ => ?_⟩).mono ?_
    · simp only [List.set_cons_succ, List.set_cons_zero, wipeR, wp_mSeq, wp_mIfS, wp_mSet, wp_mRet, wp_mDrop, wp_mNx, wp_mPar, wp_parF, wp_mB, wp_mBin, wp_mUn, wp_mCall, wp_mFn, wp_mNil, wp_mCons, wp_mTup, wp_mLst, wp_mIf, wp_mAndV, wp_mOrV, wp_mNotV, wp_mIsN, wp_mNotN, wp_asB, wp_asI, wp_mTru, wp_truB, wp_mAnd, wp_mOr, wp_mNot, wp_mYes, wp_mPart, wp_mSl, wp_mVs, wp_mV0, wp_mC, wp_ret, wp_sub, wp_addI, wp_lt, wp_le, wp_gt, wp_ge, wp_neg, wp_eqS, wp_lenT, wp_lenL, wp_tupT, wp_tupL, Bool.not_true, Bool.not_false, Bool.false_eq_true, if_true, if_false]
      refine ⟨trivial, ?_⟩
      refine take_fn g2 (by decide) (by decide) fun v S3 a c g3 k3 => ?_
      exact ⟨⟨v, rfl, a, c⟩, g3, Nat.lt_of_lt_of_le lt2 k3.1⟩
    · rintro r S2 ⟨hl, hr, g2, lt2⟩
      have : ∃ vs : List Int, r = vs.map .int ∧ ∀ v ∈ vs, 0 ≤ v ∧ v < 9 := by
        clear hl
        induction r with
        | nil => exact ⟨[], rfl, fun v hv => nomatch hv⟩
        | cons y r ih =>
          obtain ⟨vs, e1, e2⟩ := ih fun y hy => hr y (List.mem_cons_of_mem _ hy)
          obtain ⟨_, _, v, rfl, h1, h2⟩ := hr y List.mem_cons_self
          refine ⟨v :: vs, by rw [e1]; rfl, fun w hw => ?_⟩
          rcases List.mem_cons.mp hw with rfl | hw
          · exact ⟨h1, h2⟩
          · exact e2 w hw
      obtain ⟨vs, rfl, hv⟩ := this
      rw [List.length_map] at hl
      rw [wp_lim (by rw [List.length_map]; have := h.c; omega)]
      simp only [List.set_cons_succ, List.set_cons_zero, wipeR, wp_mSeq, wp_mIfS, wp_mSet, wp_mRet, wp_mDrop, wp_mNx, wp_mPar, wp_parF, wp_mB, wp_mBin, wp_mUn, wp_mCall, wp_mFn, wp_mNil, wp_mCons, wp_mTup, wp_mLst, wp_mIf, wp_mAndV, wp_mOrV, wp_mNotV, wp_mIsN, wp_mNotN, wp_asB, wp_asI, wp_mTru, wp_truB, wp_mAnd, wp_mOr, wp_mNot, wp_mYes, wp_mPart, wp_mSl, wp_mVs, wp_mV0, wp_mC, wp_ret, wp_sub, wp_addI, wp_lt, wp_le, wp_gt, wp_ge, wp_neg, wp_eqS, wp_lenT, wp_lenL, wp_tupT, wp_tupL, Bool.not_true, Bool.not_false, Bool.false_eq_true, if_true, if_false]
      exact ⟨trivial, ⟨vs, hl, hv, rfl⟩, g2, lt2⟩
  rintro _ S2 ⟨⟨vs, hvl, hvb, rfl⟩, g2, lt2⟩
  -- parts
  let pf : Nat → D := fun k => match q.atoms[k]? with
    | some x => partD q x vs
    | none => .non
  have okp : ∃ p, OkD 9000 2 (.lst ((List.range q.atoms.length).map pf)) p := by
    obtain ⟨ps, hp⟩ := OkL.all (a := 500) (n := 1) (l := (List.range q.atoms.length).map pf) fun d hd => by
      obtain ⟨k, hk, rfl⟩ := List.mem_map.mp hd
      show ∃ p, OkD 500 1 (match q.atoms[k]? with | some x => partD q x vs | none => .non) p
      split
      · rename_i x hx
        unfold partD
        have hxo := h.ok x (List.mem_of_getElem? hx)
        refine ⟨_, (OkL.map (f := fun c => D.int (vs.getD (ixOf q.cols c) 0)) (g := fun c => PyData.int (vs.getD (ixOf q.cols c) 0)) fun c hc => OkD.int ?_ ?_).tup.mono (by have := hxo.1.2.2.1; omega) (Nat.le_refl _)⟩
        all_goals
          have hlt := ixOf_lt (hxo.2 c hc)
          rw [← hvl] at hlt
          have := hvb _ (List.getElem_mem hlt)
          simp only [List.getD, List.getElem?_eq_getElem hlt, Option.getD_some]
          omega
      · exact ⟨_, OkD.non.mono (Nat.zero_le _) (Nat.zero_le _)⟩
    refine ⟨_, hp.lst.mono ?_ (Nat.le_refl _)⟩
    rw [List.length_map, List.length_range]
    have := h.a
    omega
  obtain ⟨pp, okp⟩ := okp
  have hal := h.a
  have rd : rngD 0 q.atoms.length = (List.range q.atoms.length).map fun k : Nat => D.int (k : Nat) := by unfold rngD; exact List.map_congr_left fun k _ => by simp
  refine wp_seq (R := fun r S3 => r = [some (scr ns), some (.ref b), x2, some (qD q), some (.str sh), some (.tup (q.cols.map .str)), x6, x7, x8, some (.lst ((List.range q.atoms.length).map pf)), some (.tup (vs.map .int)), x11, x12, x13, x14, x15, x16, x17, x18, x19, x20] ∧ S2 = S3) ?_ ?_
  · simp only [List.set_cons_succ, List.set_cons_zero, wipeR, wp_mSeq, wp_mIfS, wp_mSet, wp_mRet, wp_mDrop, wp_mNx, wp_mPar, wp_parF, wp_mB, wp_mBin, wp_mUn, wp_mCall, wp_mFn, wp_mNil, wp_mCons, wp_mTup, wp_mLst, wp_mIf, wp_mAndV, wp_mOrV, wp_mNotV, wp_mIsN, wp_mNotN, wp_asB, wp_asI, wp_mTru, wp_truB, wp_mAnd, wp_mOr, wp_mNot, wp_mYes, wp_mPart, wp_mSl, wp_mVs, wp_mV0, wp_mC, wp_ret, wp_sub, wp_addI, wp_lt, wp_le, wp_gt, wp_ge, wp_neg, wp_eqS, wp_lenT, wp_lenL, wp_tupT, wp_tupL, Bool.not_true, Bool.not_false, Bool.false_eq_true, if_true, if_false, wp_mLc, wp_mIR, iq1, List.length_map]
    rw [rng_src (by omega) (by omega), Int.toNat_natCast, rd]
    refine (lcA (g := gV 20) (t := fun _ => true) (f := pf) (c := fun k : Nat => D.int (k : Nat)) (l := List.range q.atoms.length) srcOk_nil fun k hk => ⟨_, rfl, ?_, fun _ => ?_⟩).mpr ?_
    · simp only [List.set_cons_succ, List.set_cons_zero, wipeR, wp_mSeq, wp_mIfS, wp_mSet, wp_mRet, wp_mDrop, wp_mNx, wp_mPar, wp_parF, wp_mB, wp_mBin, wp_mUn, wp_mCall, wp_mFn, wp_mNil, wp_mCons, wp_mTup, wp_mLst, wp_mIf, wp_mAndV, wp_mOrV, wp_mNotV, wp_mIsN, wp_mNotN, wp_asB, wp_asI, wp_mTru, wp_truB, wp_mAnd, wp_mOr, wp_mNot, wp_mYes, wp_mPart, wp_mSl, wp_mVs, wp_mV0, wp_mC, wp_ret, wp_sub, wp_addI, wp_lt, wp_le, wp_gt, wp_ge, wp_neg, wp_eqS, wp_lenT, wp_lenL, wp_tupT, wp_tupL, Bool.not_true, Bool.not_false, Bool.false_eq_true, if_true, if_false]
      (first | exact ⟨trivial, trivial⟩ | exact ⟨rfl, trivial⟩ | exact ⟨trivial, rfl⟩ | exact ⟨rfl, rfl⟩)
    · have hk' := List.mem_range.mp hk
      have hx := List.getElem?_eq_getElem hk'
      simp only [List.set_cons_succ, List.set_cons_zero, wipeR, wp_mSeq, wp_mIfS, wp_mSet, wp_mRet, wp_mDrop, wp_mNx, wp_mPar, wp_parF, wp_mB, wp_mBin, wp_mUn, wp_mCall, wp_mFn, wp_mNil, wp_mCons, wp_mTup, wp_mLst, wp_mIf, wp_mAndV, wp_mOrV, wp_mNotV, wp_mIsN, wp_mNotN, wp_asB, wp_asI, wp_mTru, wp_truB, wp_mAnd, wp_mOr, wp_mNot, wp_mYes, wp_mPart, wp_mSl, wp_mVs, wp_mV0, wp_mC, wp_ret, wp_sub, wp_addI, wp_lt, wp_le, wp_gt, wp_ge, wp_neg, wp_eqS, wp_lenT, wp_lenL, wp_tupT, wp_tupL, Bool.not_true, Bool.not_false, Bool.false_eq_true, if_true, if_false, law_part_fn h hx hvl]
      refine ⟨?_, trivial⟩
      show _ = (match q.atoms[k]? with | some x => partD q x vs | none => .non)
      rw [hx]
    rw [filt_true, wp_lim (by rw [List.length_map, List.length_range]; omega)]
    (refine ⟨?_, ?_, ?_⟩ <;> first | trivial | rfl)
  rintro _ _ ⟨rfl, rfl⟩
  refine wp_seq (R := fun r S3 => r = [some (scr ns), some (.ref b), x2, some (qD q), some (.str sh), some (.tup (q.cols.map .str)), x6, x7, x8, some (.lst ((List.range q.atoms.length).map pf)), some (.tup (vs.map .int)), x11, x12, x13, x14, x15, x16, x17, x18, x19, x20] ∧ S2 = S3) ?_ ?_
  · simp only [List.set_cons_succ, List.set_cons_zero, wipeR, wp_mSeq, wp_mIfS, wp_mSet, wp_mRet, wp_mDrop, wp_mNx, wp_mPar, wp_parF, wp_mB, wp_mBin, wp_mUn, wp_mCall, wp_mFn, wp_mNil, wp_mCons, wp_mTup, wp_mLst, wp_mIf, wp_mAndV, wp_mOrV, wp_mNotV, wp_mIsN, wp_mNotN, wp_asB, wp_asI, wp_mTru, wp_truB, wp_mAnd, wp_mOr, wp_mNot, wp_mYes, wp_mPart, wp_mSl, wp_mVs, wp_mV0, wp_mC, wp_ret, wp_sub, wp_addI, wp_lt, wp_le, wp_gt, wp_ge, wp_neg, wp_eqS, wp_lenT, wp_lenL, wp_tupT, wp_tupL, Bool.not_true, Bool.not_false, Bool.false_eq_true, if_true, if_false, wp_mLc, wp_mIR, iq1, List.length_map]
    rw [rng_src (by omega) (by omega), Int.toNat_natCast, rd]
    refine (lcA (g := gV 20) (t := fun _ => true) (f := pf) (c := fun k : Nat => D.int (k : Nat)) (l := List.range q.atoms.length) srcOk_nil fun k hk => ⟨_, rfl, ?_, fun _ => ?_⟩).mpr ?_
    · simp only [List.set_cons_succ, List.set_cons_zero, wipeR, wp_mSeq, wp_mIfS, wp_mSet, wp_mRet, wp_mDrop, wp_mNx, wp_mPar, wp_parF, wp_mB, wp_mBin, wp_mUn, wp_mCall, wp_mFn, wp_mNil, wp_mCons, wp_mTup, wp_mLst, wp_mIf, wp_mAndV, wp_mOrV, wp_mNotV, wp_mIsN, wp_mNotN, wp_asB, wp_asI, wp_mTru, wp_truB, wp_mAnd, wp_mOr, wp_mNot, wp_mYes, wp_mPart, wp_mSl, wp_mVs, wp_mV0, wp_mC, wp_ret, wp_sub, wp_addI, wp_lt, wp_le, wp_gt, wp_ge, wp_neg, wp_eqS, wp_lenT, wp_lenL, wp_tupT, wp_tupL, Bool.not_true, Bool.not_false, Bool.false_eq_true, if_true, if_false]
      (first | exact ⟨trivial, trivial⟩ | exact ⟨rfl, trivial⟩ | exact ⟨trivial, rfl⟩ | exact ⟨rfl, rfl⟩)
    · have hk' := List.mem_range.mp hk
      have hx := List.getElem?_eq_getElem hk'
      simp only [List.set_cons_succ, List.set_cons_zero, wipeR, wp_mSeq, wp_mIfS, wp_mSet, wp_mRet, wp_mDrop, wp_mNx, wp_mPar, wp_parF, wp_mB, wp_mBin, wp_mUn, wp_mCall, wp_mFn, wp_mNil, wp_mCons, wp_mTup, wp_mLst, wp_mIf, wp_mAndV, wp_mOrV, wp_mNotV, wp_mIsN, wp_mNotN, wp_asB, wp_asI, wp_mTru, wp_truB, wp_mAnd, wp_mOr, wp_mNot, wp_mYes, wp_mPart, wp_mSl, wp_mVs, wp_mV0, wp_mC, wp_ret, wp_sub, wp_addI, wp_lt, wp_le, wp_gt, wp_ge, wp_neg, wp_eqS, wp_lenT, wp_lenL, wp_tupT, wp_tupL, Bool.not_true, Bool.not_false, Bool.false_eq_true, if_true, if_false, part_fn h hx hvl]
      refine ⟨?_, trivial⟩
      show _ = (match q.atoms[k]? with | some x => partD q x vs | none => .non)
      rw [hx]
    rw [filt_true, wp_lim (by rw [List.length_map, List.length_range]; omega), alike_fn okp (by omega) (by omega)]
    simp only [List.set_cons_succ, List.set_cons_zero, wipeR, wp_mSeq, wp_mIfS, wp_mSet, wp_mRet, wp_mDrop, wp_mNx, wp_mPar, wp_parF, wp_mB, wp_mBin, wp_mUn, wp_mCall, wp_mFn, wp_mNil, wp_mCons, wp_mTup, wp_mLst, wp_mIf, wp_mAndV, wp_mOrV, wp_mNotV, wp_mIsN, wp_mNotN, wp_asB, wp_asI, wp_mTru, wp_truB, wp_mAnd, wp_mOr, wp_mNot, wp_mYes, wp_mPart, wp_mSl, wp_mVs, wp_mV0, wp_mC, wp_ret, wp_sub, wp_addI, wp_lt, wp_le, wp_gt, wp_ge, wp_neg, wp_eqS, wp_lenT, wp_lenL, wp_tupT, wp_tupL, Bool.not_true, Bool.not_false, Bool.false_eq_true, if_true, if_false]
    (refine ⟨?_, ?_, ?_⟩ <;> first | trivial | rfl)
  rintro _ _ ⟨rfl, rfl⟩
  -- points asked
  refine wp_seq (R := fun r S3 => EvQ ns b q sh r ∧ Bag S3 b ∧ b < S3.nx) ?_ ?_
  · rw [wp_mFor, wp_mIR]
    simp only [List.set_cons_succ, List.set_cons_zero, wipeR, wp_mSeq, wp_mIfS, wp_mSet, wp_mRet, wp_mDrop, wp_mNx, wp_mPar, wp_parF, wp_mB, wp_mBin, wp_mUn, wp_mCall, wp_mFn, wp_mNil, wp_mCons, wp_mTup, wp_mLst, wp_mIf, wp_mAndV, wp_mOrV, wp_mNotV, wp_mIsN, wp_mNotN, wp_asB, wp_asI, wp_mTru, wp_truB, wp_mAnd, wp_mOr, wp_mNot, wp_mYes, wp_mPart, wp_mSl, wp_mVs, wp_mV0, wp_mC, wp_ret, wp_sub, wp_addI, wp_lt, wp_le, wp_gt, wp_ge, wp_neg, wp_eqS, wp_lenT, wp_lenL, wp_tupT, wp_tupL, Bool.not_true, Bool.not_false, Bool.false_eq_true, if_true, if_false]
    rw [rng_src (by decide) (by decide)]
    refine (loop_inv (g := gV 11) (src := ⟨rngD 0 (5 : Int).toNat, []⟩) (I := fun r S3 => EvQ ns b q sh r ∧ Bag S3 b ∧ b < S3.nx) (fun _ _ _ => srcOk_nil) ⟨⟨_, _, _, _, _, _, _, _, _, _, _, _, _, _, _, _, rfl⟩, g2, lt2⟩ ?_).mono fun p S3 hh => hh
    rintro d _ _ S3 ⟨⟨x2, x6, x7, x8, x9, x10, x11, x12, x13, x14, x15, x16, x17, x18, x19, x20, rfl⟩, g3, lt3⟩
    refine ⟨_, rfl, (again_turn h g3 lt3).mono ?_⟩
    rintro ⟨fl, r⟩ S4 ⟨e1, ⟨y6, y11, y12, y13, y14, y15, e2⟩, g4, lt4⟩
    have e2 : r = _ := e2
    exact ⟨e1, ⟨_, _, _, _, _, _, _, _, _, _, _, _, _, _, _, _, e2⟩, g4, lt4⟩
  rintro _ S3 ⟨⟨x2, x6, x7, x8, x9, x10, x11, x12, x13, x14, x15, x16, x17, x18, x19, x20, rfl⟩, g3, lt3⟩
  -- another order
  refine wp_seq (R := fun r S4 => (∃ cs : List Str, cs.Perm q.cols ∧ r = [some (scr ns), some (.ref b), x2, some (qD q), some (.str sh), some (.tup (q.cols.map .str)), x6, x7, x8, x9, x10, x11, x12, x13, x14, x15, some (.tup (cs.map .str)), x17, x18, x19, x20]) ∧ Bag S4 b ∧ b < S4.nx) ?_ ?_
  · have li : ∀ (S : Sto) (Q : D → Sto → Prop), Wp (listM [.tup (q.cols.map .str)]) S Q ↔ Q (.lst (q.cols.map .str)) S := fun S Q => wp_some rfl
    simp only [List.set_cons_succ, List.set_cons_zero, wipeR, wp_mSeq, wp_mIfS, wp_mSet, wp_mRet, wp_mDrop, wp_mNx, wp_mPar, wp_parF, wp_mB, wp_mBin, wp_mUn, wp_mCall, wp_mFn, wp_mNil, wp_mCons, wp_mTup, wp_mLst, wp_mIf, wp_mAndV, wp_mOrV, wp_mNotV, wp_mIsN, wp_mNotN, wp_asB, wp_asI, wp_mTru, wp_truB, wp_mAnd, wp_mOr, wp_mNot, wp_mYes, wp_mPart, wp_mSl, wp_mVs, wp_mV0, wp_mC, wp_ret, wp_sub, wp_addI, wp_lt, wp_le, wp_gt, wp_ge, wp_neg, wp_eqS, wp_lenT, wp_lenL, wp_tupT, wp_tupL, Bool.not_true, Bool.not_false, Bool.false_eq_true, if_true, if_false, li]
    refine mixed_strs g3 lt3 rfl (by have := h.c; omega) fun cs n S4 hp ho _ _ g4 k4 => ?_
    rw [wp_tupR ho]
    exact ⟨trivial, ⟨cs, hp, rfl⟩, g4, Nat.lt_of_lt_of_le lt3 k4.1⟩
  rintro _ S4 ⟨⟨cs, hp, rfl⟩, g4, lt4⟩
  obtain ⟨po, oo, _⟩ := ok_qd (cs := cs) (by rw [hp.length_eq]; exact h.c) (fun x hx => h.cs x (hp.mem_iff.mp hx)) h.a (fun x hx => (h.ok x hx).1) (Nat.le_succ_of_le h.rl) h.rok
  have s1 : ∀ (S : Sto) (Q : D → Sto → Prop), Wp (slM (qD q) (some 1) none) S Q ↔ Q (.tup [.tup (q.atoms.map atomD), rgD q.rs]) S := fun S Q => wp_some rfl
  have ad : ∀ (S : Sto) (Q : D → Sto → Prop), Wp (addM (.tup [.tup (cs.map .str)]) (.tup [.tup (q.atoms.map atomD), rgD q.rs])) S Q ↔ Q (qD ⟨cs, q.atoms, q.rs⟩) S := fun S Q => wp_addT (by simp)
  simp only [List.set_cons_succ, List.set_cons_zero, wipeR, wp_mSeq, wp_mIfS, wp_mSet, wp_mRet, wp_mDrop, wp_mNx, wp_mPar, wp_parF, wp_mB, wp_mBin, wp_mUn, wp_mCall, wp_mFn, wp_mNil, wp_mCons, wp_mTup, wp_mLst, wp_mIf, wp_mAndV, wp_mOrV, wp_mNotV, wp_mIsN, wp_mNotN, wp_asB, wp_asI, wp_mTru, wp_truB, wp_mAnd, wp_mOr, wp_mNot, wp_mYes, wp_mPart, wp_mSl, wp_mVs, wp_mV0, wp_mC, wp_ret, wp_sub, wp_addI, wp_lt, wp_le, wp_gt, wp_ge, wp_neg, wp_eqS, wp_lenT, wp_lenL, wp_tupT, wp_tupL, Bool.not_true, Bool.not_false, Bool.false_eq_true, if_true, if_false, order_fn, Mn.mt1, s1, ad, alike_fn oo (by omega) (by omega), rp, wp_neS, beq_self_eq_true]
  exact ⟨trivial, ⟨_, _, _, _, _, _, _, _, _, _, _, _, _, _, _, _, _, _, _, rfl⟩, g4, lt4⟩
end
theorem law_true (ns : List Int) (_ : ns.length ≤ 63) : ∃ S', d_law [scr ns] S0 = some (.bl true, S') := by
  have main : Wp (d_law [scr ns]) S0 fun d _ => d = .bl true := by
    unfold d_law
    rw [wp_def]
    rw [show startR N_law.length [scr ns] = [some (scr ns), none, none, none, none, none, none, none, none, none, none, none, none, none, none, none, none, none, none, none, none] from rfl]
    unfold b_law
    refine wp_seq (R := fun q S1 => ∃ b, Ev ns b q ∧ Bag S1 b ∧ b < S1.nx) ?_ ?_
    · rw [wp_mSet]
      simp only [wp_mFn, wp_mCons, wp_mNil, wp_mV0]
      rw [if_pos (show [scr ns].length = P_law_bag.length from rfl)]
      refine bag_spec.mono fun d S1 ⟨b, e, g, lt⟩ => ?_
      subst e
      exact ⟨trivial, b, ⟨_, _, _, _, _, _, _, _, _, _, _, _, _, _, _, _, _, _, _, rfl⟩, g, lt⟩
    rintro q S1 ⟨b, hO, g1, lt1⟩
    refine wp_seq (R := fun q S2 => True) ?_ ?_
    · rw [wp_mFor, wp_mIR]
      simp only [wp_mCons, wp_mNil, wp_mC]
      rw [rng_src (by decide) (by decide)]
      refine (loop_inv (g := gV 2) (src := ⟨rngD 0 (4 : Int).toNat, []⟩) (I := fun q S => Ev ns b q ∧ Bag S b ∧ b < S.nx) (fun _ _ _ => srcOk_nil) ⟨hO, g1, lt1⟩ ?_).mono fun p S2 h => ⟨h.1, trivial⟩
      rintro d _ q S2 ⟨⟨x2, x3, x4, x5, x6, x7, x8, x9, x10, x11, x12, x13, x14, x15, x16, x17, x18, x19, x20, rfl⟩, g2, lt2⟩
      exact ⟨_, rfl, turn_spec ⟨_, _, _, _, _, _, _, _, _, _, _, _, _, _, _, _, _, _, _, rfl⟩ g2 lt2⟩
    rintro q S2 _
    refine wp_ret1 ?_
    simp only [wp_mC, wp_ret]
  obtain ⟨d, S', e, rfl⟩ := main
  exact ⟨S', e⟩
end K16

open PySem PySem.W PyProof.Rows
set_option maxHeartbeats 0 in
theorem PySem.Challenge.cw_enoughlooks_k16_questions_looked_into_holds : PySem.Challenge.rw_enoughlooks_k16_questions_looked_into.Holds := by
  w_on; o_law; k_head; (case hw => w_witness2)
  k_fill
  refine Mn.walkG (l := PySem.Challenge.rw_enoughlooks_k16_questions_looked_into) (n := 63) (k := 5) (x := "_law_script") (m := K16.d_law) rfl (by decide) rfl ⟨rfl, by decide, by decide⟩ (fun w h Y => PySem.W.kIn_of Y) (K16.law_true) ?F
  case F =>
    intro w mg fa h KX G hmg
    refine' K16.all_mk KX G hmg ?a1 ?l1 ?c1 ?k1 ?a2 ?l2 ?c2 ?k2 ?a3 ?l3 ?c3 ?k3 ?a4 ?l4 ?c4 ?k4 ?a5 ?l5 ?c5 ?k5 ?a6 ?l6 ?c6 ?k6 ?a7 ?l7 ?c7 ?k7 ?a8 ?l8 ?c8 ?k8 ?a9 ?l9 ?c9 ?k9 ?a10 ?l10 ?c10 ?k10 ?a11 ?l11 ?c11 ?k11 ?a12 ?l12 ?c12 ?k12 ?a13 ?l13 ?c13 ?k13 ?a14 ?l14 ?c14 ?k14 ?a15 ?l15 ?c15 ?k15 ?a16 ?l16 ?c16 ?k16 ?a17 ?l17 ?c17 ?k17 ?a18 ?l18 ?c18 ?k18 ?a19 ?l19 ?c19 ?k19 ?a20 ?l20 ?c20 ?k20 ?a21 ?l21 ?c21 ?k21 ?a22 ?l22 ?c22 ?k22 ?a23 ?l23 ?c23 ?k23 ?a24 ?l24 ?c24 ?k24 ?a25 ?l25 ?c25 ?k25 ?a26 ?l26 ?c26 ?k26 ?a27 ?l27 ?c27 ?k27 ?a28 ?l28 ?c28 ?k28 ?a29 ?l29 ?c29 ?k29 ?a30 ?l30 ?c30 ?k30 ?a31 ?l31 ?c31 ?k31 ?z_repr ?z_tuple ?z_int ?z_len ?z_min ?z_max ?z_isinstance ?z_bool ?z_zip ?z_all ?z_list ?z_enumerate ?z_sorted ?z_range ?z_abs
    (case a1 => k_is); (case l1 => k_is); (case c1 => k_is); (case k1 => k_is); (case a2 => k_is); (case l2 => k_is); (case c2 => k_is); (case k2 => k_is); (case a3 => k_is); (case l3 => k_is); (case c3 => k_is); (case k3 => k_is); (case a4 => k_is); (case l4 => k_is); (case c4 => k_is); (case k4 => k_is); (case a5 => k_is); (case l5 => k_is); (case c5 => k_is); (case k5 => k_is); (case a6 => k_is); (case l6 => k_is); (case c6 => k_is); (case k6 => k_is); (case a7 => k_is); (case l7 => k_is); (case c7 => k_is); (case k7 => k_is); (case a8 => k_is); (case l8 => k_is); (case c8 => k_is); (case k8 => k_is); (case a9 => k_is); (case l9 => k_is); (case c9 => k_is); (case k9 => k_is); (case a10 => k_is); (case l10 => k_is); (case c10 => k_is); (case k10 => k_is); (case a11 => k_is); (case l11 => k_is); (case c11 => k_is); (case k11 => k_is); (case a12 => k_is); (case l12 => k_is); (case c12 => k_is); (case k12 => k_is); (case a13 => k_is); (case l13 => k_is); (case c13 => k_is); (case k13 => k_is); (case a14 => k_is); (case l14 => k_is); (case c14 => k_is); (case k14 => k_is); (case a15 => k_is); (case l15 => k_is); (case c15 => k_is); (case k15 => k_is); (case a16 => k_is); (case l16 => k_is); (case c16 => k_is); (case k16 => k_is); (case a17 => k_is); (case l17 => k_is); (case c17 => k_is); (case k17 => k_is); (case a18 => k_is); (case l18 => k_is); (case c18 => k_is); (case k18 => k_is); (case a19 => k_is); (case l19 => k_is); (case c19 => k_is); (case k19 => k_is); (case a20 => k_is); (case l20 => k_is); (case c20 => k_is); (case k20 => k_is); (case a21 => k_is); (case l21 => k_is); (case c21 => k_is); (case k21 => k_is); (case a22 => k_is); (case l22 => k_is); (case c22 => k_is); (case k22 => k_is); (case a23 => k_is); (case l23 => k_is); (case c23 => k_is); (case k23 => k_is); (case a24 => k_is); (case l24 => k_is); (case c24 => k_is); (case k24 => k_is); (case a25 => k_is); (case l25 => k_is); (case c25 => k_is); (case k25 => k_is); (case a26 => k_is); (case l26 => k_is); (case c26 => k_is); (case k26 => k_is); (case a27 => k_is); (case l27 => k_is); (case c27 => k_is); (case k27 => k_is); (case a28 => k_is); (case l28 => k_is); (case c28 => k_is); (case k28 => k_is); (case a29 => k_is); (case l29 => k_is); (case c29 => k_is); (case k29 => k_is); (case a30 => k_is); (case l30 => k_is); (case c30 => k_is); (case k30 => k_is); (case a31 => k_is); (case l31 => k_is); (case c31 => k_is); (case k31 => k_is); (case z_repr => k_is); (case z_tuple => k_is); (case z_int => k_is); (case z_len => k_is); (case z_min => k_is); (case z_max => k_is); (case z_isinstance => k_is); (case z_bool => k_is); (case z_zip => k_is); (case z_all => k_is); (case z_list => k_is); (case z_enumerate => k_is); (case z_sorted => k_is); (case z_range => k_is); (case z_abs => k_is)

