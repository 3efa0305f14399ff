import PyProof.Rows.All
import Wide.All
import OpenK.AllK
import Wide.FinOn
import HandS.List
import HandS.Iter
import HandS.TupAny
import HandS.Zip
import KE.GoesEnum
import KE.GoesZip
import KE.DataFind
import HandS.ForMost
import HandS.ForExc
import HandS.Lambda
import HandS.TryMany
import HandS.CallSlots
import HandS.EndTab
import KE.DataEq
import KE.DataCmp
import KE.DataMinMax
import KE.SortData
import HandS.IsInst
import HandS.TupMul
import HandS.Wide
import HandS.Style
import HandS.Strs
import HandS.TupLen
import KE.KTupSum
import HandS.More
import HandS.Small
import HandS.ExcOwn
import HandS.WordsExc
import PySem.Challenge.RW_wavehouse_k49_whole_years_of_films_or_tr
set_option Elab.async false
set_option linter.all false
set_option maxRecDepth 100000
set_option maxHeartbeats 4000000
/-! VLS: new tuples whose object is known (it has no dict), enumerate and zip over lists and tuples, methods of tuples. -/
namespace VL
open PySem PySem.Spec PyProof.Rows L2
section
variable {X : Cx} {es : List Expr} {pos : Pos} {t : TA}
def NewT (H : Hp) (xs : List V) (Q : VK) : Prop := ∀ p ob, H p = none → ob.dict = none → Q (.ref p) (upd H p (.frz ob (.tup xs)))
/-- (a, b, ..) -/
def tTupS (t : TA) : TE := fun σ H Q => t σ H fun xs H1 => xs.length ≤ sizeLine ∧ NewT H1 xs Q
theorem pe_tupS {x1} (h : PA X es t) : PE X (.Tuple es x1 pos) (tTupS t) := by
  refine ⟨fun pins s σ H Q I hq => ?_⟩
  refine wpAny_Tuple_spliced (thn (h.run pos pins s σ H _ I hq) fun us s1 ⟨xs, H1, I1, r, z, q⟩ => ⟨by rw [← r.length]; exact z, ?_⟩)
  have hf : H1 s1.heap.objs.size = none := I1.hok.fresh (Nat.le_refl _)
  refine ⟨.ref s1.heap.objs.size, upd H1 s1.heap.objs.size (.frz { cls := .type "tuple", data := .seq us.toArray } (.tup xs)), I1.laid (t' := s1.toks) (fun b u e => Heap.get?_push_of_some _ e) (Nat.le_refl _) ?_, rfl, q _ _ hf rfl⟩
  exact ⟨Heap.get?_push_size _ rfl, z, us, r, ⟨_, Heap.get?_push_size _ rfl, rfl, _, rfl⟩⟩
/-- t + u -/
def rCatS (K : PySem.W.Frag) : R2 := fun x y H Q => ∃ a b xs ys, x = .ref a ∧ y = .ref b ∧ SqT K H a xs ∧ SqT K H b ys ∧ xs.length + ys.length ≤ sizeLine ∧
  (xs = [] → Q (.ref b) H) ∧ (xs ≠ [] → ys = [] → Q (.ref a) H) ∧ (xs ≠ [] → ys ≠ [] → NewT H (xs ++ ys) Q)
theorem op_catS : OpR X (binaryOp .Add) (rCatS X.K) := by
  intro pins s σ H x y v u Q I rx ry h
  obtain ⟨a, b, xs, ys, rfl, rfl, ha, hb, hz, q0, q1, q2⟩ := h
  cases rx
  cases ry
  obtain ⟨its, r1, p1, _⟩ := I.tuple ha
  obtain ⟨its2, r2, p2, _⟩ := I.tuple hb
  by_cases hx : xs = []
  · subst hx
    cases r1
    exact cat_tup0 p1 p2 ⟨.ref b, H, I, rfl, q0 rfl⟩
  · refine HT.cat_tup p1 p2 (fun z => hx (r1.nil_iff.mp z)) (fun z => ⟨.ref a, H, I, rfl, q1 hx (r2.nil_iff.mp z)⟩) (fun z => ?_) (by rw [← r1.length, ← r2.length]; exact hz)
    refine ⟨.ref s.heap.objs.size, _, I.laid (t' := s.toks) (o := .frz { cls := .type "tuple", data := .seq (its ++ its2).toArray } (.tup (xs ++ ys))) (fun b ob q => Heap.get?_push_of_some _ q) (Nat.le_refl _) ?_, rfl, q2 hx (fun w => z (r2.nil_iff.mpr w)) _ _ (I.hok.fresh (Nat.le_refl _)) rfl⟩
    exact ⟨Heap.get?_push_size _ rfl, by rw [List.length_append]; exact hz, _, r1.append r2, IsTup.new _ _⟩
/-- t[lo:hi] -/
def rSlS (K : PySem.W.Frag) : V → Option Int → Option Int → Hp → VK → Prop := fun x lo hi H Q => ∃ a xs, x = .ref a ∧ SqT K H a xs ∧
  (HT.sIx xs.length 0 lo = 0 ∧ HT.sIx xs.length xs.length hi = xs.length → Q (.ref a) H) ∧ (¬ (HT.sIx xs.length 0 lo = 0 ∧ HT.sIx xs.length xs.length hi = xs.length) → NewT H (cutV xs lo hi) Q)
theorem sl_tupS : SlR X (rSlS X.K) := by
  intro pins s σ H x v vl vu lo hi sl Q I rx hs pl pu h
  obtain ⟨a, xs, rfl, hx, q1, q2⟩ := h
  cases rx
  obtain ⟨its, r, ht, hz⟩ := I.tuple hx
  have hlen : its.toArray.size = xs.length := by rw [List.size_toArray]; exact r.length.symm
  refine ⟨"tuple", _, PyProof.Rows.slot_tuple_getitem.lookup, ht.typeIs, ?_⟩
  by_cases hw : HT.sIx xs.length 0 lo = 0 ∧ HT.sIx xs.length xs.length hi = xs.length
  · exact getItem_tuple_whole ht hs pl pu (by rw [hlen]; exact hw) ⟨.ref a, H, I, rfl, q1 hw⟩
  · refine HT.getItem_tuple_cut ht hs pl pu (by rw [hlen]; exact hw) ?_ (by rw [hlen]; exact hz)
    rw [hlen]
    refine ⟨.ref s.heap.objs.size, _, I.laid (t' := s.toks) (o := .frz { cls := .type "tuple", data := .seq (List.take (HT.sIx xs.length xs.length hi - HT.sIx xs.length 0 lo) (List.drop (HT.sIx xs.length 0 lo) its.toArray.toList)).toArray } (.tup (cutV xs lo hi))) (fun b ob q => Heap.get?_push_of_some _ q) (Nat.le_refl _) ?_, rfl, q2 hw _ _ (I.hok.fresh (Nat.le_refl _)) rfl⟩
    exact ⟨Heap.get?_push_size _ rfl, Nat.le_trans (cutV_length xs lo hi) hz, _, (r.drop (HT.sIx xs.length 0 lo)).take (HT.sIx xs.length xs.length hi - HT.sIx xs.length 0 lo), IsTup.new _ _⟩
/-- tuple(x) -/
theorem call_tupS : CallR X (.type "tuple") (fun xs H Q => ∃ p ys, xs = [.ref p] ∧ ((SqL X.K H p ys ∧ NewT H ys Q) ∨ (SqT X.K H p ys ∧ Q (.ref p) H))) := by
  intro pins s σ H xs us Q I r h
  obtain ⟨p, ys, rfl, h⟩ := h
  obtain ⟨u, rfl, rx⟩ := vals1 r
  cases rx
  rcases h with ⟨hq, q⟩ | ⟨hq, q⟩
  · obtain ⟨its, r', pl, hz⟩ := I.list hq
    have hlen := r'.length
    refine call_tuple_list pl.isList (fun h' kp => ?_) (by simp only [List.size_toArray] <;> omega)
    have I1 : Inv X pins σ H { s with heap := h' } := I.kept (t' := s.toks) kp
    have I2 : Inv X pins σ (upd H h'.objs.size (.frz { cls := .type "tuple", data := .seq its.toArray } (.tup ys))) { s with heap := h'.push { cls := .type "tuple", data := .seq its.toArray } } :=
      I1.laid (t' := s.toks) (fun b o e => Heap.get?_push_of_some _ e) (Nat.le_refl _) (show ObjOk X.prog X.w _ _ _ (.frz _ (.tup ys)) from ⟨Heap.get?_push_size _ rfl, hz, its, r', IsTup.new _ _⟩)
    exact ⟨.ref h'.objs.size, _, I2, rfl, q _ _ (I1.hok.fresh (Nat.le_refl _)) rfl⟩
  · obtain ⟨its, r', pl, hz⟩ := I.tuple hq
    exact call_tuple_same pl ⟨.ref p, H, I, rfl, q⟩
end
/-! ### lists and tuples as one -/
def SqB (b : Bool) (K : PySem.W.Frag) (H : Hp) (a : Addr) (xs : List V) : Prop := if b = true then SqT K H a xs else SqL K H a xs
def ItB (b : Bool) (h : Heap) (it a : Addr) (i : Nat) : Prop := if b = true then h.IsTupleIter it a i else h.IsListIter it a i
def IsB (b : Bool) (h : Heap) (a : Addr) (its : Array Value) : Prop := if b = true then h.IsTuple a its else h.IsList a its
theorem ItB.obj {b : Bool} {h : Heap} {it a : Addr} {i : Nat} (x : ItB b h it a i) : ∃ o vs, h.get? it = some o ∧ o.data = .fields vs := by
  cases b with
  | true => obtain ⟨o, ho, _, hd⟩ := x; exact ⟨o, _, ho, hd⟩
  | false => obtain ⟨o, ho, _, hd⟩ := x; exact ⟨o, _, ho, hd⟩
theorem ItB.at {b : Bool} {h h' : Heap} {it a : Addr} {i : Nat} (x : ItB b h it a i) (k : ∀ o, h.get? it = some o → h'.get? it = some o) : ItB b h' it a i := by
  cases b with
  | true => exact Heap.IsTupleIter.at (h := h) x k
  | false => exact Heap.IsListIter.at (h := h) x k
section
variable {X : Cx} {pins : List (Addr × Obj)} {σ : L2.St} {H : Hp} {s : Shared}
theorem I_seq {b : Bool} {a : Addr} {xs : List V} (I : Inv X pins σ H s) (h : SqB b X.K H a xs) : ∃ its, Vals xs its ∧ IsB b s.heap a its.toArray ∧ its.length ≤ sizeLine := by
  cases b with
  | true => obtain ⟨its, r, p, z⟩ := I.tuple h; exact ⟨its, r, p, by rw [← r.length]; exact z⟩
  | false => obtain ⟨its, r, p, z⟩ := I.list h; exact ⟨its, r, p.isList, by rw [← r.length]; exact z⟩
theorem seq_inj {b : Bool} {a : Addr} {xs ys : List V} (I : Inv X pins σ H s) (h : SqB b X.K H a xs) (h' : SqB b X.K H a ys) : xs = ys := by
  cases b with
  | true => exact I.tuple_inj h h'
  | false => exact I.list_inj h h'
theorem draws_b {prog : Program} {w : World} {A : Around} (b : Bool) (hh : A.handled = none) (it a : Addr) (hne : a ≠ it) (items : Array Value) :
    Draws prog w A it [it, a] items.size (fun i v => items[i]? = some v) (fun i h => ItB b h it a i ∧ IsB b h a items) := by
  cases b with
  | true => exact Draws.tuple hh it a hne items
  | false => exact Draws.list hh it a hne items
theorem IsB.lt {b : Bool} {h : Heap} {a : Addr} {its : Array Value} (x : IsB b h a its) : a < h.objs.size := by
  cases b with
  | true => obtain ⟨o, e, _⟩ := (show h.IsTuple a its from x); exact Heap.lt_size e
  | false => obtain ⟨o, e, _⟩ := (show h.IsList a its from x); exact Heap.lt_size e
def itO (b : Bool) (a : Addr) : Obj := if b = true then { cls := .type "tuple_iterator", data := .fields #[.ref a, .int 0 0] } else { cls := .type "list_iterator", data := .fields #[.ref a, .int 0 0] }
theorem begins_b (b : Bool) (a : Addr) (items : Array Value) : Begins (.ref a) (itO b a) fun h => IsB b h a items := by
  cases b with
  | true => exact begins_tuple a items
  | false => exact begins_list a items
theorem itB_new {b : Bool} {h : Heap} {it a : Addr} (e : h.get? it = some (itO b a)) : ItB b h it a 0 := by
  cases b with
  | true => exact ⟨_, e, rfl, rfl⟩
  | false => exact ⟨_, e, rfl, rfl⟩
end
/-! ### enumerate -/
theorem meets_enumerate_newB1 {v : Value} {o : Obj} {H : Heap → Prop} (B : Begins v o H) :
    Meets (Builtin.«enumerate.__new__» ⟨[.type "enumerate", v], []⟩) (fun _ R s => H s.heap ∧
      R (.ok (.ret (.ref (s.heap.push o).objs.size))) { s with heap := (s.heap.push o).push { cls := .type "enumerate", data := .fields #[.none, .bool false, .ref s.heap.objs.size, rawInt 0, .none, .none] } }) :=
  .of_wp fun prog w A R s h => by
    obtain ⟨hp, g, d, tk, os⟩ := s; obtain ⟨h1, h⟩ := h
    have hsub := sub_enumerate
    have q1 : ∀ {A' : Around} {E : Value → Shared → Prop} {Q : Value → Shared → Prop}, Q (.ref hp.objs.size) ⟨hp.push o, g, d, tk, os⟩ → wpAny (model prog w) A' (pyIter v) Q E ⟨hp, g, d, tk, os⟩ :=
      fun q => B.iter prog w _ _ ⟨hp, g, d, tk, os⟩ _ h1 q
    wp_walk using q1
    refine wpAny_stack_any fun st => wpAny_pure ?_
    split
    · rename_i c _ _ _ _ _
      cases (c == Value.type "enumerate")
      · wp_walk using q1
        exact ⟨_, rfl, h⟩
      · wp_walk using q1
        exact ⟨_, rfl, h⟩
    · wp_walk using q1
      exact ⟨_, rfl, h⟩
section
variable {prog : Program} {w : World} {A : Around} {E : Value → Shared → Prop} {s : Shared}
theorem enum_begins1 {v : Value} {o : Obj} {H : Heap → Prop} {Q : Value → Shared → Prop} (B : Begins v o H) (h1 : H s.heap)
    (h : ∀ h', IsEnum h' (s.heap.objs.size + 1) s.heap.objs.size 0 .none → h'.get? s.heap.objs.size = some o → h'.objs.size = s.heap.objs.size + 2 →
      (∀ b o, s.heap.get? b = some o → h'.get? b = some o) → Q (.ref (s.heap.objs.size + 1)) { s with heap := h' }) :
    wpAny (model prog w) A (call (.type "enumerate") [v]) Q E s := by
  refine callType_new F.called_enumerate (by decide) (F.typeCall_enumerate_1 _) (F.newCall_enumerate_1 _) (fun obj => F.args_object_init_2 obj _) F.entry_enumerate_new
    (meets_enumerate_newB1 B) ⟨h1, ?_⟩
  have hz : (s.heap.push o).objs.size = s.heap.objs.size + 1 := Heap.size_push ..
  show _ ∧ _
  rw [hz]
  have he : IsEnum ((s.heap.push o).push { cls := .type "enumerate", data := .fields #[.none, .bool false, .ref s.heap.objs.size, rawInt 0, .none, .none] }) (s.heap.objs.size + 1) s.heap.objs.size 0 .none := by
    have := Heap.get?_push_size (s.heap.push o) (o := { cls := .type "enumerate", data := .fields #[.none, .bool false, .ref s.heap.objs.size, rawInt 0, .none, .none] }) rfl
    rw [hz] at this; exact this
  refine ⟨⟨_, he, rfl⟩, h _ he (Heap.get?_push_of_some _ (Heap.get?_push_size _ B.free)) (by rw [Heap.size_push, hz]) fun b o x => Heap.get?_push_of_some _ (Heap.get?_push_of_some _ x)⟩
end
/-- k, k + 1, .. with the items of the list or tuple at a, in new pairs -/
def IteB (b : Bool) (K : PySem.W.Frag) (a : Addr) (k : Int) : It :=
  ⟨fun i H => ∃ (xs : List V) (x : V), SqB b K H a xs ∧ xs[i]? = some x, fun i H v H' => ∃ T x ob, v = .ref T ∧ H T = none ∧ ob.dict = none ∧ H' = upd H T (.frz ob (.tup [.int (k + (i : Nat)), x])) ∧ ∀ xs, SqB b K H a xs → xs[i]? = some x, fun i H => ∃ xs : List V, SqB b K H a xs ∧ xs.length = i⟩
theorem turn_enumB {P : Program} {w : World} {K : PySem.W.Frag} {elts : List Expr} {kk : Nat} {tpos : Pos} (b : Bool) (k : Int) (a e it : Addr) (hae : e ≠ a) (hai : a ≠ it) :
    Turn P w K (.Tuple elts kk tpos) (IteB b K a k) [e, it] e (fun i h => (∃ old, IsEnum h e it (k + ((i : Nat) : Int)) old) ∧ ItB b h it a i ∧ e ≠ it) where
  mem := by simp
  obj := fun i h st c hc => by
    obtain ⟨⟨old, he⟩, hi, _⟩ := st
    obtain ⟨o, vs, ho, hd⟩ := hi.obj
    have e' : c = e ∨ c = it := by simpa using hc
    rcases e' with z | z
    · rw [z]; exact ⟨_, he, fun v q => nomatch q⟩
    · rw [z]; exact ⟨o, ho, fun v q => by rw [hd] at q; cases q⟩
  keep := fun i h h' st k => let ⟨⟨old, he⟩, hi, hne⟩ := st; ⟨⟨old, k e (by simp) _ he⟩, hi.at fun o q => k it (by simp) o q, hne⟩
  item := by
    intro X hP hw hK hc i pins s σ H E I hf st hg
    subst hP hw hK
    obtain ⟨⟨old, he⟩, hit, hne⟩ := st
    obtain ⟨xs, x, hq, hx⟩ := hg
    obtain ⟨its, rv, p, hz⟩ := I_seq I hq
    obtain ⟨u, hu, ru⟩ := rv.get hx
    have hel : e < s.heap.objs.size := Heap.lt_size he
    have hil : it < s.heap.objs.size := by obtain ⟨o, vs, q, _⟩ := hit.obj; exact Heap.lt_size q
    have hh : X.A.in1.handled = none := I.ok.hd hc
    have hlt : i < its.toArray.size := by
      have := (List.getElem?_eq_some_iff.mp hx).1
      rw [List.size_toArray, ← rv.length]; exact this
    refine wpAny_pyNext_enum_itemC (i := i) (draws_b b hh it a hai its.toArray) he ⟨hit, p⟩ hlt hne (by simp [hne, hae]) fun x' h' tk hP ho hst' hT hsz hk => ?_
    have ex : x' = u := by
      have e1 : its.toArray[i]? = some u := by simpa using hu
      have e2 : its.toArray[i]? = some x' := hP
      rw [e1] at e2; exact (Option.some.inj e2).symm
    subst ex
    refine ⟨_, rfl, wpAny_letOwnedTupleGo_enum (s := { s with heap := h', toks := tk + 1 }) ho fun h'' he' sb => ?_⟩
    have hT2 : h''.get? s.heap.objs.size = some { cls := .type "tuple", data := .seq #[.int (k + i) tk, x'] } := (sb.2 _ (Nat.ne_of_gt hel)).trans hT
    have new : ObjOk X.prog X.w (upd H s.heap.objs.size (.frz { cls := .type "tuple", data := .seq #[.int (k + i) tk, x'] } (.tup [.int (k + (i : Nat)), x]))) h'' s.heap.objs.size (.frz { cls := .type "tuple", data := .seq #[.int (k + i) tk, x'] } (.tup [.int (k + (i : Nat)), x])) :=
      ⟨hT2, by show 2 ≤ sizeLine; decide, [.int (k + i) tk, x'], .cons ⟨_, rfl⟩ (.cons ru .nil), ⟨_, hT2, rfl, _, rfl⟩⟩
    have I1 := I.turnedNew (t' := tk + 1) (ch := [e, it]) (fun b ob hb q => (sb.2 b (fun z => hb (by simp [z]))).trans (hk b ob (fun z => hb (by simp [z])) (fun z => hb (by simp [z])) q)) hf (Nat.le_refl _) new
    refine ⟨.ref s.heap.objs.size, _, I1, rfl, ⟨_, x, _, rfl, I.hok.fresh (Nat.le_refl _), rfl, rfl, fun ys hy => by rw [seq_inj I hy hq]; exact hx⟩, ⟨⟨x', ?_⟩, hst'.1.at fun o q => (sb.2 it (Ne.symm hne)).trans q, hne⟩, fun b hb => ?_⟩
    · have e1 : k + ((i + 1 : Nat) : Int) = k + (i : Int) + 1 := by omega
      rw [e1]; exact he'
    · have hb' : b < s.heap.objs.size := by
        have e' : b = e ∨ b = it := by simpa using hb
        rcases e' with z | z
        · rw [z]; exact hel
        · rw [z]; exact hil
      rw [upd_ne (Nat.ne_of_lt hb')]
      exact (hf b hb).1
  done := by
    intro X hP hw hK hc i pins s σ H E I hf st hg
    subst hP hw hK
    obtain ⟨⟨old, he⟩, hit, hne⟩ := st
    obtain ⟨xs, hq, hx⟩ := hg
    obtain ⟨its, rv, p, hz⟩ := I_seq I hq
    obtain ⟨f0, f1, f2, f3, f4, f5⟩ := hf it (by simp)
    have hl := rv.length
    have hh : X.A.in1.handled = none := I.ok.hd hc
    have hi : i = its.toArray.size := by rw [List.size_toArray, ← hl, hx]
    subst hi
    exact wpAny_pyNext_enum_endD (draws_b b hh it a hai its.toArray) he ⟨hit, p⟩ fun h' eb => ⟨rfl, I.turned (t' := s.toks) (fun b o hb q => eb b o hb q) f0 f1 f3 f4 f5⟩
  self := fun A i s Q E st h => let ⟨⟨_, he⟩, _⟩ := st; wpAny_pyIter_enum he h
def iEnumB (b : Bool) (K : PySem.W.Frag) (ta : TA) : TI := fun σ H R => ta σ H fun vs H1 => ∃ a xs, vs = [.ref a] ∧ SqB b K H1 a xs ∧ R (IteB b K a 0) H1
theorem pi_enumB {X : Cx} (b : Bool) {e : Expr} {ta : TA} {p pos tpos : Pos} {elts : List Expr} {kk : Nat} (hg : Gl X "enumerate") (hm : X.mg "enumerate" = none) (ha : PA X [e] ta) (hs : starEach [e] X.env = [(false, eval e X.env)] := by rfl) :
    PI X (.Tuple elts kk tpos) (.Call (.Name "enumerate" p) [e] [] pos) (iEnumB b X.K ta) := by
  refine ⟨fun pins s σ H R I h => ?_⟩
  refine Call_ (ld_blt I hg hm boot_enumerate (PyProof.Rows.callWith_type1 (thn (ha.run pos pins s σ H _ I h) fun us s1 ⟨vs, H1, I1, r1, q1⟩ => ?_) hs rfl))
  obtain ⟨a, xs, ex, hq, q⟩ := q1
  subst ex
  cases r1 with
  | cons r rr =>
    cases rr
    cases r
    obtain ⟨its, rv, p', hz⟩ := I_seq I1 hq
    have hal : a < s1.heap.objs.size := p'.lt
    refine enum_begins1 (begins_b b a its.toArray) p' fun h' he hit hsz hk => wpAny_pyIter_enum he ?_
    have I2 : Inv X pins σ H1 { s1 with heap := h' } := I1.kept (t' := s1.toks) hk
    refine ⟨s1.heap.objs.size + 1, [s1.heap.objs.size + 1, s1.heap.objs.size], _, _, H1, rfl, I2, turn_enumB b 0 a (s1.heap.objs.size + 1) s1.heap.objs.size (Ne.symm (Nat.ne_of_lt (Nat.lt_succ_of_lt hal))) (Nat.ne_of_lt hal), ⟨⟨.none, he⟩, itB_new hit, Nat.succ_ne_self _⟩, fun b hb => ?_, q⟩
    have e' : b = s1.heap.objs.size + 1 ∨ b = s1.heap.objs.size := by simpa using hb
    have hle : s1.heap.objs.size ≤ b := by
      rcases e' with z | z
      · rw [z]; exact Nat.le_add_right _ _
      · rw [z]; exact Nat.le_refl _
    exact I1.fpOk hle (I1.hok.fresh hle)
/-! ### zip -/
def ItzB (b1 b2 : Bool) (K : PySem.W.Frag) (a c : Addr) : It :=
  ⟨fun i H => ∃ (xs ys : List V) (x y : V), SqB b1 K H a xs ∧ SqB b2 K H c ys ∧ xs[i]? = some x ∧ ys[i]? = some y,
    fun i H v H' => ∃ T x y ob, v = .ref T ∧ H T = none ∧ ob.dict = none ∧ H' = upd H T (.frz ob (.tup [x, y])) ∧ (∀ xs, SqB b1 K H a xs → xs[i]? = some x) ∧ ∀ ys, SqB b2 K H c ys → ys[i]? = some y,
    fun i H => ∃ xs ys : List V, SqB b1 K H a xs ∧ SqB b2 K H c ys ∧ i ≤ xs.length ∧ i ≤ ys.length ∧ (i = xs.length ∨ i = ys.length)⟩
theorem turn_zipB {P : Program} {w : World} {K : PySem.W.Frag} {elts : List Expr} {kk : Nat} {tpos : Pos} (b1 b2 : Bool) {a c z TI TO i1 i2 : Addr} (S : ZipSep2 z TI TO i1 i2 [i1, a] [i2, c]) (ha : a ≠ i1) (hc2 : c ≠ i2) :
    Turn P w K (.Tuple elts kk tpos) (ItzB b1 b2 K a c) [z, TI, TO, i1, i2] z (fun i h => IsZip h z TI TO .none ∧ IsTupOf2 h TI (.ref i1) (.ref i2) ∧ (∃ x y, IsTupOf2 h TO x y) ∧ ItB b1 h i1 a i ∧ ItB b2 h i2 c i) where
  mem := by simp
  obj := fun i h st b hb => by
    obtain ⟨hz, hTI, ⟨x, y, hTO⟩, h1, h2⟩ := st
    obtain ⟨o1, v1, e1, d1⟩ := h1.obj
    obtain ⟨o2, v2, e2, d2⟩ := h2.obj
    have e' : b = z ∨ b = TI ∨ b = TO ∨ b = i1 ∨ b = i2 := by simpa using hb
    rcases e' with q | q | q | q | q
    · rw [q]; exact ⟨_, hz, fun v q => nomatch q⟩
    · rw [q]; exact ⟨_, hTI, fun v q => nomatch q⟩
    · rw [q]; exact ⟨_, hTO, fun v q => nomatch q⟩
    · rw [q]; exact ⟨o1, e1, fun v q => by rw [d1] at q; cases q⟩
    · rw [q]; exact ⟨o2, e2, fun v q => by rw [d2] at q; cases q⟩
  keep := fun i h h' st k => by
    obtain ⟨hz, hTI, ⟨x, y, hTO⟩, h1, h2⟩ := st
    exact ⟨k z (by simp) _ hz, k TI (by simp) _ hTI, ⟨x, y, k TO (by simp) _ hTO⟩, h1.at fun o q => k i1 (by simp) o q, h2.at fun o q => k i2 (by simp) o q⟩
  item := by
    intro X hP hw hK hc i pins s σ H E I hf st hg
    subst hP hw hK
    obtain ⟨hz, hTI, ⟨x0, y0, hTO⟩, h1, h2⟩ := st
    obtain ⟨xs, ys, x, y, hqx, hqy, hx, hy⟩ := hg
    obtain ⟨its, rv, p, _⟩ := I_seq I hqx
    obtain ⟨its2, rv2, p2, _⟩ := I_seq I hqy
    obtain ⟨u, hu, ru⟩ := rv.get hx
    obtain ⟨u2, hu2, ru2⟩ := rv2.get hy
    have hzl : z < s.heap.objs.size := Heap.lt_size hz
    have hh : X.A.in1.handled = none := I.ok.hd hc
    have hlt1 : i < its.toArray.size := by
      have := (List.getElem?_eq_some_iff.mp hx).1
      rw [List.size_toArray, ← rv.length]; exact this
    have hlt2 : i < its2.toArray.size := by
      have := (List.getElem?_eq_some_iff.mp hy).1
      rw [List.size_toArray, ← rv2.length]; exact this
    refine wpAny_pyNext_zipD2_item (i := i) S (draws_b b1 hh i1 a ha its.toArray) (draws_b b2 hh i2 c hc2 its2.toArray) hz hTI hTO ⟨h1, p⟩ ⟨h2, p2⟩ hlt1 hlt2 fun x1 x2 h' tk hP1 hP2 z' TO' s1' s2' hT hsz hk => ?_
    have ex : x1 = u := by
      have e1 : its.toArray[i]? = some u := by simpa using hu
      have e2 : its.toArray[i]? = some x1 := hP1
      rw [e1] at e2; exact (Option.some.inj e2).symm
    have ey : x2 = u2 := by
      have e1 : its2.toArray[i]? = some u2 := by simpa using hu2
      have e2 : its2.toArray[i]? = some x2 := hP2
      rw [e1] at e2; exact (Option.some.inj e2).symm
    subst ex ey
    refine ⟨_, rfl, wpAny_letOwnedTupleGo_zip (s := { s with heap := h', toks := tk }) z' fun h'' z'' sb => ?_⟩
    have hT2 : h''.get? s.heap.objs.size = some { cls := .type "tuple", data := .seq #[x1, x2] } := (sb.2 _ (Nat.ne_of_gt hzl)).trans hT
    have new : ObjOk X.prog X.w (upd H s.heap.objs.size (.frz { cls := .type "tuple", data := .seq #[x1, x2] } (.tup [x, y]))) h'' s.heap.objs.size (.frz { cls := .type "tuple", data := .seq #[x1, x2] } (.tup [x, y])) :=
      ⟨hT2, by show 2 ≤ sizeLine; decide, [x1, x2], .cons ru (.cons ru2 .nil), ⟨_, hT2, rfl, _, rfl⟩⟩
    have I1 := I.turnedNew (t' := tk) (ch := [z, TI, TO, i1, i2]) (fun b o hb q => (sb.2 b (fun q' => hb (by simp [q']))).trans (hk b o (fun q' => hb (by simp [q'])) (fun q' => hb (by simp [q'])) (fun q' => hb (by simp [q'])) (fun q' => hb (by simp [q'])) q)) hf (Nat.le_refl _) new
    refine ⟨.ref s.heap.objs.size, _, I1, rfl, ⟨_, x, y, _, rfl, I.hok.fresh (Nat.le_refl _), rfl, rfl, fun l hl => by rw [seq_inj I hl hqx]; exact hx, fun l hl => by rw [seq_inj I hl hqy]; exact hy⟩, ⟨z'', ?_, ⟨x1, x2, ?_⟩, ?_, ?_⟩, fun b hbm => ?_⟩
    · exact (sb.2 _ S.TIz).trans (hk _ _ S.TIz S.TITO S.TIi1 S.TIi2 hTI)
    · exact (sb.2 _ S.TOz).trans TO'
    · exact s1'.1.at fun o q => (sb.2 _ (Ne.symm S.zi1)).trans q
    · exact s2'.1.at fun o q => (sb.2 _ (Ne.symm S.zi2)).trans q
    · have hlt : b < s.heap.objs.size := by
        have e' : b = z ∨ b = TI ∨ b = TO ∨ b = i1 ∨ b = i2 := by simpa using hbm
        rcases e' with q | q | q | q | q
        · rw [q]; exact hzl
        · rw [q]; exact Heap.lt_size hTI
        · rw [q]; exact Heap.lt_size hTO
        · rw [q]; obtain ⟨_, _, e1, _⟩ := h1.obj; exact Heap.lt_size e1
        · rw [q]; obtain ⟨_, _, e2, _⟩ := h2.obj; exact Heap.lt_size e2
      rw [upd_ne (Nat.ne_of_lt hlt)]
      exact (hf b hbm).1
  done := by
    intro X hP hw hK hc i pins s σ H E I hf st hg
    subst hP hw hK
    obtain ⟨hz, hTI, ⟨x0, y0, hTO⟩, h1, h2⟩ := st
    obtain ⟨xs, ys, hqx, hqy, l1, l2, hend⟩ := hg
    obtain ⟨its, rv, p, _⟩ := I_seq I hqx
    obtain ⟨its2, rv2, p2, _⟩ := I_seq I hqy
    have hh : X.A.in1.handled = none := I.ok.hd hc
    have e1 : its.toArray.size = xs.length := by rw [List.size_toArray, ← rv.length]
    have e2 : its2.toArray.size = ys.length := by rw [List.size_toArray, ← rv2.length]
    exact wpAny_pyNext_zipD2_end (i := i) S (draws_b b1 hh i1 a ha its.toArray) (draws_b b2 hh i2 c hc2 its2.toArray) hz hTI hTO ⟨h1, p⟩ ⟨h2, p2⟩ (by rw [e1]; exact l1) (by rw [e2]; exact l2) (by rw [e1, e2]; exact hend) fun h' tk hk => ⟨rfl, I.turnedL (t' := tk) (ch := [z, TI, TO, i1, i2]) (fun b o hb q =>
      hk b o (fun q' => hb (by simp [q'])) (fun q' => hb (by simp [q'])) (fun q' => hb (by simp [q'])) (fun q' => hb (by simp [q'])) q) hf⟩
  self := fun A i s Q E st h => wpAny_pyIter_zip st.1 h
theorem nm2 {x p q : Addr} (h1 : x ≠ p) (h2 : x ≠ q) : x ∉ [p, q] := fun h => by
  rcases List.mem_cons.mp h with e | h
  · exact h1 e
  · exact h2 (List.mem_singleton.mp h)
theorem zsep (n a b : Nat) (ha : a < n) (hb : b < n) : ZipSep2 (n + 4) (n + 2) (n + 3) n (n + 1) [n, a] [n + 1, b] where
  TIz := Nat.ne_of_lt (by omega)
  TOz := Nat.ne_of_lt (by omega)
  TITO := Nat.ne_of_lt (by omega)
  TIi1 := Nat.ne_of_gt (by omega)
  mem1 := by simp
  zf1 := nm2 (Nat.ne_of_gt (by omega)) (Nat.ne_of_gt (by omega))
  Tf1 := nm2 (Nat.ne_of_gt (by omega)) (Nat.ne_of_gt (by omega))
  TIi2 := Nat.ne_of_gt (by omega)
  mem2 := by simp
  zf2 := nm2 (Nat.ne_of_gt (by omega)) (Nat.ne_of_gt (by omega))
  Tf2 := nm2 (Nat.ne_of_gt (by omega)) (Nat.ne_of_gt (by omega))
  sep1_2 := nm2 (Nat.ne_of_lt (by omega)) (Nat.ne_of_gt (by omega))
  sep2_1 := nm2 (Nat.ne_of_gt (by omega)) (Nat.ne_of_gt (by omega))
def iZipB (b1 b2 : Bool) (K : PySem.W.Frag) (ta : TA) : TI := fun σ H R => ta σ H fun vs H1 => ∃ a b xs ys, vs = [.ref a, .ref b] ∧ SqB b1 K H1 a xs ∧ SqB b2 K H1 b ys ∧ R (ItzB b1 b2 K a b) H1
theorem pi_zipB {X : Cx} (b1 b2 : Bool) {e e2 : Expr} {ta : TA} {p pos tpos : Pos} {elts : List Expr} {kk : Nat} (hg : Gl X "zip") (hm : X.mg "zip" = none) (ha : PA X [e, e2] ta)
    (hs : starEach [e, e2] X.env = (false, eval e X.env) :: starEach [e2] X.env := by rfl) (hpl : (backTo pos (starEach [e2] X.env)).any (·.1) = false := by rfl) :
    PI X (.Tuple elts kk tpos) (.Call (.Name "zip" p) [e, e2] [] pos) (iZipB b1 b2 X.K ta) := by
  refine ⟨fun pins s σ H R I h => ?_⟩
  refine Call_ (ld_blt I hg hm PyProof.Rows.boot_zip (PyProof.Rows.callWith_type1 (thn (ha.run pos pins s σ H _ I h) fun us s1 ⟨vs, H1, I1, r1, q1⟩ => ?_) hs hpl))
  obtain ⟨a, b, xs, ys, ex, hqx, hqy, q⟩ := q1
  subst ex
  cases r1 with
  | cons r rr =>
    cases rr with
    | cons r' rr =>
      cases rr
      cases r
      cases r'
      have fresh5 : ∀ c, c ∈ [s1.heap.objs.size + 4, s1.heap.objs.size + 2, s1.heap.objs.size + 3, s1.heap.objs.size, s1.heap.objs.size + 1] → FpOk X pins H1 c := fun c hcm => by
        have e' : c = s1.heap.objs.size + 4 ∨ c = s1.heap.objs.size + 2 ∨ c = s1.heap.objs.size + 3 ∨ c = s1.heap.objs.size ∨ c = s1.heap.objs.size + 1 := by simpa using hcm
        have hle : s1.heap.objs.size ≤ c := by
          rcases e' with z | z | z | z | z
          · rw [z]; exact Nat.le_add_right _ _
          · rw [z]; exact Nat.le_add_right _ _
          · rw [z]; exact Nat.le_add_right _ _
          · rw [z]; exact Nat.le_refl _
          · rw [z]; exact Nat.le_add_right _ _
        exact I1.fpOk hle (I1.hok.fresh hle)
      obtain ⟨its, rv, p1, _⟩ := I_seq I1 hqx
      obtain ⟨its2, rv2, p2, _⟩ := I_seq I1 hqy
      have hal : a < s1.heap.objs.size := p1.lt
      have hbl : b < s1.heap.objs.size := p2.lt
      refine zip_begins2 (begins_b b1 a its.toArray) (begins_b b2 b its2.toArray) p1 p2 fun h' hz hTI hTO h1 h2 hsz hk => wpAny_pyIter_zip hz ?_
      have I2 : Inv X pins σ H1 { s1 with heap := h' } := I1.kept (t' := s1.toks) hk
      have S := zsep s1.heap.objs.size a b hal hbl
      exact ⟨s1.heap.objs.size + 4, [s1.heap.objs.size + 4, s1.heap.objs.size + 2, s1.heap.objs.size + 3, s1.heap.objs.size, s1.heap.objs.size + 1], _, _, H1, rfl, I2, turn_zipB b1 b2 S (Nat.ne_of_lt hal) (Nat.ne_of_lt (Nat.lt_succ_of_lt hbl)), ⟨hz, hTI, ⟨_, _, hTO⟩, itB_new h1, itB_new h2⟩, fresh5, q⟩
end VL

set_option Elab.async false
set_option linter.all false
set_option maxRecDepth 100000
set_option maxHeartbeats 4000000
/-! VL1: data by value, how the abstract heap bears it, views of the heap. -/
namespace VL
open PySem PySem.Spec PyProof.Rows L2

/-- Python data by value; hand: the one list that is shared and changed; fn: a def of the module by its name -/
inductive D where
  | non | bl (b : Bool) | int (i : Int) | str (s : Str)
  | lst (xs : List D) | tup (xs : List D)
  | dK (kvs : List (Key × D)) | dT (kvs : List (List Key × D))
  | hand | fn (x : Str) | scr (xs : List D)
  deriving Inhabited

/-- the module's constants; whether tuples of it are read -/
abbrev RK := PySem.W.Frag × Bool
/-- a tuple that stands in the heap, or (where that is told) one of the module's constants -/
def TupAt (K : RK) (H : Hp) (a : Addr) (vs : List V) : Prop := (∃ ob, H a = some (.frz ob (.tup vs)) ∧ ob.dict = none) ∨ (K.2 = true ∧ SqT K.1 H a vs)
/-- of a program: the tables of code objects; whether the module holds tuples that are read -/
structure PP where
  tabs : List (Addr × Str)
  kc : Bool
def kfK (T : PP) (K : PySem.W.Frag) : RK := (K, T.kc)
abbrev kf (T : PP) (X : Cx) : RK := kfK T X.K

mutual
inductive Rep (K : RK) (mg : Str → Option Value) (ah : Option (Addr × Addr)) (H : Hp) : V → D → Prop
  | non : Rep K mg ah H .non .non
  | bl (b : Bool) : Rep K mg ah H (.bl b) (.bl b)
  | int (i : Int) : Rep K mg ah H (.int i) (.int i)
  | str (x : Str) : Rep K mg ah H (.str x) (.str x)
  | lst {a : Addr} {vs : List V} {ds : List D} : H a = some (.lst vs) → RepAll K mg ah H vs ds → Rep K mg ah H (.ref a) (.lst ds)
  | tup {a : Addr} {vs : List V} {ds : List D} : TupAt K H a vs → RepAll K mg ah H vs ds → Rep K mg ah H (.ref a) (.tup ds)
  | dK {a : Addr} {ks : List Key} {vs : List V} {ds : List D} : Rd H a (.dK (ks.zip vs)) → ks.length = vs.length → RepAll K mg ah H vs ds → Rep K mg ah H (.ref a) (.dK (ks.zip ds))
  | hand {a c : Addr} : ah = some (a, c) → Rep K mg ah H (.ref a) .hand
  | fn {f : Addr} {x : Str} : mg x = some (.ref f) → Rep K mg ah H (.ref f) (.fn x)
  | scr {a : Addr} {vs : List V} {ds : List D} : SqL K.1 H a vs → RepAll K mg ah H vs ds → Rep K mg ah H (.ref a) (.scr ds)
inductive RepAll (K : RK) (mg : Str → Option Value) (ah : Option (Addr × Addr)) (H : Hp) : List V → List D → Prop
  | nil : RepAll K mg ah H [] []
  | cons {v : V} {vs : List V} {d : D} {ds : List D} : Rep K mg ah H v d → RepAll K mg ah H vs ds → RepAll K mg ah H (v :: vs) (d :: ds)
end

section
variable {K : RK} {mg : Str → Option Value} {ah : Option (Addr × Addr)} {H H' : Hp}
theorem RepAll.length : ∀ {vs : List V} {ds : List D}, RepAll K mg ah H vs ds → vs.length = ds.length
  | [], [], _ => rfl
  | _ :: vs, _ :: ds, h => by
    cases h with
    | cons _ t => simp [RepAll.length t]
theorem RepAll.get : ∀ {vs : List V} {ds : List D} {i : Nat} {d : D}, RepAll K mg ah H vs ds → ds[i]? = some d → ∃ v, vs[i]? = some v ∧ Rep K mg ah H v d
  | [], [], i, d, _, e => by simp at e
  | v :: vs, d' :: ds, 0, d, h, e => by
    cases h with
    | cons r t =>
      simp at e; subst e
      exact ⟨v, rfl, r⟩
  | v :: vs, d' :: ds, i + 1, d, h, e => by
    cases h with
    | cons r t =>
      obtain ⟨v', e1, r1⟩ := RepAll.get (i := i) t (by simpa using e)
      exact ⟨v', by simpa using e1, r1⟩
theorem RepAll.getV : ∀ {vs : List V} {ds : List D} {i : Nat} {v : V}, RepAll K mg ah H vs ds → vs[i]? = some v → ∃ d, ds[i]? = some d ∧ Rep K mg ah H v d
  | [], [], i, d, _, e => by simp at e
  | v' :: vs, d :: ds, 0, v, h, e => by
    cases h with
    | cons r t =>
      simp at e; subst e
      exact ⟨d, rfl, r⟩
  | v' :: vs, d :: ds, i + 1, v, h, e => by
    cases h with
    | cons r t =>
      obtain ⟨d', e1, r1⟩ := RepAll.getV (i := i) t (by simpa using e)
      exact ⟨d', by simpa using e1, r1⟩
theorem RepAll.append : ∀ {vs us : List V} {ds es : List D}, RepAll K mg ah H vs ds → RepAll K mg ah H us es → RepAll K mg ah H (vs ++ us) (ds ++ es)
  | [], us, [], es, _, h => h
  | _ :: vs, us, _ :: ds, es, h, h' => by
    cases h with
    | cons r t => exact .cons r (RepAll.append t h')
theorem RepAll.one {v : V} {d : D} (r : Rep K mg ah H v d) : RepAll K mg ah H [v] [d] := .cons r .nil
theorem RepAll.take : ∀ {vs : List V} {ds : List D} (n : Nat), RepAll K mg ah H vs ds → RepAll K mg ah H (vs.take n) (ds.take n)
  | _, _, 0, _ => .nil
  | [], [], _ + 1, _ => .nil
  | _ :: _, _ :: _, n + 1, h => by
    cases h with
    | cons r t => exact .cons r (RepAll.take n t)
theorem RepAll.drop : ∀ {vs : List V} {ds : List D} (n : Nat), RepAll K mg ah H vs ds → RepAll K mg ah H (vs.drop n) (ds.drop n)
  | _, _, 0, h => h
  | [], [], _ + 1, _ => .nil
  | _ :: _, _ :: _, n + 1, h => by
    cases h with
    | cons r t => exact RepAll.drop n t
theorem RepAll.set : ∀ {vs : List V} {ds : List D} {v : V} {d : D} (n : Nat), Rep K mg ah H v d → RepAll K mg ah H vs ds → RepAll K mg ah H (vs.set n v) (ds.set n d)
  | [], [], _, _, _, _, _ => .nil
  | _ :: _, _ :: _, _, _, 0, r, h => by
    cases h with
    | cons _ t => exact .cons r t
  | _ :: _, _ :: _, _, _, n + 1, r, h => by
    cases h with
    | cons r' t => exact .cons r' (RepAll.set n r t)
theorem RepAll.reverse {vs : List V} {ds : List D} (h : RepAll K mg ah H vs ds) : RepAll K mg ah H vs.reverse ds.reverse := by
  have aux : ∀ {vs : List V} {ds : List D} {us : List V} {es : List D}, RepAll K mg ah H vs ds → RepAll K mg ah H us es → RepAll K mg ah H (vs.reverseAux us) (ds.reverseAux es) := by
    intro vs
    induction vs with
    | nil => intro ds us es h h'; cases h; exact h'
    | cons v vs ih =>
      intro ds us es h h'
      cases h with
      | cons r t => exact ih (us := v :: us) (es := _ :: es) t (RepAll.cons r h')
  exact aux h .nil

/-- what the representation leans on -/
def Keeps (H H' : Hp) : Prop := ∀ b o, H b = some o → (∀ ps, o ≠ .tbl ps) → H' b = some o
theorem Rd.keeps {a : Addr} {u : HO} (k : Keeps H H') (h : Rd H a u) (n : ∀ ps, u ≠ .tbl ps) : Rd H' a u := by
  rcases h with h | ⟨o, h⟩
  · exact .inl (k _ _ h n)
  · exact .inr ⟨o, k _ _ h (fun ps z => by cases z)⟩
theorem SqT.keeps {K : PySem.W.Frag} {a : Addr} {vs : List V} (k : Keeps H H') (h : SqT K H a vs) : SqT K H' a vs := by
  rcases h with (h | ⟨o, h⟩) | h
  · exact .inl (.inl (k _ _ h (fun ps z => by cases z)))
  · exact .inl (.inr ⟨o, k _ _ h (fun ps z => by cases z)⟩)
  · exact .inr h
theorem SqL.keeps {K : PySem.W.Frag} {a : Addr} {vs : List V} (k : Keeps H H') (h : SqL K H a vs) : SqL K H' a vs := by
  rcases h with (h | ⟨o, h⟩) | h
  · exact .inl (.inl (k _ _ h (fun ps z => by cases z)))
  · exact .inl (.inr ⟨o, k _ _ h (fun ps z => by cases z)⟩)
  · exact .inr h
theorem TupAt.keeps {a : Addr} {vs : List V} (k : Keeps H H') (h : TupAt K H a vs) : TupAt K H' a vs := by
  rcases h with ⟨ob, h, d⟩ | ⟨e, h⟩
  · exact .inl ⟨ob, k _ _ h (fun ps z => by cases z), d⟩
  · exact .inr ⟨e, SqT.keeps k h⟩
theorem TupAt.sq {T : PP} {X : Cx} {a : Addr} {vs : List V} (h : TupAt (kf T X) H a vs) : SqT X.K H a vs := by
  rcases h with ⟨ob, h, d⟩ | ⟨e, h⟩
  · exact .inl (.inr ⟨ob, h⟩)
  · exact h
theorem TupAt.at {T : PP} {X : Cx} {a : Addr} {vs : List V} (hk : T.kc = false) (h : TupAt (kf T X) H a vs) : ∃ ob, H a = some (.frz ob (.tup vs)) ∧ ob.dict = none := by
  rcases h with h | ⟨e, h⟩
  · exact h
  · have e' : T.kc = true := e
    rw [hk] at e'
    cases e'
mutual
theorem Rep.keeps (k : Keeps H H') : ∀ {v : V} {d : D}, Rep K mg ah H v d → Rep K mg ah H' v d
  | _, _, .non => .non
  | _, _, .bl b => .bl b
  | _, _, .int i => .int i
  | _, _, .str x => .str x
  | _, _, .lst h1 h2 => .lst (k _ _ h1 (fun ps z => by cases z)) (RepAll.keeps k h2)
  | _, _, .tup h1 h2 => .tup (TupAt.keeps k h1) (RepAll.keeps k h2)
  | _, _, .dK h1 h2 h3 => .dK (Rd.keeps k h1 (fun ps z => by cases z)) h2 (RepAll.keeps k h3)
  | _, _, .hand e => .hand e
  | _, _, .fn e => .fn e
  | _, _, .scr h1 h2 => .scr (SqL.keeps k h1) (RepAll.keeps k h2)
theorem RepAll.keeps (k : Keeps H H') : ∀ {vs : List V} {ds : List D}, RepAll K mg ah H vs ds → RepAll K mg ah H' vs ds
  | _, _, .nil => .nil
  | _, _, .cons r t => .cons (Rep.keeps k r) (RepAll.keeps k t)
end
end

/-! ### views of the heap -/
open Classical in
noncomputable def hide (H : Hp) (L : Addr → Prop) : Hp := fun b => if L b then none else H b
theorem hide_in {H : Hp} {L : Addr → Prop} {b : Addr} (h : L b) : hide H L b = none := by unfold hide; rw [if_pos h]
theorem hide_out {H : Hp} {L : Addr → Prop} {b : Addr} (h : ¬ L b) : hide H L b = H b := by unfold hide; rw [if_neg h]
theorem of_hide {H : Hp} {L : Addr → Prop} {b : Addr} {o : HO} (h : hide H L b = some o) : ¬ L b ∧ H b = some o := by
  by_cases q : L b
  · rw [hide_in q] at h; cases h
  · rw [hide_out q] at h; exact ⟨q, h⟩
theorem rd_hide {H : Hp} {L : Addr → Prop} {b : Addr} {o : HO} (h : Rd (hide H L) b o) : ¬ L b ∧ Rd H b o := by
  rcases h with h | ⟨ob, h⟩
  · exact ⟨(of_hide h).1, .inl (of_hide h).2⟩
  · exact ⟨(of_hide h).1, .inr ⟨ob, (of_hide h).2⟩⟩
/-- what a hidden object is -/
def mutO : HO → Prop
  | .lst _ => True
  | .dK _ => True
  | .dT _ => True
  | _ => False
def LOk (H : Hp) (L : Addr → Prop) : Prop := ∀ a, L a → ∃ o, H a = some o ∧ mutO o
/-- all but the hand and the tables of code objects stands -/
structure Ext (ah : Option (Addr × Addr)) (H H' : Hp) : Prop where
  keep : ∀ b o, H b = some o → (∀ c, ah ≠ some (b, c)) → (∀ ps, o ≠ .tbl ps) → H' b = some o
  dom : ∀ b, H' b = none → H b = none
theorem Ext.refl {ah : Option (Addr × Addr)} {H : Hp} : Ext ah H H := ⟨fun _ _ e _ _ => e, fun _ e => e⟩
theorem Ext.trans {ah : Option (Addr × Addr)} {H H1 H2 : Hp} (a : Ext ah H H1) (b : Ext ah H1 H2) : Ext ah H H2 := ⟨fun c o e h1 h2 => b.keep c o (a.keep c o e h1 h2) h1 h2, fun c e => a.dom c (b.dom c e)⟩
theorem Ext.same {ah : Option (Addr × Addr)} {H H1 : Hp} (a : Same H H1) : Ext ah H H1 := ⟨fun c o e _ _ => a c o e, fun c e => a.free e⟩
theorem Ext.hide {ah : Option (Addr × Addr)} {H H1 : Hp} {L : Addr → Prop} (e : Ext ah H H1) (hl : ∀ a c, ah = some (a, c) → L a) : Keeps (hide H L) (hide H1 L) := fun b o q n => by
  obtain ⟨q1, q2⟩ := of_hide q
  rw [hide_out q1]
  exact e.keep b o q2 (fun c z => q1 (hl b c z)) n
theorem Same.hide {H H1 : Hp} {L : Addr → Prop} (e : Same H H1) : Keeps (VL.hide H L) (VL.hide H1 L) := fun b o q n => by
  obtain ⟨q1, q2⟩ := of_hide q
  rw [hide_out q1]
  exact e b o q2
theorem hide_mono {H : Hp} {L L' : Addr → Prop} (h : ∀ a, L' a → L a) : Keeps (hide H L) (hide H L') := fun b o q n => by
  obtain ⟨q1, q2⟩ := of_hide q
  rw [hide_out fun z => q1 (h b z)]
  exact q2
theorem same_upd {H : Hp} {p : Addr} {o : HO} (h : H p = none) : Same H (upd H p o) := fun b x e => by
  rw [upd_ne (ne_of_none e h)]
  exact e
theorem LOk.new {H : Hp} {L : Addr → Prop} (k : LOk H L) {p : Addr} (h : H p = none) : ¬ L p := fun z => by
  obtain ⟨o, e, _⟩ := k p z
  rw [h] at e; cases e
theorem LOk.same {H H1 : Hp} {L : Addr → Prop} (k : LOk H L) (s : Same H H1) : LOk H1 L := fun a z => by
  obtain ⟨o, e, m⟩ := k a z
  exact ⟨o, s a o e, m⟩


open Classical in
noncomputable def only (H : Hp) (c : Addr) : Hp := fun b => if b = c then H b else none
theorem of_only {H : Hp} {c b : Addr} {o : HO} (h : only H c b = some o) : b = c ∧ H b = some o := by
  unfold only at h
  split at h
  · exact ⟨by assumption, h⟩
  · cases h
theorem only_in {H : Hp} {c : Addr} : only H c c = H c := by unfold only; rw [if_pos rfl]
theorem only_keeps {H H' : Hp} {c : Addr} (e : ∀ o, H c = some o → (∀ ps, o ≠ .tbl ps) → H' c = some o) : Keeps (only H c) (only H' c) := fun b o q n => by
  obtain ⟨q1, q2⟩ := of_only q
  subst q1
  rw [only_in]; exact e o q2 n
theorem only_hide {H : Hp} {c : Addr} {L : Addr → Prop} (k : LOk H L) (hc : ¬ L c) : Keeps (only H c) (hide H L) := fun b o q n => by
  obtain ⟨q1, q2⟩ := of_only q
  subst q1
  rw [hide_out hc]; exact q2
/-- the shared list, and the list that it holds -/
def HandAt (K : RK) (mg : Str → Option Value) (ah : Option (Addr × Addr)) (L : Addr → Prop) (H : Hp) (h : List D) : Prop :=
  ∀ a c, ah = some (a, c) → L a ∧ ¬ L c ∧ (∃ o, H c = some o) ∧ ∃ vs, H a = some (.lst vs) ∧ RepAll K mg ah (only H c) vs h
structure GloK (T : PP) (K : PySem.W.Frag) (mg : Str → Option Value) (ah : Option (Addr × Addr)) (L : Addr → Prop) (H : Hp) (h : List D) : Prop where
  hand : HandAt (kfK T K) mg ah L H h
  tabs : LamX.Tabs T.tabs H
  lok : LOk H L
abbrev Glo (T : PP) (X : Cx) := GloK T X.K X.mg
theorem GloK.hl {T : PP} {K : PySem.W.Frag} {mg : Str → Option Value} {ah : Option (Addr × Addr)} {L : Addr → Prop} {H : Hp} {h : List D} (g : GloK T K mg ah L H h) : ∀ a c, ah = some (a, c) → L a := fun a c e => (g.hand a c e).1
theorem Same.only {H H1 : Hp} {c : Addr} (s : Same H H1) : Keeps (VL.only H c) (VL.only H1 c) := only_keeps fun o e _ => s _ _ e
theorem GloK.same {T : PP} {K : PySem.W.Frag} {mg : Str → Option Value} {ah : Option (Addr × Addr)} {L : Addr → Prop} {H H1 : Hp} {h : List D} (g : GloK T K mg ah L H h) (s : Same H H1) : GloK T K mg ah L H1 h where
  hand := fun a c e => by
    obtain ⟨l, l2, ⟨o, l3⟩, vs, q, r⟩ := g.hand a c e
    exact ⟨l, l2, ⟨o, s _ _ l3⟩, vs, s _ _ q, r.keeps (Same.only s)⟩
  tabs := g.tabs.ext s
  lok := g.lok.same s
/-- with other lists hidden -/
theorem GloK.swap {T : PP} {K : PySem.W.Frag} {mg : Str → Option Value} {ah : Option (Addr × Addr)} {L L' : Addr → Prop} {H : Hp} {h : List D} (g : GloK T K mg ah L H h) (k : LOk H L') (hl : ∀ a c, ah = some (a, c) → L' a ∧ ¬ L' c) : GloK T K mg ah L' H h where
  hand := fun a c e => by
    obtain ⟨l, l2, l3, vs, q, r⟩ := g.hand a c e
    exact ⟨(hl a c e).1, (hl a c e).2, l3, vs, q, r⟩
  tabs := g.tabs
  lok := k
/-- an error of the package: its class by name, its fields -/
structure Exc where
  name : Str
  fs : List (Str × Int)
def ExcRep (mg : Str → Option Value) (c : Exc) (cls : Value) (dx : Option Addr) (H : Hp) : Prop :=
  ∃ C, mg c.name = some (.ref C) ∧ cls = .ref C ∧ ((c.fs = [] ∧ dx = none) ∨ ∃ d, c.fs ≠ [] ∧ dx = some d ∧ H d = some (.xd (c.fs.map fun p => (p.1, V.int p.2))))

/-- an end: a value, an error, or none that the mirror knows -/
inductive Out (α : Type) where
  | ok (a : α) (h : List D)
  | err (c : Exc) (h : List D)
  | stuck
def Out.bind {α β : Type} (x : Out α) (f : α → List D → Out β) : Out β := match x with
  | .ok a h => f a h
  | .err c h => .err c h
  | .stuck => .stuck
/-- a value that may be lacking -/
def Out.of {α : Type} (x : Option α) (h : List D) : Out α := match x with
  | some a => .ok a h
  | none => .stuck
abbrev Sl := List (Option D)
abbrev EM (α : Type) := Sl → List D → Out α

structure View (T : PP) (X : Cx) (ah : Option (Addr × Addr)) (L : Addr → Prop) (σ : L2.St) (H : Hp) (ρ : Sl) (h : List D) : Prop where
  len : σ.length = ρ.length
  glo : Glo T X ah L H h
  sl : ∀ (i : Nat) (d : D), ρ[i]? = some (some d) → ∃ v, σ[i]? = some (some v) ∧ Rep (kf T X) X.mg ah (hide H L) v d
theorem View.ext {T : PP} {X : Cx} {ah : Option (Addr × Addr)} {L : Addr → Prop} {σ : L2.St} {H H1 : Hp} {ρ : Sl} {h h1 : List D} (w : View T X ah L σ H ρ h) (e : Ext ah H H1) (g : Glo T X ah L H1 h1) : View T X ah L σ H1 ρ h1 where
  len := w.len
  glo := g
  sl := fun i d q => by
    obtain ⟨v, q1, r⟩ := w.sl i d q
    exact ⟨v, q1, r.keeps (e.hide w.glo.hl)⟩

/-- what an end asks -/
def Post {α β : Type} (T : PP) (X : Cx) (W : WX) (ah : Option (Addr × Addr)) (L : Addr → Prop) (σ : L2.St) (H : Hp) (R : Hp → β → α → Prop) (o : Out α) (Q : β → Hp → Prop) : Prop :=
  match o with
  | .ok a h1 => ∀ v H1, Ext ah H H1 → Glo T X ah L H1 h1 → R H1 v a → Q v H1
  | .err c h1 => ∀ cls dx H1, Ext ah H H1 → Glo T X ah L H1 h1 → ExcRep X.mg c cls dx H1 → W cls dx σ H1
  | .stuck => False
section
variable {α β γ δ : Type} {T : PP} {X : Cx} {W : WX} {ah : Option (Addr × Addr)} {L : Addr → Prop} {σ : L2.St} {H H1 : Hp} {R : Hp → β → α → Prop} {R1 : Hp → δ → γ → Prop} {Q : β → Hp → Prop} {Q1 : δ → Hp → Prop}
theorem Post.ext {o : Out α} (p : Post T X W ah L σ H R o Q) (e : Ext ah H H1) : Post T X W ah L σ H1 R o Q := by
  cases o with
  | ok a h1 => exact fun v H2 e2 g r => p v H2 (e.trans e2) g r
  | err c h1 => exact fun cls dx H2 e2 g r => p cls dx H2 (e.trans e2) g r
  | stuck => exact p
theorem Post.seq {x : Out γ} {f : γ → List D → Out α} (hp : Post T X W ah L σ H R (x.bind f) Q)
    (k : ∀ d h1 v H1, Ext ah H H1 → Glo T X ah L H1 h1 → R1 H1 v d → Post T X W ah L σ H1 R (f d h1) Q → Q1 v H1) : Post T X W ah L σ H R1 x Q1 := by
  cases x with
  | ok d h1 => exact fun v H1 e g r => k d h1 v H1 e g r (Post.ext hp e)
  | err c h1 => exact hp
  | stuck => exact hp
theorem Post.seqE {x : Out γ} {f : γ → List D → Out α} (hp : Post T X W ah L σ H R (x.bind f) Q)
    (k : ∀ d h1 v H1, x = .ok d h1 → Ext ah H H1 → Glo T X ah L H1 h1 → R1 H1 v d → Post T X W ah L σ H1 R (f d h1) Q → Q1 v H1) : Post T X W ah L σ H R1 x Q1 := by
  cases x with
  | ok d h1 => exact fun v H1 e g r => k d h1 v H1 rfl e g r (Post.ext hp e)
  | err c h1 => exact hp
  | stuck => exact hp
theorem Post.of {x : Option α} {h : List D} (hp : Post T X W ah L σ H R (Out.of x h) Q) : ∃ a, x = some a ∧ Post T X W ah L σ H R (.ok a h) Q := by
  cases x with
  | some a => exact ⟨a, rfl, hp⟩
  | none => exact hp.elim
end

/-! ### the judgements -/
abbrev RV (T : PP) (X : Cx) (ah : Option (Addr × Addr)) (L : Addr → Prop) : Hp → V → D → Prop := fun H v d => Rep (kf T X) X.mg ah (hide H L) v d
abbrev RA (T : PP) (X : Cx) (ah : Option (Addr × Addr)) (L : Addr → Prop) : Hp → List V → List D → Prop := fun H v d => RepAll (kf T X) X.mg ah (hide H L) v d
abbrev RB : Hp → Bool → Bool → Prop := fun _ a b => a = b
def VE (T : PP) (X : Cx) (W : WX) (e : Expr) (m : EM D) : Prop :=
  ∃ t, PE X e t ∧ ∀ (ah : Option (Addr × Addr)) L σ H ρ h Q, View T X ah L σ H ρ h → Post T X W ah L σ H (RV T X ah L) (m ρ h) Q → t σ H Q
def VT (T : PP) (X : Cx) (W : WX) (e : Expr) (m : EM Bool) : Prop :=
  ∃ t, PT X e t ∧ ∀ (ah : Option (Addr × Addr)) L σ H ρ h Q, View T X ah L σ H ρ h → Post T X W ah L σ H RB (m ρ h) Q → t σ H Q
def VW (T : PP) (X : Cx) (W : WX) (e : Expr) (m : EM Bool) : Prop :=
  ∃ t, PW X e t ∧ ∀ (ah : Option (Addr × Addr)) L σ H ρ h Q, View T X ah L σ H ρ h → Post T X W ah L σ H RB (m ρ h) Q → t σ H Q
def VA (T : PP) (X : Cx) (W : WX) (es : List Expr) (m : EM (List D)) : Prop :=
  ∃ t, PA X es t ∧ ∀ (ah : Option (Addr × Addr)) L σ H ρ h Q, View T X ah L σ H ρ h → Post T X W ah L σ H (RA T X ah L) (m ρ h) Q → t σ H Q

/-! ### names and constants -/
def cM (d : D) : EM D := fun _ h => .ok d h
def vM (i : Nat) : EM D := fun ρ h => Out.of (ρ[i]?.bind id) h
section
variable {T : PP} {X : Cx} {W : WX}
theorem ve_int {i j pos} : VE T X W (.Constant (.int i) j pos) (cM (.int i)) := ⟨_, pe_int, fun ah L σ H ρ h Q w p => p _ _ .refl w.glo (.int i)⟩
theorem ve_bl {i j pos} : VE T X W (.Constant (.bool i) j pos) (cM (.bl i)) := ⟨_, pe_bl, fun ah L σ H ρ h Q w p => p _ _ .refl w.glo (.bl i)⟩
theorem ve_non {j pos} : VE T X W (.Constant .none j pos) (cM .non) := ⟨_, pe_non, fun ah L σ H ρ h Q w p => p _ _ .refl w.glo .non⟩
theorem ve_str {i j pos} : VE T X W (.Constant (.str i) j pos) (cM (.str i)) := ⟨_, pe_str, fun ah L σ H ρ h Q w p => p _ _ .refl w.glo (.str i)⟩
theorem ve_of {e : Expr} {i : Nat} (h : PE X e (tVar i)) : VE T X W e (vM i) := ⟨_, h, fun ah L σ H ρ h Q w p => by
  obtain ⟨d, e, p⟩ := Post.of p
  have e' : ρ[i]? = some (some d) := by
    cases q : ρ[i]? with
    | none => rw [q] at e; cases e
    | some o => rw [q] at e; simp at e; rw [e]
  obtain ⟨v, e2, r⟩ := w.sl i d e'
  exact ⟨v, e2, p v H .refl w.glo r⟩⟩
/-- the name in slot i -/
theorem vv (i : Nat) {x : Str} {pos : Pos} (hN : X.N[i]? = some x := by rfl) (hv : Vis X.env.scope x := by first | exact Or.inl rfl | exact Or.inr (Or.inl rfl) | exact Or.inr (Or.inr rfl)) (hd : (x == ("__debug__" : Str)) = false := by decide)
    (hcd : (x == ("__classdict__" : Str)) = false := by decide) : VE T X W (.Name x pos) (vM i) := ve_of (pv i hN hv hd hcd)
/-- a module's constant that is an int, a text, a bool -/
theorem ve_gint {x : Str} {i : Int} {pos : Pos} (hg : Gl X x) (hm : ∃ t, X.mg x = some (.int i t)) (hd : (x == ("__debug__" : Str)) = false := by decide) : VE T X W (.Name x pos) (cM (.int i)) := by
  obtain ⟨t, e⟩ := hm
  exact ⟨_, pe_glob (v := .int i) hg e ⟨t, rfl⟩ hd, fun ah L σ H ρ h Q w p => p _ _ .refl w.glo (.int i)⟩
theorem ve_gstr {x : Str} {i : Str} {pos : Pos} (hg : Gl X x) (hm : ∃ t, X.mg x = some (.str i t)) (hd : (x == ("__debug__" : Str)) = false := by decide) : VE T X W (.Name x pos) (cM (.str i)) := by
  obtain ⟨t, e⟩ := hm
  exact ⟨_, pe_glob (v := .str i) hg e ⟨t, rfl⟩ hd, fun ah L σ H ρ h Q w p => p _ _ .refl w.glo (.str i)⟩

/-! ### arguments, displays -/
def anM : EM (List D) := fun _ h => .ok [] h
def acM (a : EM D) (r : EM (List D)) : EM (List D) := fun ρ h => (a ρ h).bind fun d h1 => (r ρ h1).bind fun ds h2 => .ok (d :: ds) h2
theorem va_nil : VA T X W [] anM := ⟨_, pa_nil, fun ah L σ H ρ h Q w p => p _ _ .refl w.glo .nil⟩
theorem va_cons {e : Expr} {es : List Expr} {ma : EM D} {mr : EM (List D)} (ha : VE T X W e ma) (hr : VA T X W es mr) (hs : starEach (e :: es) X.env = (false, eval e X.env) :: starEach es X.env := by rfl) : VA T X W (e :: es) (acM ma mr) := by
  obtain ⟨ta, pa, qa⟩ := ha
  obtain ⟨tr, pr, qr⟩ := hr
  refine ⟨_, pa_cons pa pr hs, fun ah L σ H ρ h Q w p => ?_⟩
  refine qa ah L σ H ρ h _ w (Post.seq p fun d h1 v H1 e1 g1 r1 p1 => ?_)
  refine qr ah L σ H1 ρ h1 _ (w.ext e1 g1) (Post.seq p1 fun ds h2 vs H2 e2 g2 r2 p2 => ?_)
  exact p2 (v :: vs) H2 .refl g2 (.cons (r1.keeps (e2.hide g1.hl)) r2)
def sizeOk (n : Nat) : Bool := decide (n ≤ sizeLine)
def tupM (a : EM (List D)) : EM D := fun ρ h => (a ρ h).bind fun ds h1 => if sizeOk ds.length then .ok (.tup ds) h1 else .stuck
def lstM (a : EM (List D)) : EM D := fun ρ h => (a ρ h).bind fun ds h1 => if sizeOk ds.length then .ok (.lst ds) h1 else .stuck
theorem Post.iff {α β : Type} {ah : Option (Addr × Addr)} {L : Addr → Prop} {σ : L2.St} {H : Hp} {R : Hp → β → α → Prop} {Q : β → Hp → Prop} {c : Bool} {x : Out α} (p : Post T X W ah L σ H R (if c = true then x else .stuck) Q) : c = true ∧ Post T X W ah L σ H R x Q := by
  cases c with
  | true => exact ⟨rfl, p⟩
  | false => exact p.elim
theorem same_new {H : Hp} {p : Addr} {o : HO} (h : H p = none) : Same H (upd H p o) := same_upd h
theorem rep_tup_new {K : RK} {mg : Str → Option Value} {ah : Option (Addr × Addr)} {H : Hp} {L : Addr → Prop} {p : Addr} {ob : Obj} {vs : List V} {ds : List D} (lk : LOk H L) (hp : H p = none) (hd : ob.dict = none) (r : RepAll K mg ah (hide H L) vs ds) :
    Rep K mg ah (hide (upd H p (.frz ob (.tup vs))) L) (.ref p) (.tup ds) :=
  .tup (.inl ⟨ob, by rw [hide_out (lk.new hp), upd_same], hd⟩) (r.keeps (Same.hide (same_upd hp)))
theorem ve_tup {es : List Expr} {x1 pos} {m : EM (List D)} (ha : VA T X W es m) : VE T X W (.Tuple es x1 pos) (tupM m) := by
  obtain ⟨ta, pa, qa⟩ := ha
  refine ⟨_, pe_tupS pa, fun ah L σ H ρ h Q w p => ?_⟩
  refine qa ah L σ H ρ h _ w (Post.seq p fun ds h1 vs H1 e1 g1 r1 p1 => ?_)
  obtain ⟨c, p1⟩ := p1.iff
  refine ⟨by rw [r1.length]; exact of_decide_eq_true c, fun q ob hq hd => ?_⟩
  exact p1 _ _ (.same (same_upd hq)) (g1.same (same_upd hq)) (rep_tup_new g1.lok hq hd r1)
theorem ve_lst {es : List Expr} {pos} {m : EM (List D)} (ha : VA T X W es m) : VE T X W (.List es pos) (lstM m) := by
  obtain ⟨ta, pa, qa⟩ := ha
  refine ⟨_, pe_lst pa, fun ah L σ H ρ h Q w p => ?_⟩
  refine qa ah L σ H ρ h _ w (Post.seq p fun ds h1 vs H1 e1 g1 r1 p1 => ?_)
  obtain ⟨c, p1⟩ := p1.iff
  refine ⟨by rw [r1.length]; exact of_decide_eq_true c, fun q hq => ?_⟩
  have s := same_upd (o := .lst vs) hq
  refine p1 _ _ (.same s) (g1.same s) (.lst ?_ (r1.keeps (Same.hide s)))
  rw [hide_out (g1.lok.new hq), upd_same]
end
end VL

set_option Elab.async false
set_option linter.all false
set_option maxRecDepth 100000
set_option maxHeartbeats 4000000
/-! VL2: operators and comparisons on data. -/
namespace VL
open PySem PySem.Spec PyProof.Rows L2
/-! ### data without dicts, as the library's -/
mutual
def D.py : D → Option PyData
  | .non => some .none
  | .bl b => some (.bool b)
  | .int i => some (.int i)
  | .str x => some (.str x)
  | .lst xs => (pyAll xs).map .list
  | .tup xs => (pyAll xs).map .tuple
  | .dK _ => none
  | .dT _ => none
  | .hand => none
  | .fn _ => none
  | .scr _ => none
def pyAll : List D → Option (List PyData)
  | [] => some []
  | x :: xs => match x.py, pyAll xs with
    | some a, some b => some (a :: b)
    | _, _ => none
end
theorem pyAll_cons {x : D} {xs : List D} {ps : List PyData} (h : pyAll (x :: xs) = some ps) : ∃ p qs, x.py = some p ∧ pyAll xs = some qs ∧ ps = p :: qs := by
  unfold pyAll at h
  cases e1 : x.py with
  | none => rw [e1] at h; cases h
  | some p =>
    cases e2 : pyAll xs with
    | none => rw [e1, e2] at h; cases h
    | some qs => rw [e1, e2] at h; cases h; exact ⟨p, qs, rfl, rfl, rfl⟩
section
variable {T : PP} {X : Cx} {mg : Str → Option Value} {ah : Option (Addr × Addr)} {H : Hp}
mutual
theorem Rep.dp : ∀ {v : V} {d : D} {p : PyData}, Rep (kf T X) mg ah H v d → d.py = some p → Dp X.K H v p
  | _, _, _, .non, e => by cases e; exact .non
  | _, _, _, .bl b, e => by cases e; exact .bl b
  | _, _, _, .int i, e => by cases e; exact .int i
  | _, _, _, .str x, e => by cases e; exact .str x
  | _, _, _, .lst (ds := ds) h1 h2, e => by
    unfold D.py at e
    cases q : pyAll ds with
    | none => rw [q] at e; cases e
    | some ps => rw [q] at e; cases e; exact .lst (.inl (.inl h1)) (RepAll.dp h2 q)
  | _, _, _, .tup (ds := ds) h1 h2, e => by
    unfold D.py at e
    cases q : pyAll ds with
    | none => rw [q] at e; cases e
    | some ps => rw [q] at e; cases e; exact .tup h1.sq (RepAll.dp h2 q)
  | _, _, _, .dK _ _ _, e => by unfold D.py at e; cases e
  | _, _, _, .hand _, e => by unfold D.py at e; cases e
  | _, _, _, .scr _ _, e => by unfold D.py at e; cases e
  | _, _, _, .fn _, e => by unfold D.py at e; cases e
theorem RepAll.dp : ∀ {vs : List V} {ds : List D} {ps : List PyData}, RepAll (kf T X) mg ah H vs ds → pyAll ds = some ps → DpAll X.K H vs ps
  | _, _, _, .nil, e => by unfold pyAll at e; cases e; exact .nil
  | _, _, _, .cons r t, e => by
    obtain ⟨p, qs, e1, e2, e3⟩ := pyAll_cons e
    subst e3
    exact .cons (Rep.dp r e1) (RepAll.dp t e2)
end
end
mutual
theorem D.py_plain : ∀ {d : D} {p : PyData}, d.py = some p → p.plain = true
  | .non, _, e => by cases e; rfl
  | .bl b, _, e => by cases e; rfl
  | .int i, _, e => by cases e; rfl
  | .str x, _, e => by cases e; rfl
  | .lst ds, _, e => by
    unfold D.py at e
    cases q : pyAll ds with
    | none => rw [q] at e; cases e
    | some ps => rw [q] at e; cases e; unfold PyData.plain; exact pyAll_plain q
  | .tup ds, _, e => by
    unfold D.py at e
    cases q : pyAll ds with
    | none => rw [q] at e; cases e
    | some ps => rw [q] at e; cases e; unfold PyData.plain; exact pyAll_plain q
  | .dK _, _, e => by unfold D.py at e; cases e
  | .dT _, _, e => by unfold D.py at e; cases e
  | .hand, _, e => by unfold D.py at e; cases e
  | .scr _, _, e => by unfold D.py at e; cases e
  | .fn _, _, e => by unfold D.py at e; cases e
theorem pyAll_plain : ∀ {ds : List D} {ps : List PyData}, pyAll ds = some ps → PyData.plainAll ps = true
  | [], _, e => by unfold pyAll at e; cases e; rfl
  | d :: ds, _, e => by
    obtain ⟨p, qs, e1, e2, e3⟩ := pyAll_cons e
    subst e3
    unfold PyData.plainAll
    rw [D.py_plain e1, pyAll_plain e2]; rfl
end
theorem hide_sub {H : Hp} {L : Addr → Prop} : Keeps (hide H L) H := fun b o q _ => (of_hide q).2

/-! ### operators by values -/
section
variable {T : PP} {X : Cx} {W : WX}
/-- f on values does what op does on data -/
def OpV (T : PP) (X : Cx) (f : Value → Value → Sem Value) (op : D → D → Option D) : Prop :=
  ∃ r, OpR X f r ∧ ∀ ah L H x y dx dy d Q, LOk H L → Rep (kf T X) X.mg ah (hide H L) x dx → Rep (kf T X) X.mg ah (hide H L) y dy → op dx dy = some d →
    (∀ v H1, Same H H1 → Rep (kf T X) X.mg ah (hide H1 L) v d → Q v H1) → r x y H Q
theorem OpV.or {f : Value → Value → Sem Value} {op op' : D → D → Option D} (h : OpV T X f op) (h' : OpV T X f op') : OpV T X f (fun a b => (op a b).or (op' a b)) := by
  obtain ⟨r, h1, h2⟩ := h
  obtain ⟨r', h1', h2'⟩ := h'
  refine ⟨_, h1.or h1', fun ah L H x y dx dy d Q lk rx ry e q => ?_⟩
  cases q1 : op dx dy with
  | some z =>
    have e' : (op dx dy).or (op' dx dy) = some d := e
    rw [q1] at e'
    cases e'
    exact .inl (h2 ah L H x y dx dy _ Q lk rx ry q1 q)
  | none =>
    have e' : (op dx dy).or (op' dx dy) = some d := e
    rw [q1] at e'
    exact .inr (h2' ah L H x y dx dy _ Q lk rx ry e' q)
def bin2 (op : D → D → Option D) (ma mb : EM D) : EM D := fun ρ h => (ma ρ h).bind fun d h1 => (mb ρ h1).bind fun e h2 => Out.of (op d e) h2
theorem ve_bin {op : D → D → Option D} {ta tb : TE} {r : R2} {ah : Option (Addr × Addr)} {L : Addr → Prop} {σ : L2.St} {H : Hp} {ρ : Sl} {h : List D} {Q : VK} {ma mb : EM D}
    (hr : ∀ ah L H x y dx dy d Q, LOk H L → Rep (kf T X) X.mg ah (hide H L) x dx → Rep (kf T X) X.mg ah (hide H L) y dy → op dx dy = some d → (∀ v H1, Same H H1 → Rep (kf T X) X.mg ah (hide H1 L) v d → Q v H1) → r x y H Q)
    (qa : ∀ (ah : Option (Addr × Addr)) L σ H ρ h Q, View T X ah L σ H ρ h → Post T X W ah L σ H (RV T X ah L) (ma ρ h) Q → ta σ H Q) (qb : ∀ (ah : Option (Addr × Addr)) L σ H ρ h Q, View T X ah L σ H ρ h → Post T X W ah L σ H (RV T X ah L) (mb ρ h) Q → tb σ H Q)
    (w : View T X ah L σ H ρ h) (p : Post T X W ah L σ H (RV T X ah L) (bin2 op ma mb ρ h) Q) : tOp r ta tb σ H Q := by
  refine qa ah L σ H ρ h _ w (Post.seq p fun d h1 v H1 e1 g1 r1 p1 => ?_)
  refine qb ah L σ H1 ρ h1 _ (w.ext e1 g1) (Post.seq p1 fun d2 h2 v2 H2 e2 g2 r2 p2 => ?_)
  obtain ⟨z, ez, p2⟩ := Post.of p2
  exact hr ah L H2 v v2 d d2 z Q g2.lok (r1.keeps (e2.hide g1.hl)) r2 ez fun v3 H3 s3 r3 => p2 v3 H3 (.same s3) (g2.same s3) r3
theorem ve_op {op : Operator} {f : D → D → Option D} {a b : Expr} {pos} {ma mb : EM D} (ho : OpV T X (binaryOp op) f) (ha : VE T X W a ma) (hb : VE T X W b mb) : VE T X W (.BinOp a op b pos) (bin2 f ma mb) := by
  obtain ⟨r, h1, hr⟩ := ho
  obtain ⟨ta, pa, qa⟩ := ha
  obtain ⟨tb, pb, qb⟩ := hb
  exact ⟨_, pe_op h1 pa pb, fun ah L σ H ρ h Q w p => ve_bin hr qa qb w p⟩
theorem ve_cmp {op : CmpOp} {f : D → D → Option D} {a b : Expr} {pos} {ma mb : EM D} (ho : OpV T X (compareOp op) f) (ha : VE T X W a ma) (hb : VE T X W b mb) (hm : behindInMarks op b = false) : VE T X W (.Compare a [op] [b] pos) (bin2 f ma mb) := by
  obtain ⟨r, h1, hr⟩ := ho
  obtain ⟨ta, pa, qa⟩ := ha
  obtain ⟨tb, pb, qb⟩ := hb
  exact ⟨_, pe_cmpR h1 pa pb hm, fun ah L σ H ρ h Q w p => ve_bin hr qa qb w p⟩
/-- a value that is a bool -/
def asB (o : Out D) : Out Bool := o.bind fun d h => match d with
  | .bl b => .ok b h
  | _ => .stuck
def tst (m : EM D) : EM Bool := fun ρ h => asB (m ρ h)
theorem vt_cmp {op : CmpOp} {f : D → D → Option D} {a b : Expr} {pos} {ma mb : EM D} (ho : OpV T X (compareOp op) f) (ha : VE T X W a ma) (hb : VE T X W b mb) (hm : behindInMarks op b = false) : VT T X W (.Compare a [op] [b] pos) (tst (bin2 f ma mb)) := by
  obtain ⟨r, h1, hr⟩ := ho
  obtain ⟨ta, pa, qa⟩ := ha
  obtain ⟨tb, pb, qb⟩ := hb
  refine ⟨_, pt_cmpR h1 pa pb hm, fun ah L σ H ρ h Q w p => ?_⟩
  refine ve_bin hr qa qb w (Post.seq p fun d h1 v H1 e1 g1 r1 p1 => ?_)
  cases r1 with
  | bl k => exact ⟨k, rfl, p1 k H1 .refl g1 rfl⟩
  | _ => exact p1.elim
/-- two comparisons in a chain -/
def chainM (f g : D → D → Option D) (ma mb mc : EM D) : EM D := fun ρ h => (ma ρ h).bind fun a h1 => (mb ρ h1).bind fun b h2 => match f a b with
  | some (.bl true) => (mc ρ h2).bind fun c h3 => Out.of (g b c) h3
  | some (.bl false) => .ok (.bl false) h2
  | _ => .stuck
theorem chain_run {f g : D → D → Option D} {ta tb tc : TE} {r r' : R2} {ah : Option (Addr × Addr)} {L : Addr → Prop} {σ : L2.St} {H : Hp} {ρ : Sl} {h : List D} {Q : VK} {ma mb mc : EM D}
    (hr : ∀ ah L H x y dx dy d Q, LOk H L → Rep (kf T X) X.mg ah (hide H L) x dx → Rep (kf T X) X.mg ah (hide H L) y dy → f dx dy = some d → (∀ v H1, Same H H1 → Rep (kf T X) X.mg ah (hide H1 L) v d → Q v H1) → r x y H Q)
    (hr' : ∀ ah L H x y dx dy d Q, LOk H L → Rep (kf T X) X.mg ah (hide H L) x dx → Rep (kf T X) X.mg ah (hide H L) y dy → g dx dy = some d → (∀ v H1, Same H H1 → Rep (kf T X) X.mg ah (hide H1 L) v d → Q v H1) → r' x y H Q)
    (qa : ∀ (ah : Option (Addr × Addr)) L σ H ρ h Q, View T X ah L σ H ρ h → Post T X W ah L σ H (RV T X ah L) (ma ρ h) Q → ta σ H Q) (qb : ∀ (ah : Option (Addr × Addr)) L σ H ρ h Q, View T X ah L σ H ρ h → Post T X W ah L σ H (RV T X ah L) (mb ρ h) Q → tb σ H Q)
    (qc : ∀ (ah : Option (Addr × Addr)) L σ H ρ h Q, View T X ah L σ H ρ h → Post T X W ah L σ H (RV T X ah L) (mc ρ h) Q → tc σ H Q)
    (w : View T X ah L σ H ρ h) (p : Post T X W ah L σ H (RV T X ah L) (chainM f g ma mb mc ρ h) Q) : tChain r r' ta tb tc σ H Q := by
  refine qa ah L σ H ρ h _ w (Post.seq p fun d h1 v H1 e1 g1 r1 p1 => ?_)
  refine qb ah L σ H1 ρ h1 _ (w.ext e1 g1) (Post.seq p1 fun d2 h2 v2 H2 e2 g2 r2 p2 => ?_)
  have r1' := r1.keeps (e2.hide g1.hl)
  have p3 : Post T X W ah L σ H2 (RV T X ah L) (match f d d2 with
    | some (.bl true) => (mc ρ h2).bind fun c h3 => Out.of (g d2 c) h3
    | some (.bl false) => .ok (.bl false) h2
    | _ => .stuck) Q := p2
  cases e : f d d2 with
  | none => rw [e] at p3; exact p3.elim
  | some z =>
    rw [e] at p3
    cases z with
    | bl k =>
      refine hr ah L H2 v v2 d d2 _ _ g2.lok r1' r2 e fun v3 H3 s3 r3 => ?_
      cases r3
      refine ⟨k, rfl, ?_⟩
      have g3 := g2.same s3
      cases k with
      | true =>
        rw [if_pos rfl]
        have p4 : Post T X W ah L σ H2 (RV T X ah L) ((mc ρ h2).bind fun c h3 => Out.of (g d2 c) h3) Q := p3
        refine qc ah L σ H3 ρ h2 _ (w.ext (e1.trans (e2.trans (.same s3))) g3) (Post.seq (p4.ext (.same s3)) fun d4 h4 v4 H4 e4 g4 r4 p5 => ?_)
        obtain ⟨y, ey, p5⟩ := Post.of p5
        exact hr' ah L H4 v2 v4 d2 d4 y Q g4.lok ((r2.keeps (Same.hide s3)).keeps (e4.hide g3.hl)) r4 ey fun v5 H5 s5 r5 => p5 v5 H5 (.same s5) (g4.same s5) r5
      | false =>
        rw [if_neg Bool.false_ne_true]
        exact p3 _ H3 (.same s3) g3 (.bl false)
    | _ => exact p3.elim
theorem ve_chain {op op' : CmpOp} {f g : D → D → Option D} {a b c : Expr} {pos} {ma mb mc : EM D} (ho : OpV T X (compareOp op) f) (ho' : OpV T X (compareOp op') g) (ha : VE T X W a ma) (hb : VE T X W b mb) (hc : VE T X W c mc)
    (h1 : lastMarks [op, op'] [b, c] = false := by with_unfolding_all rfl) : VE T X W (.Compare a [op, op'] [b, c] pos) (chainM f g ma mb mc) := by
  obtain ⟨r, o1, hr⟩ := ho
  obtain ⟨r', o2, hr'⟩ := ho'
  obtain ⟨ta, pa, qa⟩ := ha
  obtain ⟨tb, pb, qb⟩ := hb
  obtain ⟨tc, pc, qc⟩ := hc
  exact ⟨_, pe_chain o1 o2 pa pb pc h1, fun ah L σ H ρ h Q w p => chain_run hr hr' qa qb qc w p⟩
theorem vt_chain {op op' : CmpOp} {f g : D → D → Option D} {a b c : Expr} {pos} {ma mb mc : EM D} (ho : OpV T X (compareOp op) f) (ho' : OpV T X (compareOp op') g) (ha : VE T X W a ma) (hb : VE T X W b mb) (hc : VE T X W c mc)
    (h1 : lastMarks [op, op'] [b, c] = false := by with_unfolding_all rfl) : VT T X W (.Compare a [op, op'] [b, c] pos) (tst (chainM f g ma mb mc)) := by
  obtain ⟨r, o1, hr⟩ := ho
  obtain ⟨r', o2, hr'⟩ := ho'
  obtain ⟨ta, pa, qa⟩ := ha
  obtain ⟨tb, pb, qb⟩ := hb
  obtain ⟨tc, pc, qc⟩ := hc
  refine ⟨_, pt_chain o1 o2 pa pb pc h1, fun ah L σ H ρ h Q w p => ?_⟩
  refine chain_run hr hr' qa qb qc w (Post.seq p fun d h1 v H1 e1 g1 r1 p1 => ?_)
  cases r1 with
  | bl k => exact ⟨k, rfl, p1 k H1 .refl g1 rfl⟩
  | _ => exact p1.elim
end
end VL

set_option Elab.async false
set_option linter.all false
set_option maxRecDepth 100000
set_option maxHeartbeats 4000000
/-! VL3: the operators that the programs use. -/
namespace VL
open PySem PySem.Spec PyProof.Rows L2
/-! ### what they do on data -/
def lenOk (n : Nat) : Bool := decide (n ≤ sizeLine)
def addD : D → D → Option D
  | .int i, .int j => some (.int (i + j))
  | .str a, .str b => if lenOk (a.length + b.length) then some (.str (a ++ b)) else none
  | .lst a, .lst b => if lenOk (a.length + b.length) then some (.lst (a ++ b)) else none
  | .tup a, .tup b => if lenOk (a.length + b.length) then some (.tup (a ++ b)) else none
  | _, _ => none
def subD : D → D → Option D
  | .int i, .int j => some (.int (i - j))
  | _, _ => none
def mulOk (i j : Int) : Bool := decide ((-(2 ^ 64) < i ∧ i < 2 ^ 64) ∨ (-(2 ^ 64) < j ∧ j < 2 ^ 64))
def mulD : D → D → Option D
  | .int i, .int j => if mulOk i j then some (.int (i * j)) else none
  | .lst a, .int k => if decide (-(2 ^ 63) ≤ k ∧ k < 2 ^ 63) && lenOk (a.length * k.toNat) then some (.lst (List.replicate k.toNat a).flatten) else none
  | .tup a, .int k => if decide (0 ≤ k ∧ k ≤ 1000 ∧ a.length ≤ 1000) then some (.tup (List.replicate k.toNat a).flatten) else none
  | _, _ => none
def fdivOk (j : Int) : Bool := decide (0 < j ∧ j.natAbs.log2 < 9000)
def fdivD : D → D → Option D
  | .int i, .int j => if fdivOk j then some (.int (i / j)) else none
  | _, _ => none
def modD : D → D → Option D
  | .int i, .int j => if decide (0 < j) then some (.int (i % j)) else none
  | _, _ => none
def powOk (i j : Int) : Bool := decide (0 ≤ j ∧ j ≤ 1000000 ∧ i.natAbs < 2 ^ 64)
def powD : D → D → Option D
  | .int i, .int j => if powOk i j then some (.int (i ^ j.toNat)) else none
  | _, _ => none
def shlD : D → D → Option D
  | .int i, .int j => if powOk i j then some (.int (i * 2 ^ j.toNat)) else none
  | _, _ => none
def shrD : D → D → Option D
  | .int i, .int j => if decide (0 ≤ j) then some (.int (i / 2 ^ j.toNat)) else none
  | _, _ => none
def dOk (d : PyData) : Bool := decide (d.depth ≤ 60)
def eqvD (a b : D) : Option Bool := match a.py, b.py with
  | some p, some q => if dOk p && dOk q then some (PyData.eqv p q) else none
  | _, _ => none
def eqD (a b : D) : Option D := (eqvD a b).map .bl
def neD (a b : D) : Option D := (eqvD a b).map fun k => .bl (!k)
def notNone : PyData → Bool
  | .none => false
  | _ => true
def ordG (g : PyData → PyData → Bool) (p q : PyData) : Option Bool := if (dOk p && dOk q && PySem.W.alike p q && notNone p) = true then some (g p q) else none
def byOrd (g : PyData → PyData → Bool) (a b : D) : Option D := match a.py, b.py with
  | some p, some q => (ordG g p q).map .bl
  | _, _ => none
/-- a < b, .. of alike data -/
def ltD : D → D → Option D := byOrd fun p q => PySem.W.dataLt p q
def gtD : D → D → Option D := byOrd fun p q => PySem.W.dataLt q p
def leD : D → D → Option D := byOrd fun p q => !PySem.W.dataLt q p
def geD : D → D → Option D := byOrd fun p q => !PySem.W.dataLt p q
def memD (x c : D) : Option Bool := match x.py, c.py with
  | some p, some (.list qs) => if dOk p then some (qs.any fun y => PyData.eqv y p) else none
  | some p, some (.tuple qs) => if dOk p then some (qs.any fun y => PyData.eqv y p) else none
  | some (.str p), some (.str q) => some (!(Builtin.Str.occurrences q p 0 q.length 1).isEmpty)
  | _, _ => none
def inD (x c : D) : Option D := (memD x c).map .bl
def notInD (x c : D) : Option D := (memD x c).map fun k => .bl (!k)
/-- is, against None, True, False -/
def isD (x c : D) : Option D := match x, c with
  | .non, .non => some (.bl true)
  | _, .non => some (.bl false)
  | .bl a, .bl b => some (.bl (decide (a = b)))
  | _, _ => none
def isNotD (x c : D) : Option D := match x, c with
  | .non, .non => some (.bl false)
  | _, .non => some (.bl true)
  | .bl a, .bl b => some (.bl (!decide (a = b)))
  | _, _ => none

section
variable {K : RK} {mg : Str → Option Value} {ah : Option (Addr × Addr)} {H H1 : Hp} {L : Addr → Prop}
theorem rep_lst_new {p : Addr} {vs : List V} {ds : List D} (lk : LOk H L) (hp : H p = none) (r : RepAll K mg ah (hide H L) vs ds) : Rep K mg ah (hide (upd H p (.lst vs)) L) (.ref p) (.lst ds) :=
  .lst (by rw [hide_out (lk.new hp), upd_same]) (r.keeps (Same.hide (same_upd hp)))
theorem SqT.hide {K : PySem.W.Frag} {a : Addr} {vs : List V} (h : SqT K (VL.hide H L) a vs) : SqT K H a vs := SqT.keeps hide_sub h
theorem RepAll.rep {vs : List V} {ds : List D} (h : RepAll K mg ah H vs ds) : ∀ k : Nat, RepAll K mg ah H (List.replicate k vs).flatten (List.replicate k ds).flatten
  | 0 => .nil
  | k + 1 => by
    rw [List.replicate_succ, List.replicate_succ, List.flatten_cons, List.flatten_cons]
    exact h.append (RepAll.rep h k)
end
theorem dOk_room {X : Cx} (hu : X.A.units + 64 < cLine) {p q : PyData} (h : dOk p = true) : X.A.units + min p.depth q.depth < cLine := by
  have := of_decide_eq_true h
  omega
theorem dOk_room1 {X : Cx} (hu : X.A.units + 64 < cLine) {p : PyData} {n : Nat} (h : dOk p = true) : X.A.units + 1 + min n p.depth < cLine := by
  have := of_decide_eq_true h
  omega
section
variable {T : PP} {X : Cx} {W : WX}
theorem ov_add : OpV T X (binaryOp .Add) addD := by
  refine ⟨_, op_add.or (op_add_str.or (op_cat.or op_catS)), fun ah L H x y dx dy d Q lk rx ry e q => ?_⟩
  cases rx with
  | int i =>
    cases ry with
    | int j => cases e; exact .inl ⟨i, j, rfl, rfl, q _ H (Same.refl H) (.int _)⟩
    | _ => cases e
  | str a =>
    cases ry with
    | str b =>
      simp only [addD] at e
      by_cases c : lenOk (a.length + b.length) = true
      · rw [if_pos c] at e; cases e
        exact .inr (.inl ⟨a, b, rfl, rfl, of_decide_eq_true c, q _ H (Same.refl H) (.str _)⟩)
      · rw [if_neg c] at e; cases e
    | _ => cases e
  | lst h1 h2 =>
    cases ry with
    | lst h3 h4 =>
      simp only [addD] at e
      rename_i a vs ds b us es
      by_cases c : lenOk (ds.length + es.length) = true
      · rw [if_pos c] at e; cases e
        refine .inr (.inr (.inl ⟨a, b, vs, us, rfl, rfl, (of_hide h1).2, (of_hide h3).2, by rw [h2.length, h4.length]; exact of_decide_eq_true c, fun p hp => ?_⟩))
        exact q _ _ (same_upd hp) (rep_lst_new lk hp (h2.append h4))
      · rw [if_neg c] at e; cases e
    | _ => cases e
  | tup h1 h2 =>
    cases ry with
    | tup h3 h4 =>
      simp only [addD] at e
      rename_i a vs ds b us es
      by_cases c : lenOk (ds.length + es.length) = true
      · rw [if_pos c] at e; cases e
        refine .inr (.inr (.inr ⟨a, b, vs, us, rfl, rfl, SqT.hide h1.sq, SqT.hide h3.sq, by rw [h2.length, h4.length]; exact of_decide_eq_true c, fun z => ?_, fun _ z => ?_, fun _ _ p ob hp hd => ?_⟩))
        · subst z
          cases h2
          exact q _ H (Same.refl H) (.tup h3 h4)
        · subst z
          cases h4
          rw [List.append_nil] at q
          exact q _ H (Same.refl H) (.tup h1 h2)
        · exact q _ _ (same_upd hp) (rep_tup_new lk hp hd (h2.append h4))
      · rw [if_neg c] at e; cases e
    | _ => cases e
  | _ => cases e
theorem ov_int {f : Value → Value → Sem Value} {C : Int → Int → Prop} {g : Int → Int → V} {op : D → D → Option D} (h : OpR X f (rI C g))
    (k : ∀ x y d, op x y = some d → ∃ i j, x = .int i ∧ y = .int j ∧ C i j ∧ ((∃ n, g i j = .int n ∧ d = .int n) ∨ ∃ b, g i j = .bl b ∧ d = .bl b)) : OpV T X f op := by
  refine ⟨_, h, fun ah L H x y dx dy d Q lk rx ry e q => ?_⟩
  obtain ⟨i, j, e1, e2, c, r⟩ := k dx dy d e
  subst e1 e2
  cases rx
  cases ry
  refine ⟨i, j, rfl, rfl, c, ?_⟩
  rcases r with ⟨n, r1, r2⟩ | ⟨n, r1, r2⟩
  · subst r2; rw [r1]; exact q _ H (Same.refl H) (.int _)
  · subst r2; rw [r1]; exact q _ H (Same.refl H) (.bl _)
theorem ov_sub : OpV T X (binaryOp .Sub) subD := by
  refine ⟨_, op_sub, fun ah L H x y dx dy d Q lk rx ry e q => ?_⟩
  cases rx with
  | int i =>
    cases ry with
    | int j => cases e; exact ⟨i, j, rfl, rfl, q _ H (Same.refl H) (.int _)⟩
    | _ => cases e
  | _ => cases e
theorem two_ints {x y d : D} {c : Int → Int → Bool} {g : Int → Int → D} (e : (match x, y with | .int i, .int j => if c i j = true then some (g i j) else none | _, _ => none) = some d) : ∃ i j, x = .int i ∧ y = .int j ∧ c i j = true ∧ d = g i j := by
  cases x with
  | int i =>
    cases y with
    | int j =>
      have e' : (if c i j = true then some (g i j) else none) = some d := e
      by_cases q : c i j = true
      · rw [if_pos q] at e'; cases e'; exact ⟨i, j, rfl, rfl, q, rfl⟩
      · rw [if_neg q] at e'; cases e'
    | _ => cases e
  | _ => cases e
theorem ov_fdiv : OpV T X (binaryOp .FloorDiv) fdivD := ov_int op_fdivW fun x y d e => by
  obtain ⟨i, j, a, b, c, z⟩ := two_ints (c := fun _ j => fdivOk j) (g := fun i j => .int (i / j)) e
  exact ⟨i, j, a, b, by simpa [fdivOk, powOk, CDivW, CPow] using c, .inl ⟨_, rfl, z⟩⟩
theorem ov_mod : OpV T X (binaryOp .Mod) modD := ov_int op_mod fun x y d e => by
  obtain ⟨i, j, a, b, c, z⟩ := two_ints (c := fun _ j => decide (0 < j)) (g := fun i j => .int (i % j)) e
  exact ⟨i, j, a, b, by simpa [fdivOk, powOk, CDivW, CPow] using c, .inl ⟨_, rfl, z⟩⟩
theorem ov_pow : OpV T X (binaryOp .Pow) powD := ov_int op_pow fun x y d e => by
  obtain ⟨i, j, a, b, c, z⟩ := two_ints (c := powOk) (g := fun i j => .int (i ^ j.toNat)) e
  exact ⟨i, j, a, b, by simpa [fdivOk, powOk, CDivW, CPow] using c, .inl ⟨_, rfl, z⟩⟩
theorem ov_shl : OpV T X (binaryOp .LShift) shlD := ov_int op_shl fun x y d e => by
  obtain ⟨i, j, a, b, c, z⟩ := two_ints (c := powOk) (g := fun i j => .int (i * 2 ^ j.toNat)) e
  exact ⟨i, j, a, b, by simpa [fdivOk, powOk, CDivW, CPow] using c, .inl ⟨_, rfl, z⟩⟩
theorem ov_shr : OpV T X (binaryOp .RShift) shrD := ov_int op_shr fun x y d e => by
  obtain ⟨i, j, a, b, c, z⟩ := two_ints (c := fun _ j => decide (0 ≤ j)) (g := fun i j => .int (i / 2 ^ j.toNat)) e
  exact ⟨i, j, a, b, by simpa [fdivOk, powOk, CDivW, CPow] using c, .inl ⟨_, rfl, z⟩⟩
/-! ### comparisons -/
theorem reads_of {pins : List (Addr × Obj)} {s : Shared} {σ : L2.St} {H : Hp} {x : V} {v : Value} {p : PyData} (I : Inv X pins σ H s) (h : Dp X.K H x p) (r : RelV x v) : ∃ as, Reads s.heap v p as := Dp.reads I p x v h r
/-- by what the data are -/
theorem ov_py {f : Value → Value → Sem Value} {op : D → D → Option D} (g : PyData → PyData → Option Bool) (hg : ∀ a b d, op a b = some d → ∃ p q k, a.py = some p ∧ b.py = some q ∧ g p q = some k ∧ d = .bl k)
    (h : ∀ (p q : PyData) (k : Bool) (s : Shared) (v u : Value) (as bs : List Addr) (Q : Value → Shared → Prop), p.plain = true → q.plain = true → g p q = some k → Reads s.heap v p as → Reads s.heap u q bs → Q (.bool k) s → wpAny (model X.prog X.w) X.A (f v u) Q X.xe s) : OpV T X f op := by
  refine ⟨fun x y H Q => ∃ p q k, Dp X.K H x p ∧ Dp X.K H y q ∧ p.plain = true ∧ q.plain = true ∧ g p q = some k ∧ Q (.bl k) H, ?_, fun ah L H x y dx dy d Q lk rx ry e q => ?_⟩
  · intro pins s σ H x y v u Q I rx ry hh
    obtain ⟨p, q, k, d1, d2, p1, p2, e, w⟩ := hh
    obtain ⟨as, r1⟩ := reads_of I d1 rx
    obtain ⟨bs, r2⟩ := reads_of I d2 ry
    exact h p q k s v u as bs _ p1 p2 e r1 r2 ⟨.bl k, H, I, rfl, w⟩
  · obtain ⟨p, r, k, e1, e2, e3, e4⟩ := hg dx dy d e
    subst e4
    exact ⟨p, r, k, (rx.keeps hide_sub).dp e1, (ry.keeps hide_sub).dp e2, D.py_plain e1, D.py_plain e2, e3, q _ H (Same.refl H) (.bl k)⟩
theorem of_eqvD {a b : D} {k : Bool} (e : eqvD a b = some k) : ∃ p q, a.py = some p ∧ b.py = some q ∧ dOk p = true ∧ k = PyData.eqv p q := by
  unfold eqvD at e
  cases e1 : a.py with
  | none => rw [e1] at e; cases e
  | some p =>
    cases e2 : b.py with
    | none => rw [e1, e2] at e; cases e
    | some q =>
      rw [e1, e2] at e
      have e' : (if (dOk p && dOk q) = true then some (PyData.eqv p q) else none) = some k := e
      by_cases c : (dOk p && dOk q) = true
      · rw [if_pos c] at e'; cases e'
        exact ⟨p, q, rfl, rfl, (Bool.and_eq_true _ _ ▸ c).1, rfl⟩
      · rw [if_neg c] at e'; cases e'
theorem ov_eq (hu : X.A.units + 64 < cLine) : OpV T X (compareOp .Eq) eqD :=
  ov_py (fun p q => if dOk p = true then some (PyData.eqv p q) else none) (fun a b d e => by
    unfold eqD at e
    cases e1 : eqvD a b with
    | none => rw [e1] at e; cases e
    | some k =>
      rw [e1] at e; cases e
      obtain ⟨p, q, h1, h2, h3, h4⟩ := of_eqvD e1
      subst h4
      exact ⟨p, q, _, h1, h2, if_pos h3, rfl⟩) fun p q k s v u as bs Q h1 h2 e r1 r2 w => by
    by_cases c : dOk p = true
    · rw [if_pos c] at e; cases e
      exact PySem.SeqAt.eq_plain r1 r2 h1 h2 (dOk_room hu c) w
    · rw [if_neg c] at e; cases e
theorem ov_ne (hu : X.A.units + 64 < cLine) : OpV T X (compareOp .NotEq) neD :=
  ov_py (fun p q => if dOk p = true then some (!PyData.eqv p q) else none) (fun a b d e => by
    unfold neD at e
    cases e1 : eqvD a b with
    | none => rw [e1] at e; cases e
    | some k =>
      rw [e1] at e; cases e
      obtain ⟨p, q, h1, h2, h3, h4⟩ := of_eqvD e1
      subst h4
      exact ⟨p, q, _, h1, h2, if_pos h3, rfl⟩) fun p q k s v u as bs Q h1 h2 e r1 r2 w => by
    by_cases c : dOk p = true
    · rw [if_pos c] at e; cases e
      exact PySem.SeqAt.ne_plain r1 r2 h1 h2 (dOk_room hu c) w
    · rw [if_neg c] at e; cases e
theorem notNone_ne {p : PyData} (h : notNone p = true) : p ≠ .none := fun z => by rw [z] at h; cases h
theorem ordG_of {g : PyData → PyData → Bool} {p q : PyData} {k : Bool} (e : ordG g p q = some k) : dOk p = true ∧ PySem.W.alike p q = true ∧ p ≠ .none ∧ k = g p q := by
  unfold ordG at e
  by_cases c : (dOk p && dOk q && PySem.W.alike p q && notNone p) = true
  · rw [if_pos c] at e; cases e
    simp only [Bool.and_eq_true] at c
    exact ⟨c.1.1.1, c.1.2, notNone_ne c.2, rfl⟩
  · rw [if_neg c] at e; cases e
theorem byOrd_of {g : PyData → PyData → Bool} {a b d : D} (e : byOrd g a b = some d) : ∃ p q k, a.py = some p ∧ b.py = some q ∧ ordG g p q = some k ∧ d = .bl k := by
  unfold byOrd at e
  cases e1 : a.py with
  | none => rw [e1] at e; cases e
  | some p =>
    cases e2 : b.py with
    | none => rw [e1, e2] at e; cases e
    | some q =>
      rw [e1, e2] at e
      have e' : (ordG g p q).map D.bl = some d := e
      cases e3 : ordG g p q with
      | none => rw [e3] at e'; cases e'
      | some k => rw [e3] at e'; cases e'; exact ⟨p, q, k, rfl, rfl, e3, rfl⟩
theorem ov_ord {op : CmpOp} {g : PyData → PyData → Bool} (hu : X.A.units + 64 < cLine)
    (rule : ∀ {a b : Value} {da db : PyData} {as bs : List Addr} {s : Shared} {Q : Value → Shared → Prop}, Reads s.heap a da as → Reads s.heap b db bs → PySem.W.alike da db = true → da ≠ .none → X.A.units + min da.depth db.depth < cLine → Q (.bool (g da db)) s → wpAny (model X.prog X.w) X.A (compareOp op a b) Q X.xe s) : OpV T X (compareOp op) (byOrd g) :=
  ov_py (ordG g) (fun a b d e => byOrd_of e) fun p q k s v u as bs Q h1 h2 e r1 r2 w => by
    obtain ⟨e1, e2, e3, e4⟩ := ordG_of e
    subst e4
    exact rule r1 r2 e2 e3 (dOk_room hu e1) w
theorem ov_lt (hu : X.A.units + 64 < cLine) : OpV T X (compareOp .Lt) ltD := ov_ord hu fun a b c d e f => PySem.W.lt_data a b c d e f
theorem ov_gt (hu : X.A.units + 64 < cLine) : OpV T X (compareOp .Gt) gtD := ov_ord hu fun a b c d e f => PySem.W.gt_data a b c d e f
theorem ov_le (hu : X.A.units + 64 < cLine) : OpV T X (compareOp .LtE) leD := ov_ord hu fun a b c d e f => PySem.W.le_data a b c d e f
theorem ov_ge (hu : X.A.units + 64 < cLine) : OpV T X (compareOp .GtE) geD := ov_ord hu fun a b c d e f => PySem.W.ge_data a b c d e f
def memG (p c : PyData) : Option Bool := match c with
  | .list qs => if dOk p then some (qs.any fun y => PyData.eqv y p) else none
  | .tuple qs => if dOk p then some (qs.any fun y => PyData.eqv y p) else none
  | .str q => match p with
    | .str p => some (!(Builtin.Str.occurrences q p 0 q.length 1).isEmpty)
    | _ => none
  | _ => none
theorem memD_of {x c : D} {k : Bool} (e : memD x c = some k) : ∃ p q, x.py = some p ∧ c.py = some q ∧ memG p q = some k := by
  unfold memD at e
  cases e1 : x.py with
  | none => rw [e1] at e; cases e
  | some p =>
    cases e2 : c.py with
    | none => rw [e1, e2] at e; cases p <;> cases e
    | some q =>
      rw [e1, e2] at e
      refine ⟨p, q, rfl, rfl, ?_⟩
      cases q <;> cases p <;> first | exact e | cases e
theorem ov_in (hu : X.A.units + 64 < cLine) : OpV T X (compareOp .In) inD :=
  ov_py memG (fun a b d e => by
    unfold inD at e
    cases e1 : memD a b with
    | none => rw [e1] at e; cases e
    | some k =>
      rw [e1] at e; cases e
      obtain ⟨p, q, h1, h2, h3⟩ := memD_of e1
      exact ⟨p, q, _, h1, h2, h3, rfl⟩) fun p q k s v u as bs Q h1 h2 e r1 r2 w => by
    unfold memG at e
    cases q with
    | list qs =>
      by_cases c : dOk p = true
      · have e' : (if dOk p = true then some (qs.any fun y => PyData.eqv y p) else none) = some k := e
        rw [if_pos c] at e'; cases e'
        exact PySem.SeqAt.in_list_data r2 r1 (by simpa [PyData.plain] using h2) h1 (dOk_room1 hu c) w
      · have e' : (if dOk p = true then some (qs.any fun y => PyData.eqv y p) else none) = some k := e
        rw [if_neg c] at e'; cases e'
    | tuple qs =>
      by_cases c : dOk p = true
      · have e' : (if dOk p = true then some (qs.any fun y => PyData.eqv y p) else none) = some k := e
        rw [if_pos c] at e'; cases e'
        exact PySem.SeqAt.in_tuple_data r2 r1 (by simpa [PyData.plain] using h2) h1 (dOk_room1 hu c) w
      · have e' : (if dOk p = true then some (qs.any fun y => PyData.eqv y p) else none) = some k := e
        rw [if_neg c] at e'; cases e'
    | str q =>
      cases p with
      | str p =>
        cases e
        cases r1
        cases r2
        exact PyProof.Rows.in_str w
      | _ => cases e
    | _ => cases e
theorem ov_notIn (hu : X.A.units + 64 < cLine) : OpV T X (compareOp .NotIn) notInD :=
  ov_py (fun p q => (memG p q).map (!·)) (fun a b d e => by
    unfold notInD at e
    cases e1 : memD a b with
    | none => rw [e1] at e; cases e
    | some k =>
      rw [e1] at e; cases e
      obtain ⟨p, q, h1, h2, h3⟩ := memD_of e1
      exact ⟨p, q, _, h1, h2, by rw [h3]; rfl, rfl⟩) fun p q k s v u as bs Q h1 h2 e r1 r2 w => by
    unfold memG at e
    cases q with
    | list qs =>
      by_cases c : dOk p = true
      · have e' : (if dOk p = true then some (qs.any fun y => PyData.eqv y p) else none).map (!·) = some k := e
        rw [if_pos c] at e'; cases e'
        exact PySem.SeqAt.notIn_list_data r2 r1 (by simpa [PyData.plain] using h2) h1 (dOk_room1 hu c) w
      · have e' : (if dOk p = true then some (qs.any fun y => PyData.eqv y p) else none).map (!·) = some k := e
        rw [if_neg c] at e'; cases e'
    | tuple qs =>
      by_cases c : dOk p = true
      · have e' : (if dOk p = true then some (qs.any fun y => PyData.eqv y p) else none).map (!·) = some k := e
        rw [if_pos c] at e'; cases e'
        exact PySem.SeqAt.notIn_tuple_data r2 r1 (by simpa [PyData.plain] using h2) h1 (dOk_room1 hu c) w
      · have e' : (if dOk p = true then some (qs.any fun y => PyData.eqv y p) else none).map (!·) = some k := e
        rw [if_neg c] at e'; cases e'
    | str q =>
      cases p with
      | str p =>
        cases e
        cases r1
        cases r2
        exact PyProof.Rows.notIn_str w
      | _ => cases e
    | _ => cases e
theorem ov_is : OpV T X (compareOp .Is) isD := by
  refine ⟨_, op_isN.or op_isBl, fun ah L H x y dx dy d Q lk rx ry e q => ?_⟩
  unfold isD at e
  cases ry with
  | non => cases rx <;> (cases e; exact .inl ⟨rfl, q _ H (Same.refl H) (.bl _)⟩)
  | bl b =>
    cases rx with
    | bl a => cases e; exact .inr ⟨a, b, rfl, rfl, q _ H (Same.refl H) (.bl _)⟩
    | _ => cases e
  | _ => cases rx <;> cases e
theorem ov_isNot : OpV T X (compareOp .IsNot) isNotD := by
  refine ⟨_, op_notN.or op_notBl, fun ah L H x y dx dy d Q lk rx ry e q => ?_⟩
  unfold isNotD at e
  cases ry with
  | non => cases rx <;> (cases e; exact .inl ⟨rfl, q _ H (Same.refl H) (.bl _)⟩)
  | bl b =>
    cases rx with
    | bl a => cases e; exact .inr ⟨a, b, rfl, rfl, q _ H (Same.refl H) (.bl _)⟩
    | _ => cases e
  | _ => cases rx <;> cases e
end
end VL

set_option Elab.async false
set_option linter.all false
set_option maxRecDepth 100000
set_option maxHeartbeats 4000000
/-! VL4: and, or, not, if; subscripts, slices; built-ins called. -/
namespace VL
open PySem PySem.Spec PyProof.Rows L2
section
variable {T : PP} {X : Cx} {W : WX}
/-! ### tests -/
theorem vt_val {e : Expr} {m : EM D} (h : VE T X W e m) (he : ∀ whole, isTrue e X.env whole = (do let v ← whole; standAt e.pos; holding [v] (truthy v)) := by intro _; rfl) : VT T X W e (tst m) := by
  obtain ⟨t, pe, q⟩ := h
  refine ⟨_, pt_val pe he, fun ah L σ H ρ h Q w p => ?_⟩
  refine q ah L σ H ρ h _ w (Post.seq p fun d h1 v H1 e1 g1 r1 p1 => ?_)
  cases r1 with
  | bl k => exact ⟨k, rfl, p1 k H1 .refl g1 rfl⟩
  | _ => exact p1.elim
theorem VW.vt {e : Expr} {m : EM Bool} (h : VW T X W e m) : VT T X W e m := by
  obtain ⟨t, p, q⟩ := h
  exact ⟨t, p.pt, q⟩
def andM (a b : EM Bool) : EM Bool := fun ρ h => (a ρ h).bind fun c h1 => if c = true then b ρ h1 else .ok false h1
def orM (a b : EM Bool) : EM Bool := fun ρ h => (a ρ h).bind fun c h1 => if c = true then .ok true h1 else b ρ h1
def notM (a : EM Bool) : EM Bool := fun ρ h => (a ρ h).bind fun c h1 => .ok (!c) h1
variable {a b : Expr} {rest : List Expr} {pos : Pos} {ma mb : EM Bool}
theorem vw_and1 (ha : VT T X W a ma) : VW T X W (.BoolOp .And [a] pos) ma := by
  obtain ⟨t, p, q⟩ := ha
  exact ⟨_, pw_and1 p, q⟩
theorem vw_or1 (ha : VT T X W a ma) : VW T X W (.BoolOp .Or [a] pos) ma := by
  obtain ⟨t, p, q⟩ := ha
  exact ⟨_, pw_or1 p, q⟩
theorem vw_and (ha : VT T X W a ma) (hb : VW T X W (.BoolOp .And (b :: rest) pos) mb) : VW T X W (.BoolOp .And (a :: b :: rest) pos) (andM ma mb) := by
  obtain ⟨ta, pa, qa⟩ := ha
  obtain ⟨tb, pb, qb⟩ := hb
  refine ⟨_, pw_and pa pb, fun ah L σ H ρ h Q w p => ?_⟩
  refine qa ah L σ H ρ h _ w (Post.seq p fun d h1 v H1 e1 g1 r1 p1 => ?_)
  cases r1
  cases d with
  | true => rw [if_pos rfl]; exact qb ah L σ H1 ρ h1 _ (w.ext e1 g1) p1
  | false => rw [if_neg Bool.false_ne_true]; exact p1 false H1 .refl g1 rfl
theorem vw_or (ha : VT T X W a ma) (hb : VW T X W (.BoolOp .Or (b :: rest) pos) mb) : VW T X W (.BoolOp .Or (a :: b :: rest) pos) (orM ma mb) := by
  obtain ⟨ta, pa, qa⟩ := ha
  obtain ⟨tb, pb, qb⟩ := hb
  refine ⟨_, pw_or pa pb, fun ah L σ H ρ h Q w p => ?_⟩
  refine qa ah L σ H ρ h _ w (Post.seq p fun d h1 v H1 e1 g1 r1 p1 => ?_)
  cases r1
  cases d with
  | true => rw [if_pos rfl]; exact p1 true H1 .refl g1 rfl
  | false => rw [if_neg Bool.false_ne_true]; exact qb ah L σ H1 ρ h1 _ (w.ext e1 g1) p1
theorem vt_not (ha : VT T X W a ma) : VT T X W (.UnaryOp .Not a pos) (notM ma) := by
  obtain ⟨ta, pa, qa⟩ := ha
  refine ⟨_, pt_not pa, fun ah L σ H ρ h Q w p => ?_⟩
  refine qa ah L σ H ρ h _ w (Post.seq p fun d h1 v H1 e1 g1 r1 p1 => ?_)
  cases r1
  exact p1 _ H1 .refl g1 rfl
/-! ### as values: bools but the last -/
def andVM (a b : EM D) : EM D := fun ρ h => (a ρ h).bind fun d h1 => match d with
  | .bl true => b ρ h1
  | .bl false => .ok (.bl false) h1
  | _ => .stuck
def orVM (a b : EM D) : EM D := fun ρ h => (a ρ h).bind fun d h1 => match d with
  | .bl true => .ok (.bl true) h1
  | .bl false => b ρ h1
  | _ => .stuck
def notVM (a : EM D) : EM D := fun ρ h => (a ρ h).bind fun d h1 => match d with
  | .bl c => .ok (.bl (!c)) h1
  | _ => .stuck
variable {na nb : EM D}
theorem ve_one {op} (ha : VE T X W a na) : VE T X W (.BoolOp op [a] pos) na := by
  obtain ⟨t, p, q⟩ := ha
  exact ⟨_, pe_one p, q⟩
theorem ve_and (ha : VE T X W a na) (hb : VE T X W (.BoolOp .And (b :: rest) pos) nb) : VE T X W (.BoolOp .And (a :: b :: rest) pos) (andVM na nb) := by
  obtain ⟨ta, pa, qa⟩ := ha
  obtain ⟨tb, pb, qb⟩ := hb
  refine ⟨_, pe_and pa pb, fun ah L σ H ρ h Q w p => ?_⟩
  refine qa ah L σ H ρ h _ w (Post.seq p fun d h1 v H1 e1 g1 r1 p1 => ?_)
  cases r1 with
  | bl c =>
    refine ⟨c, rfl, ?_⟩
    cases c with
    | true => rw [if_pos rfl]; exact qb ah L σ H1 ρ h1 _ (w.ext e1 g1) p1
    | false => rw [if_neg Bool.false_ne_true]; exact p1 _ H1 .refl g1 (.bl false)
  | _ => exact p1.elim
theorem ve_or (ha : VE T X W a na) (hb : VE T X W (.BoolOp .Or (b :: rest) pos) nb) : VE T X W (.BoolOp .Or (a :: b :: rest) pos) (orVM na nb) := by
  obtain ⟨ta, pa, qa⟩ := ha
  obtain ⟨tb, pb, qb⟩ := hb
  refine ⟨_, pe_or pa pb, fun ah L σ H ρ h Q w p => ?_⟩
  refine qa ah L σ H ρ h _ w (Post.seq p fun d h1 v H1 e1 g1 r1 p1 => ?_)
  cases r1 with
  | bl c =>
    refine ⟨c, rfl, ?_⟩
    cases c with
    | true => rw [if_pos rfl]; exact p1 _ H1 .refl g1 (.bl true)
    | false => rw [if_neg Bool.false_ne_true]; exact qb ah L σ H1 ρ h1 _ (w.ext e1 g1) p1
  | _ => exact p1.elim
theorem ve_not (ha : VE T X W a na) : VE T X W (.UnaryOp .Not a pos) (notVM na) := by
  obtain ⟨ta, pa, qa⟩ := ha
  refine ⟨_, pe_not pa, fun ah L σ H ρ h Q w p => ?_⟩
  refine qa ah L σ H ρ h _ w (Post.seq p fun d h1 v H1 e1 g1 r1 p1 => ?_)
  cases r1 with
  | bl c => exact ⟨c, rfl, p1 _ H1 .refl g1 (.bl _)⟩
  | _ => exact p1.elim
def ifM (c : EM Bool) (a b : EM D) : EM D := fun ρ h => (c ρ h).bind fun k h1 => if k = true then a ρ h1 else b ρ h1
theorem ve_if {c : Expr} (hc : VT T X W c ma) (ha : VE T X W a na) (hb : VE T X W b nb) : VE T X W (.IfExp c a b pos) (ifM ma na nb) := by
  obtain ⟨tc, pc, qc⟩ := hc
  obtain ⟨ta, pa, qa⟩ := ha
  obtain ⟨tb, pb, qb⟩ := hb
  refine ⟨_, pe_ifExp pc pa pb, fun ah L σ H ρ h Q w p => ?_⟩
  refine qc ah L σ H ρ h _ w (Post.seq p fun d h1 v H1 e1 g1 r1 p1 => ?_)
  cases r1
  cases d with
  | true => rw [if_pos rfl]; exact qa ah L σ H1 ρ h1 _ (w.ext e1 g1) p1
  | false => rw [if_neg Bool.false_ne_true]; exact qb ah L σ H1 ρ h1 _ (w.ext e1 g1) p1
def negM (a : EM D) : EM D := fun ρ h => (a ρ h).bind fun d h1 => match d with
  | .int i => .ok (.int (-i)) h1
  | _ => .stuck
theorem ve_neg (ha : VE T X W a na) : VE T X W (.UnaryOp .USub a pos) (negM na) := by
  obtain ⟨ta, pa, qa⟩ := ha
  refine ⟨_, pe_un un_neg pa, fun ah L σ H ρ h Q w p => ?_⟩
  refine qa ah L σ H ρ h _ w (Post.seq p fun d h1 v H1 e1 g1 r1 p1 => ?_)
  cases r1 with
  | int i => exact ⟨i, rfl, p1 _ H1 .refl g1 (.int _)⟩
  | _ => exact p1.elim
end

/-! ### subscripts -/
def keyOf : D → Option Key
  | .int i => some (.inl i)
  | .str x => some (.inr x)
  | _ => none
def keysOf : List D → Option (List Key)
  | [] => some []
  | d :: ds => match keyOf d, keysOf ds with
    | some k, some ks => some (k :: ks)
    | _, _ => none
def tkeyOf : D → Option (List Key)
  | .tup ds => keysOf ds
  | _ => none
def dget {κ : Type} [DecidableEq κ] (kvs : List (κ × D)) (k : κ) : Option D := (kvs.find? fun kv => decide (kv.1 = k)).map (·.2)
def strLen (x : Str) : Bool := lenOk x.length
def idxD (hs : List D) (c i : D) : Option D := match c, i with
  | .lst xs, .int i => atI xs i
  | .tup xs, .int i => atI xs i
  | .str x, .int i => if strLen x then (atI x.cps.toList i).map fun c => .str ⟨#[c]⟩ else none
  | .hand, .int i => atI hs i
  | .dK kvs, k => (keyOf k).bind fun k => dget kvs k
  | .dT kvs, k => (tkeyOf k).bind fun k => dget kvs k
  | _, _ => none
section
variable {K : RK} {mg : Str → Option Value} {ah : Option (Addr × Addr)} {H H1 : Hp} {L : Addr → Prop}
theorem RepAll.atI {vs : List V} {ds : List D} {i : Int} {d : D} (r : RepAll K mg ah H vs ds) (e : L2.atI ds i = some d) : ∃ v, L2.atI vs i = some v ∧ Rep K mg ah H v d := by
  unfold L2.atI at e ⊢
  rw [r.length]
  cases q : ixN ds.length i with
  | none => rw [q] at e; cases e
  | some j => rw [q] at e; exact r.get (i := j) e
theorem keyOf_rep {v : V} {d : D} {k : Key} (r : Rep K mg ah H v d) (e : keyOf d = some k) : v = kV k := by
  cases r with
  | int i => cases e; rfl
  | str x => cases e; rfl
  | _ => cases e
theorem keysOf_rep : ∀ {ds : List D} {vs : List V} {ks : List Key}, RepAll K mg ah H vs ds → keysOf ds = some ks → vs = ks.map kV
  | [], _, _, r, e => by cases r; cases e; rfl
  | d :: ds, _, ks, r, e => by
    cases r with
    | cons r1 r2 =>
      unfold keysOf at e
      cases e1 : keyOf d with
      | none => rw [e1] at e; cases e
      | some k =>
        cases e2 : keysOf ds with
        | none => rw [e1, e2] at e; cases e
        | some ks' =>
          rw [e1, e2] at e; cases e
          rw [keyOf_rep r1 e1, keysOf_rep r2 e2]; rfl
theorem dget_rep {κ : Type} [DecidableEq κ] : ∀ {ks : List κ} {vs : List V} {ds : List D} {k : κ}, ks.length = vs.length → RepAll K mg ah H vs ds →
    (∀ d, dget (ks.zip ds) k = some d → ∃ v, valV (ks.zip vs) k = some v ∧ Rep K mg ah H v d) ∧ (dget (ks.zip ds) k = none → valV (ks.zip vs) k = none)
  | [], [], [], k, _, _ => ⟨fun d e => by simp [dget] at e, fun _ => rfl⟩
  | j :: ks, v :: vs, d :: ds, k, hl, h => by
    cases h with
    | cons r t =>
      obtain ⟨a, b⟩ := dget_rep (ks := ks) (k := k) (by simpa using hl) t
      by_cases c : j = k
      · refine ⟨fun d' e => ?_, fun e => ?_⟩
        · have e' : d = d' := by simpa [dget, List.find?_cons, c] using e
          subst e'
          exact ⟨v, by rw [List.zip_cons_cons, valV_pos c], r⟩
        · simp [dget, List.find?_cons, c] at e
      · refine ⟨fun d' e => ?_, fun e => ?_⟩
        · have e' : dget (ks.zip ds) k = some d' := by simpa [dget, List.find?_cons, c] using e
          obtain ⟨v', e1, r1⟩ := a d' e'
          exact ⟨v', by rw [List.zip_cons_cons, valV_neg c]; exact e1, r1⟩
        · have e' : dget (ks.zip ds) k = none := by simpa [dget, List.find?_cons, c] using e
          rw [List.zip_cons_cons, valV_neg c]
          exact b e'
end
theorem PE.or {X : Cx} {e : Expr} {t t' : TE} (h : PE X e t) (h' : PE X e t') : PE X e (fun σ H Q => t σ H Q ∨ t' σ H Q) := ⟨fun pins s σ H Q I q => q.elim (h.run pins s σ H Q I) (h'.run pins s σ H Q I)⟩
section
variable {T : PP} {X : Cx} {W : WX}
def isDct : D → Bool
  | .dK _ => true
  | .dT _ => true
  | _ => false
def idxM (a b : EM D) : EM D := fun ρ h => (a ρ h).bind fun c h1 => (b ρ h1).bind fun i h2 => Out.of (idxD h2 c i) h2
/-- the container that the end of a run yields -/
def outD (o : Out D) : Option D := match o with
  | .ok d _ => some d
  | _ => none
theorem dget_at (hk : T.kc = false) {ah : Option (Addr × Addr)} {L : Addr → Prop} {H : Hp} {v u : V} {c i d : D} {hs : List D} (rc : Rep (kf T X) X.mg ah (hide H L) v c) (ri : Rep (kf T X) X.mg ah (hide H L) u i) (hc : isDct c = true) (e : idxD hs c i = some d) : ∃ a v', v = .ref a ∧ DGet H a u (some v') ∧ Rep (kf T X) X.mg ah (hide H L) v' d := by
  cases rc with
  | dK h1 h2 h3 =>
    rename_i a ks vs ds
    have e' : (keyOf i).bind (fun k => dget (ks.zip ds) k) = some d := by cases i <;> exact e
    cases q : keyOf i with
    | none => rw [q] at e'; cases e'
    | some k =>
      rw [q] at e'
      obtain ⟨v', e1, r1⟩ := (dget_rep h2 h3).1 d e'
      have := keyOf_rep ri q
      subst this
      exact ⟨a, v', rfl, by rw [← e1]; exact .inl ⟨_, _, (rd_hide h1).2, rfl, rfl⟩, r1⟩
  | _ => cases hc
end
end VL

set_option Elab.async false
set_option linter.all false
set_option maxRecDepth 100000
set_option maxHeartbeats 4000000
/-! VL5: subscripts, slices, built-ins called, calls of the program's own defs. -/
namespace VL
open PySem PySem.Spec PyProof.Rows L2
section
variable {T : PP} {X : Cx} {W : WX}
theorem seq_at {ah : Option (Addr × Addr)} {L : Addr → Prop} {H : Hp} {v u : V} {c i d : D} {hs : List D} (g : Glo T X ah L H hs) (rc : Rep (kf T X) X.mg ah (hide H L) v c) (ri : Rep (kf T X) X.mg ah (hide H L) u i) (hc : isDct c = false) (e : idxD hs c i = some d) :
    ∀ Q : VK, (∀ v', Rep (kf T X) X.mg ah (hide H L) v' d → Q v' H) → rIx X.K v u H Q := by
  intro Q q
  cases ri with
  | int n =>
    cases rc with
    | lst h1 h2 =>
      obtain ⟨v', e1, r1⟩ := h2.atI e
      exact .inl ⟨_, _, n, v', rfl, rfl, .inl (.inl (of_hide h1).2), e1, q v' r1⟩
    | tup h1 h2 =>
      obtain ⟨v', e1, r1⟩ := h2.atI e
      exact .inr (.inl ⟨_, _, n, v', rfl, rfl, SqT.hide h1.sq, e1, q v' r1⟩)
    | str x =>
      have e' : (if strLen x = true then (atI x.cps.toList n).map (fun c => D.str ⟨#[c]⟩) else none) = some d := e
      by_cases c : strLen x = true
      · rw [if_pos c] at e'
        cases q1 : atI x.cps.toList n with
        | none => rw [q1] at e'; cases e'
        | some ch =>
          rw [q1] at e'; cases e'
          exact .inr (.inr ⟨x, n, ch, rfl, rfl, of_decide_eq_true c, q1, q _ (.str _)⟩)
      · rw [if_neg c] at e'; cases e'
    | hand ha =>
      obtain ⟨l, l2, _, vs, h1, h2⟩ := g.hand _ _ ha
      obtain ⟨v', e1, r1⟩ := h2.atI e
      exact .inl ⟨_, _, n, v', rfl, rfl, .inl (.inl h1), e1, q v' (r1.keeps (only_hide g.lok l2))⟩
    | dK _ _ _ => cases hc
    | _ => cases e
  | _ =>
    cases rc with
    | dK _ _ _ => cases hc
    | _ => cases e
variable {a b : Expr} {pos : Pos} {ma mb : EM D}
theorem ve_ix (hk : T.kc = false) (hu : X.A.units + 64 < cLine) (ha : VE T X W a ma) (hb : VE T X W b mb) (hs : PlainIx b := by exact fun _ _ => rfl) (hn : NoSl b := by exact fun _ _ => rfl) : VE T X W (.Subscript a b pos) (idxM ma mb) := by
  obtain ⟨ta, pa, qa⟩ := ha
  obtain ⟨tb, pb, qb⟩ := hb
  refine ⟨_, PE.or (pe_ix ix_seq pa pb hs) (pe_dget (by omega) pa pb hn), fun ah L σ H ρ h Q w p => ?_⟩
  by_cases dc : ∃ c, outD (ma ρ h) = some c ∧ isDct c = true
  · obtain ⟨c, oc, dc⟩ := dc
    refine .inr (qa ah L σ H ρ h _ w (Post.seqE p fun d h1 v H1 ed e1 g1 r1 p1 => qb ah L σ H1 ρ h1 _ (w.ext e1 g1) (Post.seq p1 fun d2 h2 v2 H2 e2 g2 r2 p2 => ?_)))
    rw [ed] at oc
    cases oc
    obtain ⟨z, ez, p2⟩ := Post.of p2
    obtain ⟨a', v', ev, dg, r3⟩ := dget_at hk (r1.keeps (e2.hide g1.hl)) r2 dc ez
    exact ⟨a', v', ev, dg, p2 v' H2 .refl g2 r3⟩
  · refine .inl (qa ah L σ H ρ h _ w (Post.seqE p fun d h1 v H1 ed e1 g1 r1 p1 => qb ah L σ H1 ρ h1 _ (w.ext e1 g1) (Post.seq p1 fun d2 h2 v2 H2 e2 g2 r2 p2 => ?_)))
    obtain ⟨z, ez, p2⟩ := Post.of p2
    have nd : isDct d = false := by
      cases q : isDct d with
      | false => rfl
      | true => exact (dc ⟨d, by rw [ed]; rfl, q⟩).elim
    exact seq_at g2 (r1.keeps (e2.hide g1.hl)) r2 nd ez Q fun v' r3 => p2 v' H2 .refl g2 r3
def idxS (hs : List D) (c i : D) : Option D := if isDct c then none else idxD hs c i
def idxSM (a b : EM D) : EM D := fun ρ h => (a ρ h).bind fun c h1 => (b ρ h1).bind fun i h2 => Out.of (idxS h2 c i) h2
theorem ve_ixS (ha : VE T X W a ma) (hb : VE T X W b mb) (hs : PlainIx b := by exact fun _ _ => rfl) : VE T X W (.Subscript a b pos) (idxSM ma mb) := by
  obtain ⟨ta, pa, qa⟩ := ha
  obtain ⟨tb, pb, qb⟩ := hb
  refine ⟨_, pe_ix ix_seq pa pb hs, fun ah L σ H ρ h Q w p => ?_⟩
  refine qa ah L σ H ρ h _ w (Post.seqE p fun d h1 v H1 ed e1 g1 r1 p1 => qb ah L σ H1 ρ h1 _ (w.ext e1 g1) (Post.seq p1 fun d2 h2 v2 H2 e2 g2 r2 p2 => ?_))
  obtain ⟨z, ez, p2⟩ := Post.of p2
  unfold idxS at ez
  cases q : isDct d with
  | true => rw [q] at ez; cases ez
  | false =>
    rw [q] at ez
    exact seq_at g2 (r1.keeps (e2.hide g1.hl)) r2 q ez Q fun v' r3 => p2 v' H2 .refl g2 r3

/-! ### slices -/
abbrev OM := Sl → List D → Out (Option Int)
def VO (T : PP) (X : Cx) (W : WX) (e : Option Expr) (m : OM) : Prop :=
  ∃ t, PO X e t ∧ ∀ (ah : Option (Addr × Addr)) L σ H ρ h Q, View T X ah L σ H ρ h → Post T X W ah L σ H (fun _ a b => a = b) (m ρ h) Q → t σ H Q
def noPart : OM := fun _ h => .ok none h
def partM (a : EM D) : OM := fun ρ h => (a ρ h).bind fun d h1 => match d with
  | .int i => .ok (some i) h1
  | _ => .stuck
theorem vo_none : VO T X W none noPart := ⟨_, po_none, fun ah L σ H ρ h Q w p => p _ H .refl w.glo rfl⟩
theorem vo_some (ha : VE T X W a ma) : VO T X W (some a) (partM ma) := by
  obtain ⟨ta, pa, qa⟩ := ha
  refine ⟨_, po_some pa, fun ah L σ H ρ h Q w p => ?_⟩
  refine qa ah L σ H ρ h _ w (Post.seq p fun d h1 v H1 e1 g1 r1 p1 => ?_)
  cases r1 with
  | int i => exact ⟨i, rfl, p1 _ H1 .refl g1 rfl⟩
  | _ => exact p1.elim
def cutL {α : Type} (xs : List α) (lo hi : Option Int) : List α := (xs.drop (HT.sIx xs.length 0 lo)).take (HT.sIx xs.length xs.length hi - HT.sIx xs.length 0 lo)
def cutD (c : D) (lo hi : Option Int) : Option D := match c with
  | .lst xs => some (.lst (cutL xs lo hi))
  | .tup xs => some (.tup (cutL xs lo hi))
  | .str x => if strLen x then some (.str (cutS x lo hi)) else none
  | .scr xs => some (.lst (cutL xs lo hi))
  | _ => none
theorem RepAll.cut {K : RK} {mg : Str → Option Value} {ah : Option (Addr × Addr)} {H : Hp} {vs : List V} {ds : List D} (r : RepAll K mg ah H vs ds) (lo hi : Option Int) : RepAll K mg ah H (cutV vs lo hi) (cutL ds lo hi) := by
  unfold cutV cutL
  rw [r.length]
  exact (r.drop _).take _
def cutM (a : EM D) (lo hi : OM) : EM D := fun ρ h => (a ρ h).bind fun c h1 => (lo ρ h1).bind fun l h2 => (hi ρ h2).bind fun u h3 => Out.of (cutD c l u) h3
theorem ve_cut {lo hi : Option Expr} {p2 : Pos} {ml mh : OM} (ha : VE T X W a ma) (hl : VO T X W lo ml) (hh : VO T X W hi mh) : VE T X W (.Subscript a (.Slice lo hi none p2) pos) (cutM ma ml mh) := by
  obtain ⟨ta, pa, qa⟩ := ha
  obtain ⟨tl, pl, ql⟩ := hl
  obtain ⟨th, ph, qh⟩ := hh
  refine ⟨_, pe_slice (sl_list.or (sl_tupS.or sl_str)) pa pl ph, fun ah L σ H ρ h Q w p => ?_⟩
  refine qa ah L σ H ρ h _ w (Post.seq p fun d h1 v H1 e1 g1 r1 p1 => ?_)
  refine ql ah L σ H1 ρ h1 _ (w.ext e1 g1) (Post.seq p1 fun l h2 l' H2 e2 g2 r2 p2 => ?_)
  refine qh ah L σ H2 ρ h2 _ (w.ext (e1.trans e2) g2) (Post.seq p2 fun u h3 u' H3 e3 g3 r3 p3 => ?_)
  subst r2 r3
  obtain ⟨z, ez, p3⟩ := Post.of p3
  have r1' := r1.keeps ((e2.trans e3).hide g1.hl)
  cases r1' with
  | lst k1 k2 =>
    cases ez
    exact .inl ⟨_, _, rfl, .inl (.inl (of_hide k1).2), fun q hq => p3 _ _ (.same (same_upd hq)) (g3.same (same_upd hq)) (rep_lst_new g3.lok hq (k2.cut _ _))⟩
  | scr k1 k2 =>
    cases ez
    exact .inl ⟨_, _, rfl, SqL.keeps hide_sub k1, fun q hq => p3 _ _ (.same (same_upd hq)) (g3.same (same_upd hq)) (rep_lst_new g3.lok hq (k2.cut _ _))⟩
  | tup k1 k2 =>
    cases ez
    refine .inr (.inl ⟨_, _, rfl, SqT.hide k1.sq, fun hw => ?_, fun _ q ob hq hd => p3 _ _ (.same (same_upd hq)) (g3.same (same_upd hq)) (rep_tup_new g3.lok hq hd (k2.cut _ _))⟩)
    refine p3 _ _ .refl g3 (.tup k1 ?_)
    have e : ∀ {α : Type} (xs : List α), HT.sIx xs.length 0 l' = 0 → HT.sIx xs.length xs.length u' = xs.length → cutL xs l' u' = xs := fun xs q1 q2 => by
      unfold cutL
      rw [q1, q2]
      simp
    rw [e _ (by rw [← k2.length]; exact hw.1) (by rw [← k2.length]; exact hw.2)]
    exact k2
  | str x =>
    have e' : (if strLen x = true then some (D.str (cutS x l' u')) else none) = some z := ez
    by_cases c : strLen x = true
    · rw [if_pos c] at e'; cases e'
      exact .inr (.inr ⟨x, rfl, of_decide_eq_true c, p3 _ _ .refl g3 (.str _)⟩)
    · rw [if_neg c] at e'; cases e'
  | _ => cases ez

/-! ### built-ins -/
def CallV (T : PP) (X : Cx) (f : Value) (op : List D → Option D) : Prop :=
  ∃ r, CallR X f r ∧ ∀ ah L H xs ds d Q, LOk H L → RepAll (kf T X) X.mg ah (hide H L) xs ds → op ds = some d →
    (∀ v H1, Same H H1 → Rep (kf T X) X.mg ah (hide H1 L) v d → Q v H1) → r xs H Q
def callM (op : List D → Option D) (a : EM (List D)) : EM D := fun ρ h => (a ρ h).bind fun ds h1 => Out.of (op ds) h1
theorem ve_callB {id : String} {x : Str} {p : Pos} {e : Expr} {es : List Expr} {op : List D → Option D} {m : EM (List D)} (hc : CallV T X (.builtin id) op) (hg : Gl X x) (hm : X.mg x = none) (hv : bootBuiltins x = some (.builtin id)) (ha : VA T X W (e :: es) m)
    (hn : x ≠ "__name__" := by decide) (hdb : (x == ("__debug__" : Str)) = false := by decide) (he : starEach (e :: es) X.env = (false, eval e X.env) :: starEach es X.env := by rfl) (hpl : (backTo pos (starEach es X.env)).any (·.1) = false := by rfl) : VE T X W (.Call (.Name x p) (e :: es) [] pos) (callM op m) := by
  obtain ⟨r, h1, hr⟩ := hc
  obtain ⟨ta, pa, qa⟩ := ha
  refine ⟨_, pe_callB h1 hg hm hv pa hn hdb he hpl, fun ah L σ H ρ h Q w p => ?_⟩
  refine qa ah L σ H ρ h _ w (Post.seq p fun d h1 v H1 e1 g1 r1 p1 => ?_)
  obtain ⟨z, ez, p1⟩ := Post.of p1
  exact hr ah L H1 v d z Q g1.lok r1 ez fun v3 H3 s3 r3 => p1 v3 H3 (.same s3) (g1.same s3) r3
theorem ve_callTy {id : String} {x : Str} {p : Pos} {e : Expr} {es : List Expr} {op : List D → Option D} {m : EM (List D)} (hc : CallV T X (.type id) op) (hg : Gl X x) (hm : X.mg x = none) (hv : bootBuiltins x = some (.type id)) (ha : VA T X W (e :: es) m)
    (hn : x ≠ "__name__" := by decide) (hdb : (x == ("__debug__" : Str)) = false := by decide) (he : starEach (e :: es) X.env = (false, eval e X.env) :: starEach es X.env := by rfl) (hpl : (backTo pos (starEach es X.env)).any (·.1) = false := by rfl) : VE T X W (.Call (.Name x p) (e :: es) [] pos) (callM op m) := by
  obtain ⟨r, h1, hr⟩ := hc
  obtain ⟨ta, pa, qa⟩ := ha
  refine ⟨_, pe_callTy h1 hg hm hv pa hn hdb he hpl, fun ah L σ H ρ h Q w p => ?_⟩
  refine qa ah L σ H ρ h _ w (Post.seq p fun d h1 v H1 e1 g1 r1 p1 => ?_)
  obtain ⟨z, ez, p1⟩ := Post.of p1
  exact hr ah L H1 v d z Q g1.lok r1 ez fun v3 H3 s3 r3 => p1 v3 H3 (.same s3) (g1.same s3) r3
end
end VL

set_option Elab.async false
set_option linter.all false
set_option maxRecDepth 100000
set_option maxHeartbeats 4000000
/-! VL6: len, abs, int, sum, min, max, all, any, tuple, list, sorted, isinstance. -/
namespace VL
open PySem PySem.Spec PyProof.Rows L2
def allInt : List D → Option (List Int)
  | [] => some []
  | .int i :: r => (allInt r).map (i :: ·)
  | _ :: _ => none
def allBl : List D → Option (List Bool)
  | [] => some []
  | .bl i :: r => (allBl r).map (i :: ·)
  | _ :: _ => none
def lenD : List D → Option D
  | [.lst xs] => some (.int xs.length)
  | [.tup xs] => some (.int xs.length)
  | [.str x] => if strLen x then some (.int x.length) else none
  | [.dK kvs] => some (.int kvs.length)
  | [.dT kvs] => some (.int kvs.length)
  | _ => none
def absD : List D → Option D
  | [.int i] => some (.int (if i < 0 then -i else i))
  | _ => none
def intD : List D → Option D
  | [.int i] => some (.int i)
  | [.bl b] => some (.int (if b = true then 1 else 0))
  | _ => none
def sumD : List D → Option D
  | [.lst xs] => (allInt xs).map fun ns => .int ns.sum
  | [.tup xs] => (allInt xs).map fun ns => .int ns.sum
  | _ => none
def allD : List D → Option D
  | [.lst xs] => (allBl xs).map fun bs => .bl (bs.all id)
  | _ => none
def anyD : List D → Option D
  | [.lst xs] => (allBl xs).map fun bs => .bl (bs.any id)
  | _ => none
def tupleD : List D → Option D
  | [.lst xs] => some (.tup xs)
  | [.tup xs] => some (.tup xs)
  | _ => none
def listD : List D → Option D
  | [.lst xs] => some (.lst xs)
  | [.tup xs] => some (.lst xs)
  | _ => none
section
variable {K : RK} {mg : Str → Option Value} {ah : Option (Addr × Addr)} {H H1 : Hp} {L : Addr → Prop}
theorem allInt_rep : ∀ {ds : List D} {vs : List V} {ns : List Int}, RepAll K mg ah H vs ds → allInt ds = some ns → vs = ns.map V.int
  | [], _, _, r, e => by cases r; cases e; rfl
  | d :: ds, _, ns, r, e => by
    cases r with
    | cons r1 r2 =>
      cases r1 with
      | int i =>
        have e' : (allInt ds).map (i :: ·) = some ns := e
        cases q : allInt ds with
        | none => rw [q] at e'; cases e'
        | some ms => rw [q] at e'; cases e'; rw [allInt_rep r2 q]; rfl
      | _ => cases e
theorem allBl_rep : ∀ {ds : List D} {vs : List V} {ns : List Bool}, RepAll K mg ah H vs ds → allBl ds = some ns → vs = ns.map V.bl
  | [], _, _, r, e => by cases r; cases e; rfl
  | d :: ds, _, ns, r, e => by
    cases r with
    | cons r1 r2 =>
      cases r1 with
      | bl i =>
        have e' : (allBl ds).map (i :: ·) = some ns := e
        cases q : allBl ds with
        | none => rw [q] at e'; cases e'
        | some ms => rw [q] at e'; cases e'; rw [allBl_rep r2 q]; rfl
      | _ => cases e
end
section
variable {T : PP} {X : Cx} {W : WX}
theorem call_lenDR : CallR X (.builtin "len") (fun xs H Q => ∃ a kvs, xs = [V.ref a] ∧ Rd H a (.dK kvs) ∧ Q (.int kvs.length) H) := by
  intro pins s σ H xs us Q I r h
  obtain ⟨a, kvs, rfl, ha, q⟩ := h
  obtain ⟨u, rfl, ru⟩ := vals1 r
  cases ru
  exact d_len I ha fun t s' I' => ⟨.int kvs.length, H, I', ⟨t, rfl⟩, q⟩
theorem cv_len : CallV T X (.builtin "len") lenD := by
  refine ⟨_, (call_len_seq.or call_len_str).or call_lenDR, fun ah L H xs ds d Q lk r e q => ?_⟩
  cases r with
  | nil => cases e
  | cons r1 r2 =>
    cases r2 with
    | nil =>
      cases r1 with
      | lst h1 h2 => cases e; exact .inl (.inl ⟨_, _, rfl, .inl (.inl (.inl (of_hide h1).2)), by rw [h2.length]; exact q _ H (Same.refl H) (.int _)⟩)
      | tup h1 h2 => cases e; exact .inl (.inl ⟨_, _, rfl, .inr (SqT.hide h1.sq), by rw [h2.length]; exact q _ H (Same.refl H) (.int _)⟩)
      | str x =>
        have e' : (if strLen x = true then some (D.int x.length) else none) = some d := e
        by_cases c : strLen x = true
        · rw [if_pos c] at e'; cases e'
          exact .inl (.inr ⟨x, rfl, of_decide_eq_true c, q _ H (Same.refl H) (.int _)⟩)
        · rw [if_neg c] at e'; cases e'
      | dK h1 h2 h3 =>
        cases e
        refine .inr ⟨_, _, rfl, (rd_hide h1).2, ?_⟩
        have z := h3.length
        rw [show ∀ (ks : List Key) (vs : List V) (es : List D), vs.length = es.length → (ks.zip vs).length = (ks.zip es).length from fun ks vs es w => by rw [List.length_zip, List.length_zip, w]] <;> first | exact q _ H (Same.refl H) (.int _) | exact z
      | _ => cases e
    | cons _ _ => cases r1 <;> cases e
theorem one_of {ah : Option (Addr × Addr)} {H : Hp} {K : RK} {mg : Str → Option Value} {xs : List V} {d : D} (r : RepAll K mg ah H xs [d]) : ∃ v, xs = [v] ∧ Rep K mg ah H v d := by
  cases r with
  | cons r1 r2 => cases r2; exact ⟨_, rfl, r1⟩
theorem two_of {ah : Option (Addr × Addr)} {H : Hp} {K : RK} {mg : Str → Option Value} {xs : List V} {d e : D} (r : RepAll K mg ah H xs [d, e]) : ∃ v u, xs = [v, u] ∧ Rep K mg ah H v d ∧ Rep K mg ah H u e := by
  cases r with
  | cons r1 r2 =>
    cases r2 with
    | cons r3 r4 => cases r4; exact ⟨_, _, rfl, r1, r3⟩
theorem cv_abs : CallV T X (.builtin "abs") absD := by
  refine ⟨_, call_abs, fun ah L H xs ds d Q lk r e q => ?_⟩
  match ds, r, e with
  | [.int i], r, e =>
    obtain ⟨v, rfl, r1⟩ := one_of r
    cases r1
    cases e
    exact ⟨i, rfl, q _ H (Same.refl H) (.int _)⟩
theorem cv_int : CallV T X (.type "int") intD := by
  refine ⟨_, call_int1, fun ah L H xs ds d Q lk r e q => ?_⟩
  match ds, r, e with
  | [.int i], r, e =>
    obtain ⟨v, rfl, r1⟩ := one_of r
    cases r1
    cases e
    exact .inl ⟨i, rfl, q _ H (Same.refl H) (.int _)⟩
  | [.bl i], r, e =>
    obtain ⟨v, rfl, r1⟩ := one_of r
    cases r1
    cases e
    exact .inr ⟨i, rfl, q _ H (Same.refl H) (.int _)⟩
theorem sum_tup (hc : X.calm = true) : CallR X (.builtin "sum") (fun vs H Q => ∃ (a : Addr) (ns : List Int), vs = [V.ref a] ∧ SqT X.K H a (ns.map V.int) ∧ Q (.int ns.sum) H) := by
  intro pins s σ H vs us Q I r h
  obtain ⟨a, ns, rfl, hs, q⟩ := h
  obtain ⟨its, rv, hl, _⟩ := I.tuple hs
  rw [Vals.ref1 r]
  have hi := rv.ints
  obtain ⟨xs, e⟩ := hi.allInts.items
  have hn : numsOf (intItems xs).toList = ns := by rw [← e]; exact hi.numsOf
  rw [nums_intItems] at hn
  have ht : s.heap.IsTuple a its.toArray := hl
  rw [e] at ht
  refine PySem.W.ktm_sumG (I.ok.hd hc) ht fun h' tk t' hk => ?_
  rw [preSum_eq, List.take_of_length_le (by simp), hn]
  exact ⟨.int _, H, I.kept hk, ⟨_, rfl⟩, q⟩
theorem cv_sum (hc : X.calm = true) : CallV T X (.builtin "sum") sumD := by
  refine ⟨_, (cr_sum hc).or (sum_tup hc), fun ah L H xs ds d Q lk r e q => ?_⟩
  match ds, r, e with
  | [.lst zs], r, e =>
    obtain ⟨v, rfl, r1⟩ := one_of r
    cases r1 with
    | lst h1 h2 =>
      have e' : (allInt zs).map (fun ns => D.int ns.sum) = some d := e
      cases z : allInt zs with
      | none => rw [z] at e'; cases e'
      | some ns =>
        rw [z] at e'; cases e'
        rw [allInt_rep h2 z] at h1
        exact .inl ⟨_, ns, rfl, .inl (.inl (of_hide h1).2), q _ H (Same.refl H) (.int _)⟩
  | [.tup zs], r, e =>
    obtain ⟨v, rfl, r1⟩ := one_of r
    cases r1 with
    | tup h1 h2 =>
      have e' : (allInt zs).map (fun ns => D.int ns.sum) = some d := e
      cases z : allInt zs with
      | none => rw [z] at e'; cases e'
      | some ns =>
        rw [z] at e'; cases e'
        rw [allInt_rep h2 z] at h1
        exact .inr ⟨_, ns, rfl, SqT.hide h1.sq, q _ H (Same.refl H) (.int _)⟩
theorem cv_all (hc : X.calm = true) : CallV T X (.builtin "all") allD := by
  refine ⟨_, cr_all hc, fun ah L H xs ds d Q lk r e q => ?_⟩
  match ds, r, e with
  | [.lst zs], r, e =>
    obtain ⟨v, rfl, r1⟩ := one_of r
    cases r1 with
    | lst h1 h2 =>
      have e' : (allBl zs).map (fun ns => D.bl (ns.all id)) = some d := e
      cases z : allBl zs with
      | none => rw [z] at e'; cases e'
      | some ns =>
        rw [z] at e'; cases e'
        rw [allBl_rep h2 z] at h1
        exact ⟨_, ns, rfl, .inl (.inl (of_hide h1).2), q _ H (Same.refl H) (.bl _)⟩
theorem cv_any (hc : X.calm = true) : CallV T X (.builtin "any") anyD := by
  refine ⟨_, cr_any hc, fun ah L H xs ds d Q lk r e q => ?_⟩
  match ds, r, e with
  | [.lst zs], r, e =>
    obtain ⟨v, rfl, r1⟩ := one_of r
    cases r1 with
    | lst h1 h2 =>
      have e' : (allBl zs).map (fun ns => D.bl (ns.any id)) = some d := e
      cases z : allBl zs with
      | none => rw [z] at e'; cases e'
      | some ns =>
        rw [z] at e'; cases e'
        rw [allBl_rep h2 z] at h1
        exact ⟨_, ns, rfl, .inl (.inl (of_hide h1).2), q _ H (Same.refl H) (.bl _)⟩
theorem cv_tuple : CallV T X (.type "tuple") tupleD := by
  refine ⟨_, call_tupS, fun ah L H xs ds d Q lk r e q => ?_⟩
  match ds, r, e with
  | [.lst zs], r, e =>
    obtain ⟨v, rfl, r1⟩ := one_of r
    cases r1 with
    | lst h1 h2 =>
      cases e
      exact ⟨_, _, rfl, .inl ⟨.inl (.inl (of_hide h1).2), fun l ob hl hd => q _ _ (same_upd hl) (rep_tup_new lk hl hd h2)⟩⟩
  | [.tup zs], r, e =>
    obtain ⟨v, rfl, r1⟩ := one_of r
    cases r1 with
    | tup h1 h2 =>
      cases e
      exact ⟨_, _, rfl, .inr ⟨SqT.hide h1.sq, q _ _ (Same.refl H) (.tup h1 h2)⟩⟩
theorem cv_list : CallV T X (.type "list") listD := by
  refine ⟨_, call_list_of, fun ah L H xs ds d Q lk r e q => ?_⟩
  match ds, r, e with
  | [.lst zs], r, e =>
    obtain ⟨v, rfl, r1⟩ := one_of r
    cases r1 with
    | lst h1 h2 =>
      cases e
      exact ⟨_, _, rfl, .inl (.inl (.inl (of_hide h1).2)), fun l hl => q _ _ (same_upd hl) (rep_lst_new lk hl h2)⟩
  | [.tup zs], r, e =>
    obtain ⟨v, rfl, r1⟩ := one_of r
    cases r1 with
    | tup h1 h2 =>
      cases e
      exact ⟨_, _, rfl, .inr (SqT.hide h1.sq), fun l hl => q _ _ (same_upd hl) (rep_lst_new lk hl h2)⟩

/-! ### isinstance with a built-in class -/
def tyName : D → String
  | .non => "NoneType"
  | .bl _ => "bool"
  | .int _ => "int"
  | .str _ => "str"
  | .lst _ => "list"
  | .tup _ => "tuple"
  | .dK _ => "dict"
  | .dT _ => "dict"
  | .hand => "list"
  | .fn _ => "function"
  | .scr _ => "list"
def isaB (T : String) (d : D) : Bool := match T with
  | "int" => match d with | .int _ => true | .bl _ => true | _ => false
  | "bool" => match d with | .bl _ => true | _ => false
  | "str" => match d with | .str _ => true | _ => false
  | "tuple" => match d with | .tup _ => true | _ => false
  | "list" => match d with | .lst _ => true | _ => false
  | "dict" => match d with | .dK _ => true | .dT _ => true | _ => false
  | _ => false
def isPlain : D → Bool
  | .hand => false
  | .fn _ => false
  | .scr _ => false
  | .dT _ => false
  | _ => true
def sixTy : List String := ["int", "bool", "str", "tuple", "list", "dict"]
theorem kit_isa {c : String} (hT : c ∈ sixTy) : ∀ d : D, isPlain d = true → kitB (tyName d) c = some (isaB c d) := by
  have e : c = "int" ∨ c = "bool" ∨ c = "str" ∨ c = "tuple" ∨ c = "list" ∨ c = "dict" := by simpa [sixTy] using hT
  intro d hd
  rcases e with e | e | e | e | e | e <;> subst e <;> cases d <;> first | (simp only [tyName, isaB]; decide +kernel) | cases hd
theorem tyX_of {ah : Option (Addr × Addr)} {H : Hp} {L : Addr → Prop} {v : V} {d : D} (r : Rep (kf T X) X.mg ah (hide H L) v d) (hd : isPlain d = true) : TyX X.K H v (.type (tyName d)) := by
  cases r with
  | non => exact .base .non
  | bl b => exact .base (.bl b)
  | int i => exact .base (.int i)
  | str x => exact .base (.str x)
  | lst h1 h2 => exact .base (.lst (of_hide h1).2)
  | tup h1 h2 =>
    rcases SqT.hide h1.sq with (h | ⟨o, h⟩) | ⟨o, its, n, hk, hc, _⟩
    · exact .base (.tup h)
    · exact .fTuple h
    · exact .kTuple hk hc
  | dK h1 h2 h3 =>
    rcases (rd_hide h1).2 with h | ⟨o, h⟩
    · exact .base (.dK h)
    · exact .fDict h
  | hand h => cases hd
  | fn h => cases hd
  | scr h1 h2 => cases hd
def isiM (c : String) (a : EM D) : EM D := fun ρ h => (a ρ h).bind fun d h1 => if isPlain d = true then .ok (.bl (isaB c d)) h1 else .stuck
theorem ve_isi {c : String} {a : Expr} {x cx : Str} {p p2 pos : Pos} {ma : EM D} (hT : c ∈ sixTy) (hg : Gl X x) (hm : X.mg x = none) (hx : x = Str.ofString "isinstance") (hgc : Gl X cx) (hmc : X.mg cx = none) (hvc : bootBuiltins cx = some (.type c)) (ha : VE T X W a ma)
    (hn : cx ≠ "__name__" := by decide) (hdb : (cx == ("__debug__" : Str)) = false := by decide)
    (he : starEach (a :: [.Name cx p2]) X.env = (false, eval a X.env) :: starEach [.Name cx p2] X.env := by rfl) (he2 : starEach [.Name cx p2] X.env = (false, eval (.Name cx p2) X.env) :: starEach [] X.env := by rfl) (hpl : (backTo pos (starEach [.Name cx p2] X.env)).any (·.1) = false := by rfl) :
    VE T X W (.Call (.Name x p) [a, .Name cx p2] [] pos) (isiM c ma) := by
  subst hx
  obtain ⟨ta, pa, qa⟩ := ha
  refine ⟨_, pe_callB call_isi hg hm PyProof.Rows.boot_isinstance (pa_cons pa (pa_cons (pe_bltn (v := .ty c) hgc hmc hvc rfl hn hdb) pa_nil he2) he) (by decide) (by decide) he hpl, fun ah L σ H ρ h Q w p => ?_⟩
  refine qa ah L σ H ρ h _ w (Post.seq p fun d h1 v H1 e1 g1 r1 p1 => ?_)
  obtain ⟨c1, p1⟩ := p1.iff
  exact ⟨v, .ty c, _, _, _, rfl, .ty c, tyX_of r1 c1, kit_ty (kit_isa hT d c1), p1 _ H1 .refl g1 (.bl _)⟩
end
end VL

set_option Elab.async false
set_option linter.all false
set_option maxRecDepth 100000
set_option maxHeartbeats 4000000
/-! VL7: statements: slots that share, slots that own. -/
namespace VL
open PySem PySem.Spec PyProof.Rows L2
/-- a slot: without value; a value that may be shared; a list or dict that this slot alone holds -/
inductive SV where
  | un
  | sh (d : D)
  | own (d : D)
  deriving Inhabited
abbrev SEnv := List SV
def SV.full : SV → Option D
  | .un => none
  | .sh d => some d
  | .own d => some d
def SV.shr : SV → Option D
  | .sh d => some d
  | _ => none
def full (ρ : SEnv) : Sl := ρ.map SV.full
def shr (ρ : SEnv) : Sl := ρ.map SV.shr
inductive SOut where
  | nx (ρ : SEnv) (h : List D)
  | ret (d : D) (h : List D)
  | brk (ρ : SEnv) (h : List D)
  | ct (ρ : SEnv) (h : List D)
  | err (c : Exc) (ρ : SEnv) (h : List D)
  | stuck
abbrev SM := SEnv → List D → SOut
/-- what a slot owns stands at a; its parts in the view V -/
def OwnAt (K : RK) (mg : Str → Option Value) (ah : Option (Addr × Addr)) (V : Hp) (H : Hp) (a : Addr) (d : D) : Prop := match d with
  | .lst xs => ∃ vs, H a = some (.lst vs) ∧ RepAll K mg ah V vs xs
  | .dK kvs => ∃ (ks : List (Key)) (vs : List L2.V) (ds : List D), kvs = ks.zip ds ∧ ks.length = vs.length ∧ H a = some (.dK (ks.zip vs)) ∧ RepAll K mg ah V vs ds
  | _ => False
def Own (σ : L2.St) (ρ : SEnv) (a : Addr) : Prop := ∃ (i : Nat) (d : D), ρ[i]? = some (.own d) ∧ σ[i]? = some (some (.ref a))
def Lx (L0 : Addr → Prop) (σ : L2.St) (ρ : SEnv) (a : Addr) : Prop := L0 a ∨ Own σ ρ a
section
variable {K : RK} {mg : Str → Option Value} {ah : Option (Addr × Addr)} {V V' H H' : Hp} {a : Addr} {d : D}
theorem OwnAt.keeps (k : Keeps V V') (e : ∀ o, H a = some o → (∀ ps, o ≠ .tbl ps) → H' a = some o) (h : OwnAt K mg ah V H a d) : OwnAt K mg ah V' H' a d := by
  cases d with
  | lst xs => obtain ⟨vs, h1, h2⟩ := h; exact ⟨vs, e _ h1 (fun ps z => by cases z), h2.keeps k⟩
  | dK kvs => obtain ⟨ks, vs, ds, h1, h2, h3, h4⟩ := h; exact ⟨ks, vs, ds, h1, h2, e _ h3 (fun ps z => by cases z), h4.keeps k⟩
  | _ => exact h.elim
theorem OwnAt.mut (h : OwnAt K mg ah V H a d) : ∃ o, H a = some o ∧ mutO o := by
  cases d with
  | lst xs => obtain ⟨vs, h1, h2⟩ := h; exact ⟨_, h1, trivial⟩
  | dK kvs => obtain ⟨ks, vs, ds, h1, h2, h3, h4⟩ := h; exact ⟨_, h3, trivial⟩
  | _ => exact h.elim
/-- given up: a value as others -/
theorem OwnAt.rep (k : Keeps V V') (e : ∀ o, H a = some o → mutO o → V' a = some o) (h : OwnAt K mg ah V H a d) : Rep K mg ah V' (.ref a) d := by
  cases d with
  | lst xs => obtain ⟨vs, h1, h2⟩ := h; exact .lst (e _ h1 trivial) (h2.keeps k)
  | dK kvs => obtain ⟨ks, vs, ds, rfl, h2, h3, h4⟩ := h; exact .dK (.inl (e _ h3 trivial)) h2 (h4.keeps k)
  | _ => exact h.elim
end
structure SRel (T : PP) (K : PySem.W.Frag) (mg : Str → Option Value) (ah : Option (Addr × Addr)) (L0 : Addr → Prop) (H0 : Hp) (σ : L2.St) (H : Hp) (ρ : SEnv) (h : List D) : Prop where
  len : σ.length = ρ.length
  glo : GloK T K mg ah (Lx L0 σ ρ) H h
  sh : ∀ (i : Nat) (d : D), ρ[i]? = some (.sh d) → ∃ v, σ[i]? = some (some v) ∧ Rep (kfK T K) mg ah (hide H (Lx L0 σ ρ)) v d
  own : ∀ (i : Nat) (d : D), ρ[i]? = some (.own d) → ∃ a, σ[i]? = some (some (.ref a)) ∧ OwnAt (kfK T K) mg ah (hide H (Lx L0 σ ρ)) H a d ∧ H0 a = none
  apart : ∀ (i j : Nat) (a : Addr) (d d' : D), ρ[i]? = some (.own d) → ρ[j]? = some (.own d') → σ[i]? = some (some (.ref a)) → σ[j]? = some (some (.ref a)) → i = j
  ext : Ext ah H0 H
  lok0 : LOk H0 L0
  hand0 : ∀ a c, ah = some (a, c) → L0 a ∧ ¬ L0 c ∧ H0 c ≠ none
section
variable {T : PP} {K : PySem.W.Frag} {mg : Str → Option Value} {ah : Option (Addr × Addr)} {L0 : Addr → Prop} {H0 H H1 H2 : Hp} {σ σ1 σ2 : L2.St} {ρ ρ1 ρ2 : SEnv} {h h1 : List D}
theorem SRel.new (s : SRel T K mg ah L0 H0 σ H ρ h) {a : Addr} (o : Own σ ρ a) : H0 a = none := by
  obtain ⟨i, d, e1, e2⟩ := o
  obtain ⟨a', e3, _, n⟩ := s.own i d e1
  rw [e2] at e3
  cases e3
  exact n
theorem SRel.lok (s : SRel T K mg ah L0 H0 σ H ρ h) : LOk H L0 := fun a l => by
  obtain ⟨o, e, m⟩ := s.glo.lok a (.inl l)
  exact ⟨o, e, m⟩
theorem SRel.handx (s : SRel T K mg ah L0 H0 σ H ρ h) : ∀ a c, ah = some (a, c) → Lx L0 σ ρ a ∧ ¬ Lx L0 σ ρ c := fun a c e => by
  obtain ⟨q1, q2, q3⟩ := s.hand0 a c e
  refine ⟨.inl q1, fun z => ?_⟩
  rcases z with z | z
  · exact q2 z
  · exact q3 (s.new z)
theorem SRel.glo0 (s : SRel T K mg ah L0 H0 σ H ρ h) : GloK T K mg ah L0 H h := s.glo.swap s.lok fun a c e => ⟨(s.hand0 a c e).1, (s.hand0 a c e).2.1⟩
/-- H grows -/
theorem SRel.up (s : SRel T K mg ah L0 H0 σ H ρ h) (e : Ext ah H H1) (g : GloK T K mg ah L0 H1 h1) : SRel T K mg ah L0 H0 σ H1 ρ h1 := by
  have lokx : LOk H1 (Lx L0 σ ρ) := fun a l => by
    rcases l with l | l
    · exact g.lok a l
    · obtain ⟨i, d, e1, e2⟩ := id l
      obtain ⟨a', e3, q, n⟩ := s.own i d e1
      rw [e2] at e3
      cases e3
      obtain ⟨o, e4, m⟩ := q.mut
      refine ⟨o, e.keep a o e4 (fun c z => ?_) (fun ps z => by subst z; exact m), m⟩
      obtain ⟨o', e5, _⟩ := s.lok0 a (s.hand0 a c z).1
      rw [n] at e5; cases e5
  have kp : Keeps (hide H (Lx L0 σ ρ)) (hide H1 (Lx L0 σ ρ)) := e.hide fun a c z => (s.handx a c z).1
  refine ⟨s.len, g.swap lokx s.handx, fun i d q => ?_, fun i d q => ?_, s.apart, s.ext.trans e, s.lok0, s.hand0⟩
  · obtain ⟨v, q1, r⟩ := s.sh i d q
    exact ⟨v, q1, r.keeps kp⟩
  · obtain ⟨a, q1, q2, n⟩ := s.own i d q
    refine ⟨a, q1, q2.keeps kp (fun o e4 nt => e.keep a o e4 (fun c z => ?_) nt), n⟩
    obtain ⟨o', e5, _⟩ := s.lok0 a (s.hand0 a c z).1
    rw [n] at e5; cases e5
/-- what a statement leaves of what it found -/
structure Step (ah : Option (Addr × Addr)) (σ : L2.St) (H : Hp) (ρ : SEnv) (σ1 : L2.St) (H1 : Hp) (ρ1 : SEnv) : Prop where
  keep : ∀ b o, H b = some o → ¬ Own σ ρ b → (∀ c, ah ≠ some (b, c)) → (∀ ps, o ≠ .tbl ps) → H1 b = some o
  own : ∀ a, Own σ1 ρ1 a → Own σ ρ a ∨ H a = none
  dom : ∀ b, H1 b = none → H b = none
theorem Step.trans (a : Step ah σ H ρ σ1 H1 ρ1) (b : Step ah σ1 H1 ρ1 σ2 H2 ρ2) : Step ah σ H ρ σ2 H2 ρ2 where
  keep := fun c o e n h1 h2 => b.keep c o (a.keep c o e n h1 h2) (fun z => (a.own c z).elim n fun z => by rw [e] at z; cases z) h1 h2
  own := fun c z => (b.own c z).elim (a.own c) fun z => .inr (a.dom c z)
  dom := fun c e => a.dom c (b.dom c e)
theorem Step.up (e : Ext ah H H1) : Step ah σ H ρ σ H1 ρ := ⟨fun b o q _ h1 h2 => e.keep b o q h1 h2, fun _ z => .inl z, e.dom⟩
theorem Step.refl : Step ah σ H ρ σ H ρ := Step.up .refl
/-- the views of a state -/
theorem getS {ρ : SEnv} {f : SV → Option D} {i : Nat} {d : D} (e : (ρ.map f)[i]? = some (some d)) : ∃ s, ρ[i]? = some s ∧ f s = some d := by
  rw [List.getElem?_map] at e
  cases q : ρ[i]? with
  | none => rw [q] at e; cases e
  | some s => rw [q] at e; exact ⟨s, rfl, Option.some.inj e⟩
end
section
variable {T : PP} {X : Cx} {W : WX} {ah : Option (Addr × Addr)} {L0 : Addr → Prop} {H0 H H1 H2 : Hp} {σ σ1 σ2 : L2.St} {ρ ρ1 ρ2 : SEnv} {h h1 : List D}
theorem SRel.vshr (s : SRel T X.K X.mg ah L0 H0 σ H ρ h) : View T X ah (Lx L0 σ ρ) σ H (shr ρ) h where
  len := by unfold shr; rw [List.length_map]; exact s.len
  glo := s.glo
  sl := fun i d e => by
    obtain ⟨q, e1, e2⟩ := getS e
    cases q with
    | sh d' => cases e2; exact s.sh i d e1
    | _ => cases e2
theorem SRel.vfull (s : SRel T X.K X.mg ah L0 H0 σ H ρ h) : View T X ah L0 σ H (full ρ) h where
  len := by unfold full; rw [List.length_map]; exact s.len
  glo := s.glo0
  sl := fun i d e => by
    obtain ⟨q, e1, e2⟩ := getS e
    have kp : Keeps (hide H (Lx L0 σ ρ)) (hide H L0) := hide_mono fun a l => .inl l
    cases q with
    | sh d' =>
      cases e2
      obtain ⟨v, q1, r⟩ := s.sh i d e1
      exact ⟨v, q1, r.keeps kp⟩
    | own d' =>
      cases e2
      obtain ⟨a, q1, q2, n⟩ := s.own i d e1
      refine ⟨_, q1, q2.rep kp fun o e m => ?_⟩
      rw [hide_out fun z => ?_]
      · exact e
      · obtain ⟨o', e5, _⟩ := s.lok0 a z
        rw [n] at e5; cases e5
    | un => cases e2
/-- what an end of a statement asks -/
def SPost (T : PP) (X : Cx) (W : WX) (ah : Option (Addr × Addr)) (L0 : Addr → Prop) (H0 : Hp) (σ : L2.St) (H : Hp) (ρ : SEnv) (D : Ends) (o : SOut) : Prop :=
  match o with
  | .nx ρ1 h1 => ∀ σ1 H1, SRel T X.K X.mg ah L0 H0 σ1 H1 ρ1 h1 → Step ah σ H ρ σ1 H1 ρ1 → D.nx σ1 H1
  | .ret d h1 => ∀ v H1, Ext ah H0 H1 → GloK T X.K X.mg ah L0 H1 h1 → Rep (kf T X) X.mg ah (hide H1 L0) v d → D.rt v H1
  | .brk ρ1 h1 => ∀ σ1 H1, SRel T X.K X.mg ah L0 H0 σ1 H1 ρ1 h1 → Step ah σ H ρ σ1 H1 ρ1 → D.bk σ1 H1
  | .ct ρ1 h1 => ∀ σ1 H1, SRel T X.K X.mg ah L0 H0 σ1 H1 ρ1 h1 → Step ah σ H ρ σ1 H1 ρ1 → D.ct σ1 H1
  | .err c ρ1 h1 => ∀ cls dx σ1 H1, SRel T X.K X.mg ah L0 H0 σ1 H1 ρ1 h1 → Step ah σ H ρ σ1 H1 ρ1 → ExcRep X.mg c cls dx H1 → W cls dx σ1 H1
  | .stuck => False
theorem SPost.step {D : Ends} {o : SOut} (p : SPost T X W ah L0 H0 σ H ρ D o) (s : Step ah σ H ρ σ1 H1 ρ1) : SPost T X W ah L0 H0 σ1 H1 ρ1 D o := by
  cases o with
  | nx ρ2 h2 => exact fun σ2 H2 r t => p σ2 H2 r (s.trans t)
  | ret d h2 => exact p
  | brk ρ2 h2 => exact fun σ2 H2 r t => p σ2 H2 r (s.trans t)
  | ct ρ2 h2 => exact fun σ2 H2 r t => p σ2 H2 r (s.trans t)
  | err c ρ2 h2 => exact fun cls dx σ2 H2 r t => p cls dx σ2 H2 r (s.trans t)
  | stuck => exact p
def VS (T : PP) (X : Cx) (W : WX) (st : Stmt) (m : SM) : Prop :=
  ∃ t, PS X st t ∧ ∀ ah L0 H0 σ H ρ h D, SRel T X.K X.mg ah L0 H0 σ H ρ h → SPost T X W ah L0 H0 σ H ρ D (m ρ h) → t D σ H
def VSs (T : PP) (X : Cx) (W : WX) (st : List Stmt) (m : SM) : Prop :=
  ∃ t, PSs X st t ∧ ∀ ah L0 H0 σ H ρ h D, SRel T X.K X.mg ah L0 H0 σ H ρ h → SPost T X W ah L0 H0 σ H ρ D (m ρ h) → t D σ H

/-! ### blocks -/
def skipM : SM := fun ρ h => .nx ρ h
def SOut.bind (o : SOut) (f : SM) : SOut := match o with
  | .nx ρ h => f ρ h
  | .ret d h => .ret d h
  | .brk ρ h => .brk ρ h
  | .ct ρ h => .ct ρ h
  | .err c ρ h => .err c ρ h
  | .stuck => .stuck
def seqM (a b : SM) : SM := fun ρ h => (a ρ h).bind b
theorem vss_nil : VSs T X W [] skipM := ⟨_, pss_nil, fun ah L0 H0 σ H ρ h D s p => p σ H s .refl⟩
theorem vss_one {st : Stmt} {m : SM} (hs : VS T X W st m) : VSs T X W [st] m := by
  obtain ⟨t, p, q⟩ := hs
  exact ⟨_, pss_one p, q⟩
theorem vss_cons {st : Stmt} {rest : List Stmt} {a b : SM} (ha : VS T X W st a) (hb : VSs T X W rest b) : VSs T X W (st :: rest) (seqM a b) := by
  obtain ⟨ta, pa, qa⟩ := ha
  obtain ⟨tb, pb, qb⟩ := hb
  refine ⟨_, pss_cons pa pb, fun ah L0 H0 σ H ρ h D s p => ?_⟩
  refine qa ah L0 H0 σ H ρ h _ s ?_
  have p' : SPost T X W ah L0 H0 σ H ρ D ((a ρ h).bind b) := p
  cases e : a ρ h with
  | nx ρ1 h1 =>
    rw [e] at p'
    exact fun σ1 H1 s1 t1 => qb ah L0 H0 σ1 H1 ρ1 h1 D s1 (SPost.step p' t1)
  | ret d h1 => rw [e] at p'; exact p'
  | brk ρ1 h1 => rw [e] at p'; exact p'
  | ct ρ1 h1 => rw [e] at p'; exact p'
  | err c ρ1 h1 => rw [e] at p'; exact p'
  | stuck => rw [e] at p'; exact p'
theorem vs_pass {pos} : VS T X W (.Pass pos) skipM := ⟨_, ps_pass, fun ah L0 H0 σ H ρ h D s p => p σ H s .refl⟩
theorem vs_break {pos} : VS T X W (.Break pos) (fun ρ h => .brk ρ h) := ⟨_, ps_break, fun ah L0 H0 σ H ρ h D s p => p σ H s .refl⟩
theorem vs_continue {pos} : VS T X W (.Continue pos) (fun ρ h => .ct ρ h) := ⟨_, ps_continue, fun ah L0 H0 σ H ρ h D s p => p σ H s .refl⟩
/-! ### an expression within a statement -/
def onE {α : Type} (o : Out α) (ρ : SEnv) (f : α → List D → SOut) : SOut := match o with
  | .ok a h => f a h
  | .err c h => .err c ρ h
  | .stuck => .stuck
/-- all slots seen -/
theorem onE_full {α β : Type} {o : Out α} {f : α → List D → SOut} {D : Ends} {R : Hp → β → α → Prop} {Q : β → Hp → Prop} (s : SRel T X.K X.mg ah L0 H0 σ H ρ h) (p : SPost T X W ah L0 H0 σ H ρ D (onE o ρ f))
    (k : ∀ a h1 v H1, Ext ah H H1 → GloK T X.K X.mg ah L0 H1 h1 → R H1 v a → SRel T X.K X.mg ah L0 H0 σ H1 ρ h1 → SPost T X W ah L0 H0 σ H1 ρ D (f a h1) → Q v H1) : Post T X W ah L0 σ H R o Q := by
  cases o with
  | ok a h1 => exact fun v H1 e g r => k a h1 v H1 e g r (s.up e g) (SPost.step p (.up e))
  | err c h1 => exact fun cls dx H1 e g r => p cls dx σ H1 (s.up e g) (.up e) r
  | stuck => exact p
/-- the sharing slots seen -/
theorem onE_shr {α β : Type} {o : Out α} {f : α → List D → SOut} {D : Ends} {R : Hp → β → α → Prop} {Q : β → Hp → Prop} (s : SRel T X.K X.mg ah L0 H0 σ H ρ h) (p : SPost T X W ah L0 H0 σ H ρ D (onE o ρ f))
    (k : ∀ a h1 v H1, Ext ah H H1 → GloK T X.K X.mg ah (Lx L0 σ ρ) H1 h1 → R H1 v a → SRel T X.K X.mg ah L0 H0 σ H1 ρ h1 → SPost T X W ah L0 H0 σ H1 ρ D (f a h1) → Q v H1) : Post T X W ah (Lx L0 σ ρ) σ H R o Q := by
  have g0 : ∀ {H1 h1}, GloK T X.K X.mg ah (Lx L0 σ ρ) H1 h1 → GloK T X.K X.mg ah L0 H1 h1 := fun g => g.swap (fun a l => g.lok a (.inl l)) fun a c e => ⟨(s.hand0 a c e).1, (s.hand0 a c e).2.1⟩
  cases o with
  | ok a h1 => exact fun v H1 e g r => k a h1 v H1 e g r (s.up e (g0 g)) (SPost.step p (.up e))
  | err c h1 => exact fun cls dx H1 e g r => p cls dx σ H1 (s.up e (g0 g)) (.up e) r
  | stuck => exact p
/-! ### return, if -/
def retM (m : EM D) : SM := fun ρ h => onE (m (full ρ) h) ρ fun d h1 => .ret d h1
theorem vs_ret {e : Expr} {pos} {m : EM D} (he : VE T X W e m) : VS T X W (.Return (some e) pos) (retM m) := by
  obtain ⟨t, p, q⟩ := he
  refine ⟨_, ps_ret p, fun ah L0 H0 σ H ρ h D s w => ?_⟩
  exact q ah L0 σ H (full ρ) h _ s.vfull (onE_full s w fun d h1 v H1 e g r s1 w1 => w1 v H1 s1.ext g r)
def retNM : SM := fun ρ h => .ret .non h
theorem vs_retN {pos} : VS T X W (.Return none pos) retNM := ⟨_, ps_retN, fun ah L0 H0 σ H ρ h D s w => w .non H s.ext s.glo0 .non⟩
def ifSM (c : EM Bool) (a b : SM) : SM := fun ρ h => onE (c (full ρ) h) ρ fun k h1 => if k = true then a ρ h1 else b ρ h1
theorem vs_if {c : Expr} {a b : List Stmt} {pos} {mc : EM Bool} {ma mb : SM} (hc : VT T X W c mc) (ha : VSs T X W a ma) (hb : VSs T X W b mb) : VS T X W (.If c a b pos) (ifSM mc ma mb) := by
  obtain ⟨tc, pc, qc⟩ := hc
  obtain ⟨ta, pa, qa⟩ := ha
  obtain ⟨tb, pb, qb⟩ := hb
  refine ⟨_, ps_if pc pa pb, fun ah L0 H0 σ H ρ h D s w => ?_⟩
  refine qc ah L0 σ H (full ρ) h _ s.vfull (onE_full s w fun k h1 v H1 e g r s1 w1 => ?_)
  cases r
  cases k with
  | true => rw [if_pos rfl]; exact qa ah L0 H0 σ H1 ρ h1 D s1 w1
  | false => rw [if_neg Bool.false_ne_true]; exact qb ah L0 H0 σ H1 ρ h1 D s1 w1
end
end VL

set_option Elab.async false
set_option linter.all false
set_option maxRecDepth 100000
set_option maxHeartbeats 4000000
/-! VL8: names stored, lists and dicts that a slot owns. -/
namespace VL
open PySem PySem.Spec PyProof.Rows L2
mutual
/-- nothing in it can change -/
def immD : D → Bool
  | .non => true
  | .bl _ => true
  | .int _ => true
  | .str _ => true
  | .tup xs => immAll xs
  | .fn _ => true
  | .scr _ => false
  | .lst _ => false
  | .dK _ => false
  | .dT _ => false
  | .hand => true
def immAll : List D → Bool
  | [] => true
  | x :: xs => immD x && immAll xs
end
def KeepsT (V V' : Hp) : Prop := ∀ b xs, (V b = some (.tup xs) → V' b = some (.tup xs)) ∧ ∀ ob, V b = some (.frz ob (.tup xs)) → V' b = some (.frz ob (.tup xs))
section
variable {K : RK} {mg : Str → Option Value} {ah : Option (Addr × Addr)} {V V' H : Hp} {L L' : Addr → Prop}
theorem TupAt.imm {a : Addr} {vs : List L2.V} (k : KeepsT V V') (h : TupAt K V a vs) : TupAt K V' a vs := by
  rcases h with ⟨ob, h, d⟩ | ⟨e, h⟩
  · exact .inl ⟨ob, (k a vs).2 ob h, d⟩
  · refine .inr ⟨e, ?_⟩
    rcases h with (h | ⟨o, h⟩) | h
    · exact .inl (.inl ((k a vs).1 h))
    · exact .inl (.inr ⟨o, (k a vs).2 o h⟩)
    · exact .inr h
mutual
theorem Rep.imm (k : KeepsT V V') : ∀ {v : L2.V} {d : D}, Rep K mg ah V v d → immD d = true → Rep K mg ah V' v d
  | _, _, .non, _ => .non
  | _, _, .bl b, _ => .bl b
  | _, _, .int i, _ => .int i
  | _, _, .str x, _ => .str x
  | _, _, .lst h1 h2, e => by cases e
  | _, _, .tup h1 h2, e => .tup (TupAt.imm k h1) (RepAll.imm k h2 e)
  | _, _, .dK h1 h2 h3, e => by cases e
  | _, _, .hand e, _ => .hand e
  | _, _, .fn e, _ => .fn e
  | _, _, .scr h1 h2, e => by cases e
theorem RepAll.imm (k : KeepsT V V') : ∀ {vs : List L2.V} {ds : List D}, RepAll K mg ah V vs ds → immAll ds = true → RepAll K mg ah V' vs ds
  | _, _, .nil, _ => .nil
  | _, _, .cons r t, e => by
    unfold immAll at e
    rw [Bool.and_eq_true] at e
    exact .cons (Rep.imm k r e.1) (RepAll.imm k t e.2)
end
theorem hide_T (k : LOk H L') : KeepsT (hide H L) (hide H L') := fun b xs => by
  refine ⟨fun e => ?_, fun ob e => ?_⟩
  · obtain ⟨_, q⟩ := of_hide e
    rw [hide_out fun z => ?_]
    · exact q
    · obtain ⟨o, e1, m⟩ := k b z
      rw [q] at e1; cases e1; exact m
  · obtain ⟨_, q⟩ := of_hide e
    rw [hide_out fun z => ?_]
    · exact q
    · obtain ⟨o, e1, m⟩ := k b z
      rw [q] at e1; cases e1; exact m
end
theorem set_get {α : Type} {l : List α} {i j : Nat} {x y : α} (e : (l.set i x)[j]? = some y) : (j = i ∧ y = x) ∨ (j ≠ i ∧ l[j]? = some y) := by
  by_cases c : j = i
  · subst c
    by_cases hl : j < l.length
    · rw [List.getElem?_set_self hl] at e
      exact .inl ⟨rfl, (Option.some.inj e).symm⟩
    · rw [List.getElem?_eq_none (by rw [List.length_set]; omega)] at e
      cases e
  · rw [List.getElem?_set_ne (Ne.symm c)] at e
    exact .inr ⟨c, e⟩
theorem set_ne {α : Type} {l : List α} {i j : Nat} {x : α} (h : j ≠ i) : (l.set i x)[j]? = l[j]? := List.getElem?_set_ne (Ne.symm h)
section
variable {T : PP} {K : PySem.W.Frag} {mg : Str → Option Value} {ah : Option (Addr × Addr)} {L0 : Addr → Prop} {H0 H H1 H2 : Hp} {σ σ1 σ2 : L2.St} {ρ ρ1 ρ2 : SEnv} {h h1 : List D} {i : Nat} {v : V} {d : D}
theorem own_set {o : Option V} {s : SV} (hs : ∀ d, s ≠ .own d) {a : Addr} (z : Own (σ.set i o) (ρ.set i s) a) : Own σ ρ a := by
  obtain ⟨j, d, e1, e2⟩ := z
  rcases set_get e1 with ⟨q1, q2⟩ | ⟨q1, q2⟩
  · exact (hs d q2.symm).elim
  · rw [set_ne q1] at e2
    exact ⟨j, d, q2, e2⟩
/-- slot i gets what may be shared, or is emptied -/
theorem SRel.set_any {s : SV} {o : Option V} (w : SRel T K mg ah L0 H0 σ H ρ h) (hs : ∀ d, s ≠ .own d) (r : ∀ d, s = .sh d → ∃ v, o = some v ∧ Rep (kfK T K) mg ah (hide H (Lx L0 σ ρ)) v d) : SRel T K mg ah L0 H0 (σ.set i o) H (ρ.set i s) h := by
  have sub : ∀ a, Lx L0 (σ.set i o) (ρ.set i s) a → Lx L0 σ ρ a := fun a z => z.imp id (own_set hs)
  have kp : Keeps (hide H (Lx L0 σ ρ)) (hide H (Lx L0 (σ.set i o) (ρ.set i s))) := hide_mono sub
  refine ⟨by rw [List.length_set, List.length_set]; exact w.len, w.glo.swap (fun a l => w.glo.lok a (sub a l)) fun a c e => ⟨.inl (w.hand0 a c e).1, fun z => (w.handx a c e).2 (sub c z)⟩, fun j d e => ?_, fun j d e => ?_, fun j k a d d' e1 e2 e3 e4 => ?_, w.ext, w.lok0, w.hand0⟩
  · rcases set_get e with ⟨q1, q2⟩ | ⟨q1, q2⟩
    · subst q1
      obtain ⟨v, e1, r1⟩ := r d q2.symm
      have hl : j < σ.length := by
        rw [w.len]
        have := (List.getElem?_eq_some_iff.mp e).1
        rwa [List.length_set] at this
      exact ⟨v, by rw [List.getElem?_set_self hl, e1], r1.keeps kp⟩
    · obtain ⟨v, e1, r1⟩ := w.sh j d q2
      exact ⟨v, by rw [set_ne q1]; exact e1, r1.keeps kp⟩
  · rcases set_get e with ⟨q1, q2⟩ | ⟨q1, q2⟩
    · exact (hs d q2.symm).elim
    · obtain ⟨a, e1, r1, n⟩ := w.own j d q2
      exact ⟨a, by rw [set_ne q1]; exact e1, r1.keeps kp (fun o e _ => e), n⟩
  · rcases set_get e1 with ⟨q1, q2⟩ | ⟨q1, q2⟩
    · exact (hs d q2.symm).elim
    · rcases set_get e2 with ⟨q3, q4⟩ | ⟨q3, q4⟩
      · exact (hs d' q4.symm).elim
      · rw [set_ne q1] at e3
        rw [set_ne q3] at e4
        exact w.apart j k a d d' q2 q4 e3 e4
theorem Step.set_any {s : SV} {o : Option V} (hs : ∀ d, s ≠ .own d) : Step ah σ H ρ (σ.set i o) H (ρ.set i s) := ⟨fun b o e _ _ _ => e, fun a z => .inl (own_set hs z), fun b e => e⟩
theorem SRel.set_sh (w : SRel T K mg ah L0 H0 σ H ρ h) (r : Rep (kfK T K) mg ah (hide H (Lx L0 σ ρ)) v d) : SRel T K mg ah L0 H0 (σ.set i (some v)) H (ρ.set i (.sh d)) h :=
  w.set_any (fun d e => by cases e) fun d' e => ⟨v, rfl, by cases e; exact r⟩
/-- slot i gets a new list or dict of its own -/
theorem SRel.set_own {p : Addr} (w : SRel T K mg ah L0 H0 σ H ρ h) (hn : ¬ Own σ ρ p) (h0 : H0 p = none) (q : OwnAt (kfK T K) mg ah (hide H fun b => Lx L0 σ ρ b ∨ b = p) H p d)
    (kp0 : Keeps (hide H (Lx L0 σ ρ)) (hide H fun b => Lx L0 σ ρ b ∨ b = p) ∨ (∀ (i : Nat) (d : D), ρ[i]? = some (.sh d) → ∃ v, σ[i]? = some (some v) ∧ Rep (kfK T K) mg ah (hide H fun b => Lx L0 σ ρ b ∨ b = p) v d) ∧
      ∀ (i : Nat) (d : D) (a : Addr), ρ[i]? = some (.own d) → σ[i]? = some (some (.ref a)) → OwnAt (kfK T K) mg ah (hide H fun b => Lx L0 σ ρ b ∨ b = p) H a d) : SRel T K mg ah L0 H0 (σ.set i (some (.ref p))) H (ρ.set i (.own d)) h := by
  have sub : ∀ a, Lx L0 (σ.set i (some (.ref p))) (ρ.set i (.own d)) a → Lx L0 σ ρ a ∨ a = p := fun a z => by
    rcases z with z | ⟨j, d', e1, e2⟩
    · exact .inl (.inl z)
    · rcases set_get e1 with ⟨q1, q2⟩ | ⟨q1, q2⟩
      · subst q1
        rcases set_get e2 with ⟨_, q4⟩ | ⟨q3, _⟩
        · cases q4; exact .inr rfl
        · exact (q3 rfl).elim
      · rw [set_ne q1] at e2
        exact .inl (.inr ⟨j, d', q2, e2⟩)
  have kp : Keeps (hide H fun b => Lx L0 σ ρ b ∨ b = p) (hide H (Lx L0 (σ.set i (some (.ref p))) (ρ.set i (.own d)))) := hide_mono sub
  have lok : LOk H (Lx L0 (σ.set i (some (.ref p))) (ρ.set i (.own d))) := fun a l => by
    rcases sub a l with z | z
    · exact w.glo.lok a z
    · subst z; exact q.mut
  have hsh : ∀ (i : Nat) (d : D), ρ[i]? = some (.sh d) → ∃ v, σ[i]? = some (some v) ∧ Rep (kfK T K) mg ah (hide H fun b => Lx L0 σ ρ b ∨ b = p) v d := by
    rcases kp0 with k | ⟨k, _⟩
    · exact fun i d e => let ⟨v, e1, r⟩ := w.sh i d e; ⟨v, e1, r.keeps k⟩
    · exact k
  have how : ∀ (i : Nat) (d : D) (a : Addr), ρ[i]? = some (.own d) → σ[i]? = some (some (.ref a)) → OwnAt (kfK T K) mg ah (hide H fun b => Lx L0 σ ρ b ∨ b = p) H a d := by
    rcases kp0 with k | ⟨_, k⟩
    · intro i d a e e1
      obtain ⟨a', e2, r, n⟩ := w.own i d e
      rw [e1] at e2; cases e2
      exact r.keeps k fun o e _ => e
    · exact k
  refine ⟨by rw [List.length_set, List.length_set]; exact w.len, w.glo.swap lok fun a c e => ⟨.inl (w.hand0 a c e).1, fun z => ?_⟩, fun j d' e => ?_, fun j d' e => ?_, fun j k a d1 d2 e1 e2 e3 e4 => ?_, w.ext, w.lok0, w.hand0⟩
  · rcases sub c z with z | z
    · exact (w.handx a c e).2 z
    · subst z; exact (w.hand0 a c e).2.2 h0
  · rcases set_get e with ⟨q1, q2⟩ | ⟨q1, q2⟩
    · cases q2
    · obtain ⟨v, e1, r1⟩ := hsh j d' q2
      exact ⟨v, by rw [set_ne q1]; exact e1, r1.keeps kp⟩
  · rcases set_get e with ⟨q1, q2⟩ | ⟨q1, q2⟩
    · subst q1
      cases q2
      have hl : j < σ.length := by
        rw [w.len]
        have := (List.getElem?_eq_some_iff.mp e).1
        rwa [List.length_set] at this
      exact ⟨p, by rw [List.getElem?_set_self hl], q.keeps kp (fun o e _ => e), h0⟩
    · obtain ⟨a, e1, r1, n⟩ := w.own j d' q2
      exact ⟨a, by rw [set_ne q1]; exact e1, (how j d' a q2 e1).keeps kp (fun o e _ => e), n⟩
  · rcases set_get e1 with ⟨q1, q2⟩ | ⟨q1, q2⟩
    · rcases set_get e2 with ⟨q3, q4⟩ | ⟨q3, q4⟩
      · rw [q1, q3]
      · subst q1
        rcases set_get e3 with ⟨_, z⟩ | ⟨z, _⟩
        · cases z
          rw [set_ne q3] at e4
          exact (hn ⟨k, d2, q4, e4⟩).elim
        · exact (z rfl).elim
    · rcases set_get e2 with ⟨q3, q4⟩ | ⟨q3, q4⟩
      · subst q3
        rcases set_get e4 with ⟨_, z⟩ | ⟨z, _⟩
        · cases z
          rw [set_ne q1] at e3
          exact (hn ⟨j, d1, q2, e3⟩).elim
        · exact (z rfl).elim
      · rw [set_ne q1] at e3
        rw [set_ne q3] at e4
        exact w.apart j k a d1 d2 q2 q4 e3 e4
/-- the list that slot i owns is changed -/
theorem SRel.own_upd {a : Addr} {d' : D} {o : HO} (w : SRel T K mg ah L0 H0 σ H ρ h) (e : ρ[i]? = some (.own d)) (e2 : σ[i]? = some (some (.ref a))) (hm : mutO o) (q : OwnAt (kfK T K) mg ah (hide H (Lx L0 σ ρ)) (upd H a o) a d') :
    SRel T K mg ah L0 H0 σ (upd H a o) (ρ.set i (.own d')) h ∧ Step ah σ H ρ σ (upd H a o) (ρ.set i (.own d')) := by
  have ow : Own σ ρ a := ⟨i, d, e, e2⟩
  have hil : i < ρ.length := (List.getElem?_eq_some_iff.mp e).1
  have same : ∀ b, Own σ (ρ.set i (.own d')) b ↔ Own σ ρ b := fun b => by
    constructor
    · rintro ⟨j, d1, e3, e4⟩
      rcases set_get e3 with ⟨q1, q2⟩ | ⟨q1, q2⟩
      · subst q1; exact ⟨j, d, e, e4⟩
      · exact ⟨j, d1, q2, e4⟩
    · rintro ⟨j, d1, e3, e4⟩
      by_cases c : j = i
      · subst c; exact ⟨j, d', by rw [List.getElem?_set_self hil], e4⟩
      · exact ⟨j, d1, by rw [set_ne c]; exact e3, e4⟩
  have lx : Lx L0 σ (ρ.set i (.own d')) = Lx L0 σ ρ := by
    funext b
    unfold Lx
    rw [propext (same b)]
  have hv : hide (upd H a o) (Lx L0 σ ρ) = hide H (Lx L0 σ ρ) := by
    funext b
    by_cases z : Lx L0 σ ρ b
    · rw [hide_in z, hide_in z]
    · rw [hide_out z, hide_out z, upd_ne]
      intro y
      subst y
      exact z (.inr ow)
  have n0 : H0 a = none := w.new ow
  have nL : ¬ L0 a := fun z => by
    obtain ⟨o', e5, _⟩ := w.lok0 a z
    rw [n0] at e5; cases e5
  obtain ⟨a', e3, qq, _⟩ := w.own i d e
  rw [e2] at e3; cases e3
  obtain ⟨oa, hoa, hma⟩ := qq.mut
  have dom : ∀ b, upd H a o b = none → H b = none := fun b z => by
    by_cases c : b = a
    · subst c; rw [upd_same] at z; cases z
    · rwa [upd_ne c] at z
  refine ⟨⟨by rw [List.length_set]; exact w.len, ⟨fun x c z => ?_, ?_, fun b l => ?_⟩, fun j d1 z => ?_, fun j d1 z => ?_, fun j k b d1 d2 e5 e6 e7 e8 => ?_, ⟨fun b ob z h1 h2 => ?_, fun b z => w.ext.dom b (dom b z)⟩, w.lok0, w.hand0⟩, ⟨fun b ob z n h1 h2 => ?_, fun b z => .inl ((same b).1 z), dom⟩⟩
  · obtain ⟨l1, l2, ⟨oc, l3⟩, vs, k1, k2⟩ := w.glo.hand x c z
    rw [lx]
    have nx : x ≠ a := fun y => nL (y ▸ (w.hand0 x c z).1)
    have nc : c ≠ a := fun y => l2 (.inr (by rw [y]; exact ow))
    exact ⟨l1, l2, ⟨oc, by rw [upd_ne nc]; exact l3⟩, vs, by rw [upd_ne nx]; exact k1, k2.keeps (only_keeps fun o e _ => by rw [upd_ne nc]; exact e)⟩
  · intro p hp
    obtain ⟨ps, k1, k2, k3⟩ := w.glo.tabs p hp
    have nt : ∀ b ob, H b = some ob → ¬ mutO ob → b ≠ a := fun b ob y m z => by
      subst z
      rw [hoa] at y; cases y; exact m hma
    refine ⟨ps, by rw [upd_ne (nt _ _ k1 id)]; exact k1, k2, fun pos cv z => ?_⟩
    obtain ⟨c, c1, c2⟩ := k3 pos cv z
    exact ⟨c, c1, by rw [upd_ne (nt _ _ c2 (by unfold LamX.CodeO; exact id))]; exact c2⟩
  · rw [lx] at l
    by_cases c : b = a
    · subst c; exact ⟨o, upd_same, hm⟩
    · obtain ⟨ob, k1, k2⟩ := w.glo.lok b l
      exact ⟨ob, by rw [upd_ne c]; exact k1, k2⟩
  · rw [lx, hv]
    rcases set_get z with ⟨q1, q2⟩ | ⟨q1, q2⟩
    · cases q2
    · exact w.sh j d1 q2
  · rw [lx, hv]
    rcases set_get z with ⟨q1, q2⟩ | ⟨nj, q2⟩
    · subst q1; cases q2; exact ⟨a, e2, q, n0⟩
    · obtain ⟨b, k1, k2, k3⟩ := w.own j d1 q2
      have nb : b ≠ a := fun y => by
        subst y
        exact nj (w.apart j i b d1 d q2 e k1 e2)
      exact ⟨b, k1, k2.keeps (fun _ _ y _ => y) (fun o y _ => by rw [upd_ne nb]; exact y), k3⟩
  · have f : ∀ (j : Nat) (d1 : D), (ρ.set i (.own d'))[j]? = some (.own d1) → ∃ d2, ρ[j]? = some (.own d2) := fun j d1 z => by
      rcases set_get z with ⟨q1, q2⟩ | ⟨q1, q2⟩
      · subst q1; exact ⟨d, e⟩
      · exact ⟨d1, q2⟩
    obtain ⟨d3, f1⟩ := f j d1 e5
    obtain ⟨d4, f2⟩ := f k d2 e6
    exact w.apart j k b d3 d4 f1 f2 e7 e8
  · have nb : b ≠ a := fun y => by subst y; rw [n0] at z; cases z
    rw [upd_ne nb]
    exact w.ext.keep b ob z h1 h2
  · have nb : b ≠ a := fun y => n (y ▸ ow)
    rw [upd_ne nb]
    exact z
end
end VL

set_option Elab.async false
set_option linter.all false
set_option maxRecDepth 100000
set_option maxHeartbeats 4000000
/-! VL9: stores, targets, calls of an own list's method, for, while. -/
namespace VL
open PySem PySem.Spec PyProof.Rows L2
section
variable {T : PP} {X : Cx} {W : WX} {ah : Option (Addr × Addr)} {L0 : Addr → Prop} {H0 H H1 H2 : Hp} {σ σ1 σ2 : L2.St} {ρ ρ1 ρ2 : SEnv} {h h1 : List D}
/-- what others see stands through a step -/
theorem Step.keeps (s : SRel T X.K X.mg ah L0 H0 σ H ρ h) (t : Step ah σ H ρ σ1 H1 ρ1) : Keeps (hide H (Lx L0 σ ρ)) (hide H1 (Lx L0 σ1 ρ1)) := fun b o e n => by
  obtain ⟨q1, q2⟩ := of_hide e
  rw [hide_out fun z => ?_]
  · exact t.keep b o q2 (fun z => q1 (.inr z)) (fun c z => q1 (.inl (s.hand0 b c z).1)) n
  · rcases z with z | z
    · exact q1 (.inl z)
    · rcases t.own b z with z | z
      · exact q1 (.inr z)
      · rw [q2] at z; cases z
/-! ### targets -/
abbrev GM := D → SEnv → Option SEnv
abbrev GsM := List D → SEnv → Option SEnv
def VG (T : PP) (X : Cx) (tg : Expr) (gm : GM) : Prop :=
  ∃ g, PG X tg g ∧ ∀ ah L0 H0 σ H ρ h v d ρ1 Q, SRel T X.K X.mg ah L0 H0 σ H ρ h → Rep (kf T X) X.mg ah (hide H (Lx L0 σ ρ)) v d → gm d ρ = some ρ1 →
    (∀ σ1, SRel T X.K X.mg ah L0 H0 σ1 H ρ1 h → Step ah σ H ρ σ1 H ρ1 → Q σ1 H) → g v σ H Q
def VGs (T : PP) (X : Cx) (tgs : List Expr) (gm : GsM) : Prop :=
  ∃ g, PGs X tgs g ∧ ∀ ah L0 H0 σ H ρ h v d ρ1 Q, SRel T X.K X.mg ah L0 H0 σ H ρ h → RepAll (kf T X) X.mg ah (hide H (Lx L0 σ ρ)) v d → gm d ρ = some ρ1 →
    (∀ σ1, SRel T X.K X.mg ah L0 H0 σ1 H ρ1 h → Step ah σ H ρ σ1 H ρ1 → Q σ1 H) → g v σ H Q
def gNm (i : Nat) : GM := fun d ρ => some (ρ.set i (.sh d))
theorem vg_name {i : Nat} {x : Str} {pos} (hN : X.N.Nodup) (hi : X.N[i]? = some x) (hx : Loc X.env.scope x) (hf : X.fn x = true ∨ X.env.scope.names.lookup x = some .local := by first | exact .inl rfl | exact .inr rfl | assumption) : VG T X (.Name x pos) (gNm i) :=
  ⟨_, pg_name hN hi hx hf, fun ah L0 H0 σ H ρ h v d ρ1 Q s r e k => by
    cases e
    exact k _ (s.set_sh r) (Step.set_any fun d e => by cases e)⟩
def gsN : GsM := fun ds ρ => match ds with
  | [] => some ρ
  | _ => none
def gsC (a : GM) (b : GsM) : GsM := fun ds ρ => match ds with
  | d :: ds => (a d ρ).bind fun ρ1 => b ds ρ1
  | [] => none
theorem vgs_nil : VGs T X [] gsN := ⟨_, pgs_nil, fun ah L0 H0 σ H ρ h v d ρ1 Q s r e k => by
  cases r with
  | nil => cases e; exact ⟨rfl, k σ s .refl⟩
  | cons _ _ => cases e⟩
theorem vgs_cons {e : Expr} {es : List Expr} {a : GM} {b : GsM} (ha : VG T X e a) (hb : VGs T X es b)
    (hs : (assignEach (e :: es) X.env).map (·.2) = assign e X.env :: (assignEach es X.env).map (·.2) := by rfl) : VGs T X (e :: es) (gsC a b) := by
  obtain ⟨ga, pa, qa⟩ := ha
  obtain ⟨gb, pb, qb⟩ := hb
  refine ⟨_, pgs_cons pa pb hs, fun ah L0 H0 σ H ρ h v d ρ2 Q s r e k => ?_⟩
  cases r with
  | nil => cases e
  | cons r1 r2 =>
    rename_i v vs d ds
    have e' : (a d ρ).bind (fun ρ1 => b ds ρ1) = some ρ2 := e
    cases q : a d ρ with
    | none => rw [q] at e'; cases e'
    | some ρ1 =>
      rw [q] at e'
      exact ⟨v, vs, rfl, qa ah L0 H0 σ H ρ h v d ρ1 _ s r1 q fun σ1 s1 t1 => qb ah L0 H0 σ1 H ρ1 h vs ds ρ2 _ s1 (r2.keeps (Step.keeps s t1)) e' fun σ2 s2 t2 => k σ2 s2 (t1.trans t2)⟩
def gTu (n : Nat) (b : GsM) : GM := fun d ρ => match d with
  | .tup ds => if ds.length = n then b ds ρ else none
  | _ => none
theorem vg_tup {es : List Expr} {k : Nat} {pos} {n : Nat} {b : GsM} (hc : X.calm = true) (hb : VGs T X es b) (hn : (assignEach es X.env).length = n := by rfl) (hst : (assignEach es X.env).findIdx? (·.1) = none := by rfl) : VG T X (.Tuple es k pos) (gTu n b) := by
  obtain ⟨gb, pb, qb⟩ := hb
  refine ⟨_, pg_tup hc pb hn hst, fun ah L0 H0 σ H ρ h v d ρ1 Q s r e k => ?_⟩
  cases r with
  | tup h1 h2 =>
    rename_i a vs ds
    have e' : (if ds.length = n then b ds ρ else none) = some ρ1 := e
    split at e'
    · rename_i hl
      exact ⟨a, vs, rfl, SqT.hide h1.sq, by rw [h2.length]; exact hl, qb ah L0 H0 σ H ρ h vs ds ρ1 Q s h2 e' k⟩
    · cases e'
  | _ => cases e
/-! ### stores of what may be shared -/
def bindG (gm : GM) (d : D) (ρ : SEnv) (h : List D) : SOut := match gm d ρ with
  | some ρ1 => .nx ρ1 h
  | none => .stuck
def setM (gm : GM) (m : EM D) : SM := fun ρ h => onE (m (shr ρ) h) ρ fun d h1 => bindG gm d ρ h1
def setFM (gm : GM) (m : EM D) : SM := fun ρ h => onE (m (full ρ) h) ρ fun d h1 => if immD d = true then bindG gm d ρ h1 else .stuck
theorem bindG_run {tg : Expr} {gm : GM} {g : TG} {v : V} {d : D} {D : Ends} (hg : ∀ ah L0 H0 σ H ρ h v d ρ1 Q, SRel T X.K X.mg ah L0 H0 σ H ρ h → Rep (kf T X) X.mg ah (hide H (Lx L0 σ ρ)) v d → gm d ρ = some ρ1 →
    (∀ σ1, SRel T X.K X.mg ah L0 H0 σ1 H ρ1 h → Step ah σ H ρ σ1 H ρ1 → Q σ1 H) → g v σ H Q) (s : SRel T X.K X.mg ah L0 H0 σ H ρ h) (r : Rep (kf T X) X.mg ah (hide H (Lx L0 σ ρ)) v d) (p : SPost T X W ah L0 H0 σ H ρ D (bindG gm d ρ h)) : g v σ H D.nx := by
  unfold bindG at p
  cases q : gm d ρ with
  | none => rw [q] at p; exact p.elim
  | some ρ1 =>
    rw [q] at p
    exact hg ah L0 H0 σ H ρ h v d ρ1 _ s r q fun σ1 s1 t1 => p σ1 H s1 t1
section
variable {tg e : Expr} {gm : GM} {m : EM D} {st : Stmt}
theorem vs_setG (ps : ∀ te g, PE X e te → PG X tg g → PS X st (tAsg te g)) (hg : VG T X tg gm) (he : VE T X W e m) : VS T X W st (setM gm m) := by
  obtain ⟨g, pg, qg⟩ := hg
  obtain ⟨t, pt, qt⟩ := he
  refine ⟨_, ps _ _ pt pg, fun ah L0 H0 σ H ρ h D s p => ?_⟩
  refine qt ah _ σ H (shr ρ) h _ s.vshr (onE_shr s p fun d h1 v H1 e1 g1 r1 s1 p1 => ?_)
  exact bindG_run (tg := tg) qg s1 r1 p1
theorem vs_setFG (ps : ∀ te g, PE X e te → PG X tg g → PS X st (tAsg te g)) (hg : VG T X tg gm) (he : VE T X W e m) : VS T X W st (setFM gm m) := by
  obtain ⟨g, pg, qg⟩ := hg
  obtain ⟨t, pt, qt⟩ := he
  refine ⟨_, ps _ _ pt pg, fun ah L0 H0 σ H ρ h D s p => ?_⟩
  refine qt ah _ σ H (full ρ) h _ s.vfull (onE_full s p fun d h1 v H1 e1 g1 r1 s1 p1 => ?_)
  by_cases c : immD d = true
  · rw [if_pos c] at p1
    exact bindG_run (tg := tg) qg s1 (r1.imm (hide_T s1.glo.lok) c) p1
  · rw [if_neg c] at p1; exact p1.elim
variable {pos : Pos}
/-- x = e, (a, b) = e -/
theorem vs_set (hg : VG T X tg gm) (he : VE T X W e m) (hs : swapsWithSole [tg] e pos.line X.env = pure false := by rfl) (hw : swappedStores [tg] e X.env = pure none := by rfl) (h1 : (assignEach [tg] X.env).map (·.2) = [assign tg X.env] := by rfl) :
    VS T X W (.Assign [tg] e pos) (setM gm m) := vs_setG (fun te g a b => ps_asg a b hs hw h1) hg he
theorem vs_setF (hg : VG T X tg gm) (he : VE T X W e m) (hs : swapsWithSole [tg] e pos.line X.env = pure false := by rfl) (hw : swappedStores [tg] e X.env = pure none := by rfl) (h1 : (assignEach [tg] X.env).map (·.2) = [assign tg X.env] := by rfl) :
    VS T X W (.Assign [tg] e pos) (setFM gm m) := vs_setFG (fun te g a b => ps_asg a b hs hw h1) hg he
end
/-! ### an expression as a statement -/
def dropM (m : EM D) : SM := fun ρ h => onE (m (full ρ) h) ρ fun _ h1 => .nx ρ h1
theorem vs_expr {e : Expr} {pos : Pos} {m : EM D} (he : VE T X W e m) (hs : swapsWith e none pos.line X.env = pure false := by rfl) : VS T X W (.Expr e pos) (dropM m) := by
  obtain ⟨t, pt, qt⟩ := he
  refine ⟨_, ps_expr pt hs, fun ah L0 H0 σ H ρ h D s p => ?_⟩
  exact qt ah _ σ H (full ρ) h _ s.vfull (onE_full s p fun d h1 v H1 e1 g1 r1 s1 p1 => p1 σ H1 s1 .refl)
theorem vs_doc {x j pos pos'} : VS T X W (.Expr (.Constant (.str x) j pos) pos') skipM := ⟨_, ps_doc, fun ah L0 H0 σ H ρ h D s p => p σ H s .refl⟩
/-! ### a slot's own list is given up -/
def disE (i : Nat) (ρ : SEnv) : SEnv := match ρ[i]? with
  | some (.own d) => ρ.set i (.sh d)
  | _ => ρ
def disM (i : Nat) (m : SM) : SM := fun ρ h => m (disE i ρ) h
theorem set_self {α : Type} {l : List α} {i : Nat} {x : α} (h : l[i]? = some x) : l.set i x = l := by
  apply List.ext_getElem?
  intro j
  by_cases c : j = i
  · subst c
    rw [List.getElem?_set_self (List.getElem?_eq_some_iff.mp h).1, h]
  · rw [set_ne c]
theorem SRel.dis (s : SRel T X.K X.mg ah L0 H0 σ H ρ h) (i : Nat) : SRel T X.K X.mg ah L0 H0 σ H (disE i ρ) h ∧ Step ah σ H ρ σ H (disE i ρ) := by
  unfold disE
  split
  · rename_i d e
    obtain ⟨a, q1, q2, n⟩ := s.own i d e
    have ow : Own σ ρ a := ⟨i, d, e, q1⟩
    have sub : ∀ b, Lx L0 σ (ρ.set i (.sh d)) b → Lx L0 σ ρ b := fun b z => z.imp id fun ⟨j, d', e1, e2⟩ => by
      rcases set_get e1 with ⟨y1, y2⟩ | ⟨y1, y2⟩
      · cases y2
      · exact ⟨j, d', y2, e2⟩
    have na : ¬ Lx L0 σ (ρ.set i (.sh d)) a := fun z => by
      rcases z with z | ⟨j, d', e1, e2⟩
      · obtain ⟨o, e5, _⟩ := s.lok0 a z
        rw [n] at e5; cases e5
      · rcases set_get e1 with ⟨y1, y2⟩ | ⟨y1, y2⟩
        · cases y2
        · exact y1 (s.apart j i a d' d y2 e e2 q1)
    have kp : Keeps (hide H (Lx L0 σ ρ)) (hide H (Lx L0 σ (ρ.set i (.sh d)))) := hide_mono sub
    refine ⟨⟨by rw [List.length_set]; exact s.len, s.glo.swap (fun b l => s.glo.lok b (sub b l)) fun x c e => ⟨.inl (s.hand0 x c e).1, fun z => (s.handx x c e).2 (sub c z)⟩, fun j d' z => ?_, fun j d' z => ?_, fun j k b d1 d2 e5 e6 e7 e8 => ?_, s.ext, s.lok0, s.hand0⟩, ⟨fun b o e1 _ _ _ => e1, fun b z => ?_, fun b e1 => e1⟩⟩
    · rcases set_get z with ⟨y1, y2⟩ | ⟨y1, y2⟩
      · cases y2
        subst y1
        refine ⟨_, q1, q2.rep kp fun o e1 m => ?_⟩
        rw [hide_out na]; exact e1
      · obtain ⟨v, k1, k2⟩ := s.sh j d' y2
        exact ⟨v, k1, k2.keeps kp⟩
    · rcases set_get z with ⟨y1, y2⟩ | ⟨y1, y2⟩
      · cases y2
      · obtain ⟨b, k1, k2, k3⟩ := s.own j d' y2
        exact ⟨b, k1, k2.keeps kp (fun o e1 _ => e1), k3⟩
    · rcases set_get e5 with ⟨y1, y2⟩ | ⟨y1, y2⟩
      · cases y2
      · rcases set_get e6 with ⟨y3, y4⟩ | ⟨y3, y4⟩
        · cases y4
        · exact s.apart j k b d1 d2 y2 y4 e7 e8
    · obtain ⟨j, d', e1, e2⟩ := z
      rcases set_get e1 with ⟨y1, y2⟩ | ⟨y1, y2⟩
      · cases y2
      · exact .inl ⟨j, d', y2, e2⟩
  · exact ⟨s, .refl⟩
theorem VS.dis {st : Stmt} {m : SM} (i : Nat) (hv : VS T X W st m) : VS T X W st (disM i m) := by
  obtain ⟨t, p, q⟩ := hv
  refine ⟨t, p, fun ah L0 H0 σ H ρ h D s w => ?_⟩
  obtain ⟨s1, t1⟩ := s.dis i
  exact q ah L0 H0 σ H _ h D s1 (SPost.step w t1)
/-! ### for -/
/-- an iterator walks over these items, wherever the view V stands -/
def ItOk (T : PP) (X : Cx) (ah : Option (Addr × Addr)) (J : It) (V : Hp) (ds : List D) : Prop :=
  ∀ H2 L2, Keeps V (hide H2 L2) → LOk H2 L2 → ∀ i, (∀ d, ds[i]? = some d → J.go i H2 ∧ ∀ x H', J.yld i H2 x H' → Same H2 H' ∧ Rep (kf T X) X.mg ah (hide H' L2) x d) ∧ (i = ds.length → J.stop i H2)
abbrev RI (T : PP) (X : Cx) (ah : Option (Addr × Addr)) (L : Addr → Prop) : Hp → It → List D → Prop := fun H J ds => ItOk T X ah J (hide H L) ds
/-- .. whatever the heap -/
abbrev RIf (T : PP) (X : Cx) (ah : Option (Addr × Addr)) : Hp → It → List D → Prop := fun _ J ds => ∀ V, ItOk T X ah J V ds
def VI (T : PP) (X : Cx) (W : WX) (tg e : Expr) (m : EM (List D)) : Prop :=
  ∃ t, PI X tg e t ∧ ∀ (ah : Option (Addr × Addr)) L σ H ρ h Q, View T X ah L σ H ρ h → Post T X W ah L σ H (RI T X ah L) (m ρ h) Q → t σ H Q
def VIf (T : PP) (X : Cx) (W : WX) (tg e : Expr) (m : EM (List D)) : Prop :=
  ∃ t, PI X tg e t ∧ ∀ (ah : Option (Addr × Addr)) L σ H ρ h Q, View T X ah L σ H ρ h → Post T X W ah L σ H (RIf T X ah) (m ρ h) Q → t σ H Q
def forL (gm : GM) (b : SM) : List D → SM
  | [] => skipM
  | d :: ds => fun ρ h => match gm d ρ with
    | none => .stuck
    | some ρ1 => match b ρ1 h with
      | .nx ρ2 h2 => forL gm b ds ρ2 h2
      | .ct ρ2 h2 => forL gm b ds ρ2 h2
      | .brk ρ2 h2 => .nx ρ2 h2
      | o => o
def forM (gm : GM) (mi : EM (List D)) (b : SM) : SM := fun ρ h => onE (mi (shr ρ) h) ρ fun ds h1 => forL gm b ds ρ h1
def forFM (gm : GM) (mi : EM (List D)) (b : SM) : SM := fun ρ h => onE (mi (full ρ) h) ρ fun ds h1 => forL gm b ds ρ h1
theorem for_run {gm : GM} {g : TG} {b : SM} {tb : TS} {J : It} {ds : List D} {D : Ends} (qg : ∀ ah L0 H0 σ H ρ h v d ρ1 Q, SRel T X.K X.mg ah L0 H0 σ H ρ h → Rep (kf T X) X.mg ah (hide H (Lx L0 σ ρ)) v d → gm d ρ = some ρ1 →
    (∀ σ1, SRel T X.K X.mg ah L0 H0 σ1 H ρ1 h → Step ah σ H ρ σ1 H ρ1 → Q σ1 H) → g v σ H Q)
    (qb : ∀ ah L0 H0 σ H ρ h D, SRel T X.K X.mg ah L0 H0 σ H ρ h → SPost T X W ah L0 H0 σ H ρ D (b ρ h) → tb D σ H)
    {V : Hp} (hV : Keeps V (hide H (Lx L0 σ ρ))) (hJ : ItOk T X ah J V ds) (s : SRel T X.K X.mg ah L0 H0 σ H ρ h) (p : SPost T X W ah L0 H0 σ H ρ D (forL gm b ds ρ h)) :
    ∃ W : Nat → Nat → L2.St → Hp → Prop, (∃ m, W 0 m σ H) ∧ ∀ i m σ H, W i m σ H →
      (J.stop i H ∧ D.nx σ H) ∨ (J.go i H ∧ ∃ N : L2.St → Hp → Prop, (∀ σ' H', N σ' H' → ∃ m', m' < m ∧ W (i + 1) m' σ' H') ∧ ∀ x H', J.yld i H x H' → g x σ H' fun σ2 H2 => tb { D with nx := N, ct := N, bk := D.nx } σ2 H2) := by
  refine ⟨fun i m σ1 H1 => ∃ ρ1 h1, m = ds.length - i ∧ i ≤ ds.length ∧ SRel T X.K X.mg ah L0 H0 σ1 H1 ρ1 h1 ∧ Step ah σ H ρ σ1 H1 ρ1 ∧ SPost T X W ah L0 H0 σ1 H1 ρ1 D (forL gm b (ds.drop i) ρ1 h1), ⟨_, ρ, h, rfl, Nat.zero_le _, s, .refl, p⟩, ?_⟩
  rintro i m σ1 H1 ⟨ρ1, h1, rfl, hi, s1, t1, p1⟩
  have k1 : Keeps V (hide H1 (Lx L0 σ1 ρ1)) := fun x o e n => (Step.keeps s t1) x o (hV x o e n) n
  obtain ⟨j1, j2⟩ := hJ H1 _ k1 s1.glo.lok i
  cases q : ds[i]? with
  | none =>
    have hl : ds.length ≤ i := by rw [List.getElem?_eq_none_iff] at q; exact q
    left
    refine ⟨j2 (Nat.le_antisymm hi hl), ?_⟩
    rw [List.drop_eq_nil_of_le hl] at p1
    exact p1 σ1 H1 s1 .refl
  | some d =>
    right
    obtain ⟨j3, j4⟩ := j1 d q
    have hlt : i < ds.length := (List.getElem?_eq_some_iff.mp q).1
    have hd : ds.drop i = d :: ds.drop (i + 1) := by
      rw [List.drop_eq_getElem_cons hlt, (List.getElem?_eq_some_iff.mp q).2]
    rw [hd] at p1
    refine ⟨j3, fun σ2 H2 => ∃ ρ2 h2, SRel T X.K X.mg ah L0 H0 σ2 H2 ρ2 h2 ∧ Step ah σ H ρ σ2 H2 ρ2 ∧ SPost T X W ah L0 H0 σ2 H2 ρ2 D (forL gm b (ds.drop (i + 1)) ρ2 h2), fun σ2 H2 ⟨ρ2, h2, a1, a2, a3⟩ => ⟨ds.length - (i + 1), by omega, ρ2, h2, rfl, hlt, a1, a2, a3⟩, fun x H2 y => ?_⟩
    obtain ⟨sm, rx⟩ := j4 x H2 y
    have s2 : SRel T X.K X.mg ah L0 H0 σ1 H2 ρ1 h1 := s1.up (.same sm) (s1.glo0.same sm)
    have t2 : Step ah σ1 H1 ρ1 σ1 H2 ρ1 := .up (.same sm)
    have p2 : SPost T X W ah L0 H0 σ1 H2 ρ1 D (forL gm b (d :: ds.drop (i + 1)) ρ1 h1) := SPost.step p1 t2
    unfold forL at p2
    cases qd : gm d ρ1 with
    | none => rw [qd] at p2; exact p2.elim
    | some ρ3 =>
      rw [qd] at p2
      dsimp only at p2
      refine qg ah L0 H0 σ1 H2 ρ1 h1 x d ρ3 _ s2 rx qd fun σ3 s3 t3 => ?_
      refine qb ah L0 H0 σ3 H2 ρ3 h1 _ s3 ?_
      have p3 := SPost.step p2 t3
      have T3 : Step ah σ H ρ σ3 H2 ρ3 := (t1.trans t2).trans t3
      cases qo : b ρ3 h1 with
      | nx ρ4 h4 =>
        rw [qo] at p3
        exact fun σ4 H4 s4 t4 => ⟨ρ4, h4, s4, T3.trans t4, SPost.step p3 t4⟩
      | ct ρ4 h4 =>
        rw [qo] at p3
        exact fun σ4 H4 s4 t4 => ⟨ρ4, h4, s4, T3.trans t4, SPost.step p3 t4⟩
      | brk ρ4 h4 => rw [qo] at p3; exact p3
      | ret d h4 => rw [qo] at p3; exact p3
      | err c ρ4 h4 => rw [qo] at p3; exact p3
      | stuck => rw [qo] at p3; exact p3
theorem vs_for {tg e : Expr} {body : List Stmt} {pos : Pos} {gm : GM} {mi : EM (List D)} {b : SM} (hp : PassesOwn (model X.prog X.w) X.A X.env X.xe) (hc : X.calm = true) (hi : VI T X W tg e mi) (hg : VG T X tg gm) (hb : VSs T X W body b)
    (hs : ∀ x, foldedSetIterable e X.env x = pure x := by intro _; rfl) : VS T X W (.For tg e body [] pos) (forM gm mi b) := by
  obtain ⟨ti, pi, qi⟩ := hi
  obtain ⟨g, pg, qg⟩ := hg
  obtain ⟨tb, pb, qb⟩ := hb
  refine ⟨_, ps_for hp hc pi pg pb hs, fun ah L0 H0 σ H ρ h D s p => ?_⟩
  exact qi ah _ σ H (shr ρ) h _ s.vshr (onE_shr s p fun ds h1 J H1 e1 g1 r1 s1 p1 => for_run qg qb (fun _ _ e _ => e) r1 s1 p1)
theorem vs_forF {tg e : Expr} {body : List Stmt} {pos : Pos} {gm : GM} {mi : EM (List D)} {b : SM} (hp : PassesOwn (model X.prog X.w) X.A X.env X.xe) (hc : X.calm = true) (hi : VIf T X W tg e mi) (hg : VG T X tg gm) (hb : VSs T X W body b)
    (hs : ∀ x, foldedSetIterable e X.env x = pure x := by intro _; rfl) : VS T X W (.For tg e body [] pos) (forFM gm mi b) := by
  obtain ⟨ti, pi, qi⟩ := hi
  obtain ⟨g, pg, qg⟩ := hg
  obtain ⟨tb, pb, qb⟩ := hb
  refine ⟨_, ps_for hp hc pi pg pb hs, fun ah L0 H0 σ H ρ h D s p => ?_⟩
  exact qi ah _ σ H (full ρ) h _ s.vfull (onE_full s p fun ds h1 J H1 e1 g1 r1 s1 p1 => for_run qg qb (fun _ _ e _ => e) (r1 _) s1 p1)
/-! ### while -/
def wL (c : EM Bool) (b : SM) : Nat → SM
  | 0 => fun _ _ => .stuck
  | n + 1 => fun ρ h => onE (c (full ρ) h) ρ fun k h1 => if k = true then (match b ρ h1 with
      | .nx ρ2 h2 => wL c b n ρ2 h2
      | .ct ρ2 h2 => wL c b n ρ2 h2
      | .brk ρ2 h2 => .nx ρ2 h2
      | o => o) else .nx ρ h1
open Classical in
noncomputable def whM (c : EM Bool) (b : SM) : SM := fun ρ h => if q : ∃ n, wL c b n ρ h ≠ .stuck then wL c b q.choose ρ h else .stuck
theorem wL_mono {c : EM Bool} {b : SM} : ∀ (n k : Nat) (ρ : SEnv) (h : List D), wL c b n ρ h ≠ .stuck → wL c b (n + k) ρ h = wL c b n ρ h
  | 0, k, ρ, h, e => (e rfl).elim
  | n + 1, k, ρ, h, e => by
    rw [show n + 1 + k = (n + k) + 1 by omega]
    unfold wL at e ⊢
    cases q : c (full ρ) h with
    | ok a h1 =>
      rw [q] at e
      cases a with
      | false => rfl
      | true =>
        simp only [onE, if_true] at e ⊢
        cases q2 : b ρ h1 with
        | nx ρ2 h2 => rw [q2] at e; exact wL_mono n k ρ2 h2 e
        | ct ρ2 h2 => rw [q2] at e; exact wL_mono n k ρ2 h2 e
        | _ => rfl
    | err c h1 => rfl
    | stuck => rfl
theorem wL_eq {c : EM Bool} {b : SM} {n m : Nat} {ρ : SEnv} {h : List D} (hn : wL c b n ρ h ≠ .stuck) (hm : wL c b m ρ h ≠ .stuck) : wL c b n ρ h = wL c b m ρ h := by
  rcases Nat.le_total n m with l | l
  · obtain ⟨k, rfl⟩ := Nat.le.dest l
    exact (wL_mono n k ρ h hn).symm
  · obtain ⟨k, rfl⟩ := Nat.le.dest l
    exact wL_mono m k ρ h hm
theorem whM_of {c : EM Bool} {b : SM} {n : Nat} {ρ : SEnv} {h : List D} (e : wL c b n ρ h ≠ .stuck) : whM c b ρ h = wL c b n ρ h := by
  have q : ∃ n, wL c b n ρ h ≠ .stuck := ⟨n, e⟩
  unfold whM
  rw [dif_pos q]
  exact wL_eq q.choose_spec e
theorem whM_to {c : EM Bool} {b : SM} {ρ : SEnv} {h : List D} (e : whM c b ρ h ≠ .stuck) : ∃ n, whM c b ρ h = wL c b n ρ h := by
  unfold whM at e ⊢
  split
  · rename_i q; exact ⟨_, rfl⟩
  · rename_i q; rw [dif_neg q] at e; exact (e rfl).elim
/-- the loop, turn by turn -/
theorem whM_eq (c : EM Bool) (b : SM) (ρ : SEnv) (h : List D) : whM c b ρ h = onE (c (full ρ) h) ρ fun k h1 => if k = true then (match b ρ h1 with
      | .nx ρ2 h2 => whM c b ρ2 h2
      | .ct ρ2 h2 => whM c b ρ2 h2
      | .brk ρ2 h2 => .nx ρ2 h2
      | o => o) else .nx ρ h1 := by
  have one : ∀ n, wL c b (n + 1) ρ h = onE (c (full ρ) h) ρ fun k h1 => if k = true then (match b ρ h1 with
      | .nx ρ2 h2 => wL c b n ρ2 h2
      | .ct ρ2 h2 => wL c b n ρ2 h2
      | .brk ρ2 h2 => .nx ρ2 h2
      | o => o) else .nx ρ h1 := fun n => rfl
  cases q : c (full ρ) h with
  | err c1 h1 => 
    have z := one 0
    rw [q] at z
    rw [whM_of (n := 1) (by rw [z]; intro y; cases y), z]; rfl
  | stuck =>
    refine Classical.byContradiction fun y => ?_
    obtain ⟨n, e⟩ := whM_to (c := c) (b := b) (ρ := ρ) (h := h) (fun z => y (by rw [z]; rfl))
    cases n with
    | zero => exact y (by rw [e]; rfl)
    | succ n => rw [one n, q] at e; exact y (by rw [e]; rfl)
  | ok a h1 =>
    cases a with
    | false =>
      have z := one 0
      rw [q] at z
      simp only [onE] at z
      rw [whM_of (n := 1) (by rw [z]; intro y; cases y), z]; rfl
    | true =>
      simp only [onE, if_true]
      have on : ∀ n, wL c b (n + 1) ρ h = (match b ρ h1 with
          | .nx ρ2 h2 => wL c b n ρ2 h2
          | .ct ρ2 h2 => wL c b n ρ2 h2
          | .brk ρ2 h2 => .nx ρ2 h2
          | o => o) := fun n => by rw [one n, q]; simp only [onE, if_true]
      have key : ∀ ρ2 h2, (∀ n, wL c b (n + 1) ρ h = wL c b n ρ2 h2) → whM c b ρ h = whM c b ρ2 h2 := fun ρ2 h2 f => by
        by_cases y : ∃ n, wL c b n ρ2 h2 ≠ .stuck
        · obtain ⟨n, y⟩ := y
          rw [whM_of y, whM_of (n := n + 1) (by rw [f n]; exact y), f n]
        · have y1 : whM c b ρ2 h2 = .stuck := by unfold whM; rw [dif_neg y]
          rw [y1]
          refine Classical.byContradiction fun z => ?_
          obtain ⟨n, e⟩ := whM_to z
          cases n with
          | zero => exact z e
          | succ n => exact y ⟨n, by rw [← f n, ← e]; exact z⟩
      have key2 : ∀ o, o ≠ SOut.stuck → (∀ n, wL c b (n + 1) ρ h = o) → whM c b ρ h = o := fun o y f => by rw [whM_of (n := 1) (by rw [f 0]; exact y), f 0]
      cases q2 : b ρ h1 with
      | nx ρ2 h2 => exact key ρ2 h2 fun n => by rw [on n, q2]
      | ct ρ2 h2 => exact key ρ2 h2 fun n => by rw [on n, q2]
      | brk ρ2 h2 => exact key2 _ (fun y => by cases y) fun n => by rw [on n, q2]
      | ret d h2 => exact key2 _ (fun y => by cases y) fun n => by rw [on n, q2]
      | err c ρ2 h2 => exact key2 _ (fun y => by cases y) fun n => by rw [on n, q2]
      | stuck =>
        refine Classical.byContradiction fun z => ?_
        obtain ⟨n, e⟩ := whM_to (c := c) (b := b) (ρ := ρ) (h := h) z
        cases n with
        | zero => exact z e
        | succ n => exact z (by rw [e, on n, q2])
theorem vs_while {c : Expr} {body : List Stmt} {pos : Pos} {mc : EM Bool} {b : SM} (hp : PassesOwn (model X.prog X.w) X.A X.env X.xe) (hc : VT T X W c mc) (hb : VSs T X W body b) : VS T X W (.While c body [] pos) (whM mc b) := by
  obtain ⟨tc, pc, qc⟩ := hc
  obtain ⟨tb, pb, qb⟩ := hb
  refine ⟨_, ps_while hp pc pb, fun ah L0 H0 σ H ρ h D s p => ?_⟩
  have ns : whM mc b ρ h ≠ .stuck := fun z => by rw [z] at p; exact p
  obtain ⟨n, e⟩ := whM_to ns
  rw [e] at p
  refine ⟨fun m σ1 H1 => ∃ ρ1 h1, SRel T X.K X.mg ah L0 H0 σ1 H1 ρ1 h1 ∧ Step ah σ H ρ σ1 H1 ρ1 ∧ SPost T X W ah L0 H0 σ1 H1 ρ1 D (wL mc b m ρ1 h1), ⟨n, ρ, h, s, .refl, p⟩, ?_⟩
  rintro m σ1 H1 ⟨ρ1, h1, s1, t1, p1⟩
  cases m with
  | zero => exact p1.elim
  | succ m =>
    refine qc ah _ σ1 H1 (full ρ1) h1 _ s1.vfull (onE_full s1 p1 fun k h2 v H2 e2 g2 r2 s2 p2 => ?_)
    cases r2
    have t2 : Step ah σ H ρ σ1 H2 ρ1 := t1.trans (.up e2)
    cases k with
    | false => exact p2 σ1 H2 s2 .refl
    | true =>
      refine ⟨fun σ3 H3 => ∃ ρ3 h3, SRel T X.K X.mg ah L0 H0 σ3 H3 ρ3 h3 ∧ Step ah σ H ρ σ3 H3 ρ3 ∧ SPost T X W ah L0 H0 σ3 H3 ρ3 D (wL mc b m ρ3 h3), fun σ3 H3 q => ⟨m, Nat.lt_succ_self m, q⟩, qb ah L0 H0 σ1 H2 ρ1 h2 _ s2 ?_⟩
      rw [if_pos rfl] at p2
      cases qo : b ρ1 h2 with
      | nx ρ4 h4 => rw [qo] at p2; exact fun σ4 H4 s4 t4 => ⟨ρ4, h4, s4, t2.trans t4, SPost.step p2 t4⟩
      | ct ρ4 h4 => rw [qo] at p2; exact fun σ4 H4 s4 t4 => ⟨ρ4, h4, s4, t2.trans t4, SPost.step p2 t4⟩
      | brk ρ4 h4 => rw [qo] at p2; exact p2
      | ret d h4 => rw [qo] at p2; exact p2
      | err c ρ4 h4 => rw [qo] at p2; exact p2
      | stuck => rw [qo] at p2; exact p2
end
end VL

set_option Elab.async false
set_option linter.all false
set_option maxRecDepth 100000
set_option maxHeartbeats 4000000
/-! VL10: new lists and dicts, what an own slot's list can be told, the hand's cells. -/
namespace VL
open PySem PySem.Spec PyProof.Rows L2
/-- a new list or dict -/
abbrev RN (T : PP) (X : Cx) (ah : Option (Addr × Addr)) (L : Addr → Prop) (H : Hp) : Hp → V → D → Prop := fun H1 v d => ∃ p, v = .ref p ∧ H p = none ∧ OwnAt (kf T X) X.mg ah (hide H1 fun b => L b ∨ b = p) H1 p d
def VN (T : PP) (X : Cx) (W : WX) (e : Expr) (m : EM D) : Prop :=
  ∃ t, PE X e t ∧ ∀ (ah : Option (Addr × Addr)) L σ H ρ h Q, View T X ah L σ H ρ h → Post T X W ah L σ H (RN T X ah L H) (m ρ h) Q → t σ H Q
def immO : D → Bool
  | .lst xs => immAll xs
  | .dK kvs => immAll (kvs.map (·.2))
  | _ => false
theorem zip_snd {α β : Type} : ∀ {a : List α} {b : List β}, a.length = b.length → (a.zip b).map (·.2) = b
  | [], [], _ => rfl
  | _ :: a, _ :: b, h => by
    rw [List.zip_cons_cons, List.map_cons, zip_snd (by simpa using h)]
theorem OwnAt.imm {K : RK} {mg : Str → Option Value} {ah : Option (Addr × Addr)} {V V' H : Hp} {a : Addr} {d : D} (k : KeepsT V V') (c : immO d = true) (h : OwnAt K mg ah V H a d) : OwnAt K mg ah V' H a d := by
  cases d with
  | lst xs => obtain ⟨vs, h1, h2⟩ := h; exact ⟨vs, h1, h2.imm k c⟩
  | dK kvs =>
    obtain ⟨ks, vs, ds, rfl, h2, h3, h4⟩ := h
    have c' : immAll ((ks.zip ds).map (·.2)) = true := c
    rw [zip_snd (by rw [h2, h4.length])] at c'
    exact ⟨ks, vs, ds, rfl, h2, h3, h4.imm k c'⟩
  | _ => exact h.elim
section
variable {T : PP} {X : Cx} {W : WX} {ah : Option (Addr × Addr)} {L0 L : Addr → Prop} {H0 H H1 H2 : Hp} {σ σ1 σ2 : L2.St} {ρ ρ1 ρ2 : SEnv} {h h1 : List D}
theorem RN.rep {v : V} {d : D} (g : Glo T X ah L H1 h1) (s : Ext ah H H1) (lk : LOk H L) (r : RN T X ah L H H1 v d) : Rep (kf T X) X.mg ah (hide H1 L) v d := by
  obtain ⟨p, rfl, hp, q⟩ := r
  refine q.rep (hide_mono fun a z => .inl z) fun o e _ => ?_
  rw [hide_out (lk.new hp)]; exact e
theorem VN.ve {e : Expr} {m : EM D} (h : VN T X W e m) : VE T X W e m := by
  obtain ⟨t, p, q⟩ := h
  refine ⟨t, p, fun ah L σ H ρ h Q w z => q ah L σ H ρ h Q w ?_⟩
  cases e1 : m ρ h with
  | ok a h1 => rw [e1] at z; exact fun v H1 e g r => z v H1 e g (RN.rep g e w.glo.lok r)
  | err c h1 => rw [e1] at z; exact z
  | stuck => rw [e1] at z; exact z
/-! ### an expression within a statement, the step not yet taken -/
theorem onE_full0 {α β : Type} {o : Out α} {f : α → List D → SOut} {D : Ends} {R : Hp → β → α → Prop} {Q : β → Hp → Prop} (s : SRel T X.K X.mg ah L0 H0 σ H ρ h) (p : SPost T X W ah L0 H0 σ H ρ D (onE o ρ f))
    (k : ∀ a h1 v H1, Ext ah H H1 → GloK T X.K X.mg ah L0 H1 h1 → R H1 v a → SRel T X.K X.mg ah L0 H0 σ H1 ρ h1 → SPost T X W ah L0 H0 σ H ρ D (f a h1) → Q v H1) : Post T X W ah L0 σ H R o Q := by
  cases o with
  | ok a h1 => exact fun v H1 e g r => k a h1 v H1 e g r (s.up e g) p
  | err c h1 => exact fun cls dx H1 e g r => p cls dx σ H1 (s.up e g) (.up e) r
  | stuck => exact p
theorem onE_shr0 {α β : Type} {o : Out α} {f : α → List D → SOut} {D : Ends} {R : Hp → β → α → Prop} {Q : β → Hp → Prop} (s : SRel T X.K X.mg ah L0 H0 σ H ρ h) (p : SPost T X W ah L0 H0 σ H ρ D (onE o ρ f))
    (k : ∀ a h1 v H1, Ext ah H H1 → GloK T X.K X.mg ah (Lx L0 σ ρ) H1 h1 → R H1 v a → SRel T X.K X.mg ah L0 H0 σ H1 ρ h1 → SPost T X W ah L0 H0 σ H ρ D (f a h1) → Q v H1) : Post T X W ah (Lx L0 σ ρ) σ H R o Q := by
  have g0 : ∀ {H1 h1}, GloK T X.K X.mg ah (Lx L0 σ ρ) H1 h1 → GloK T X.K X.mg ah L0 H1 h1 := fun g => g.swap (fun a l => g.lok a (.inl l)) fun a c e => ⟨(s.hand0 a c e).1, (s.hand0 a c e).2.1⟩
  cases o with
  | ok a h1 => exact fun v H1 e g r => k a h1 v H1 e g r (s.up e (g0 g)) p
  | err c h1 => exact fun cls dx H1 e g r => p cls dx σ H1 (s.up e (g0 g)) (.up e) r
  | stuck => exact p
/-- a new list or dict goes into slot i -/
theorem SRel.put_new {p : Addr} {i : Nat} {d : D} (s : SRel T X.K X.mg ah L0 H0 σ H ρ h) (e : Ext ah H H1) (s1 : SRel T X.K X.mg ah L0 H0 σ H1 ρ h1) (hp : H p = none) (q : OwnAt (kfK T X.K) X.mg ah (hide H1 fun b => Lx L0 σ ρ b ∨ b = p) H1 p d) :
    SRel T X.K X.mg ah L0 H0 (σ.set i (some (.ref p))) H1 (ρ.set i (.own d)) h1 ∧ Step ah σ H ρ (σ.set i (some (.ref p))) H1 (ρ.set i (.own d)) := by
  have kp : Keeps (hide H (Lx L0 σ ρ)) (hide H1 fun b => Lx L0 σ ρ b ∨ b = p) := fun b o z n => by
    obtain ⟨z1, z2⟩ := of_hide z
    rw [hide_out fun y => y.elim z1 fun y => by rw [y, hp] at z2; cases z2]
    exact e.keep b o z2 (fun c y => z1 (.inl (s.hand0 b c y).1)) n
  have nown : ¬ Own σ ρ p := fun ⟨j, d', e1, e2⟩ => by
    obtain ⟨a, k1, k2, _⟩ := s.own j d' e1
    rw [e2] at k1; cases k1
    obtain ⟨o, k3, _⟩ := k2.mut
    rw [hp] at k3; cases k3
  refine ⟨s1.set_own nown (s.ext.dom p hp) q (.inr ⟨fun j d' e1 => ?_, fun j d' a e1 e2 => ?_⟩), ⟨fun b o z n h1 h2 => e.keep b o z h1 h2, fun a z => ?_, e.dom⟩⟩
  · obtain ⟨v, k1, k2⟩ := s.sh j d' e1
    exact ⟨v, k1, k2.keeps kp⟩
  · obtain ⟨a', k1, k2, k3⟩ := s.own j d' e1
    rw [e2] at k1; cases k1
    refine k2.keeps kp fun o z n => e.keep a o z (fun c y => ?_) n
    obtain ⟨o', e5, _⟩ := s.lok0 a (s.hand0 a c y).1
    rw [k3] at e5; cases e5
  · obtain ⟨j, d', e1, e2⟩ := z
    rcases set_get e1 with ⟨y1, y2⟩ | ⟨y1, y2⟩
    · subst y1
      rcases set_get e2 with ⟨_, y4⟩ | ⟨y3, _⟩
      · cases y4; exact .inr hp
      · exact (y3 rfl).elim
    · rw [set_ne y1] at e2
      exact .inl ⟨j, d', y2, e2⟩
def setNM (i : Nat) (m : EM D) : SM := fun ρ h => onE (m (shr ρ) h) ρ fun d h1 => .nx (ρ.set i (.own d)) h1
def setNFM (i : Nat) (m : EM D) : SM := fun ρ h => onE (m (full ρ) h) ρ fun d h1 => if immO d = true then .nx (ρ.set i (.own d)) h1 else .stuck
theorem vs_setNG {e : Expr} {m : EM D} {st : Stmt} {i : Nat} (ps : ∀ te, PE X e te → PS X st (tAsg te (gName i))) (he : VN T X W e m) : VS T X W st (setNM i m) := by
  obtain ⟨t, pt, qt⟩ := he
  refine ⟨_, ps _ pt, fun ah L0 H0 σ H ρ h D s p => ?_⟩
  refine qt ah _ σ H (shr ρ) h _ s.vshr (onE_shr0 s p fun d h1 v H1 e1 g1 r1 s1 p1 => ?_)
  obtain ⟨q, rfl, hq, r⟩ := r1
  obtain ⟨z1, z2⟩ := SRel.put_new (i := i) s e1 s1 hq r
  exact p1 _ H1 z1 z2
theorem vs_setNFG {e : Expr} {m : EM D} {st : Stmt} {i : Nat} (ps : ∀ te, PE X e te → PS X st (tAsg te (gName i))) (he : VN T X W e m) : VS T X W st (setNFM i m) := by
  obtain ⟨t, pt, qt⟩ := he
  refine ⟨_, ps _ pt, fun ah L0 H0 σ H ρ h D s p => ?_⟩
  refine qt ah _ σ H (full ρ) h _ s.vfull (onE_full0 s p fun d h1 v H1 e1 g1 r1 s1 p1 => ?_)
  obtain ⟨q, rfl, hq, r⟩ := r1
  by_cases c : immO d = true
  · rw [if_pos c] at p1
    have lk : LOk H1 (fun b => Lx L0 σ ρ b ∨ b = q) := fun b z => by
      rcases z with z | z
      · exact s1.glo.lok b z
      · subst z; exact r.mut
    obtain ⟨z1, z2⟩ := SRel.put_new (i := i) s e1 s1 hq (r.imm (hide_T lk) c)
    exact p1 _ H1 z1 z2
  · rw [if_neg c] at p1; exact p1.elim
section
variable {e : Expr} {m : EM D} {i : Nat} {x : Str} {pos' pos : Pos}
theorem vs_setN (hN : X.N.Nodup) (hi : X.N[i]? = some x) (hx : Loc X.env.scope x) (he : VN T X W e m) (hs : swapsWith e (some (.Name x pos')) pos.line X.env = pure false := by rfl) (hf : X.fn x = true ∨ X.env.scope.names.lookup x = some .local := by first | exact .inl rfl | exact .inr rfl | assumption) :
    VS T X W (.Assign [.Name x pos'] e pos) (setNM i m) := vs_setNG (fun te h => ps_set hN hi hx h hs hf) he
theorem vs_setNF (hN : X.N.Nodup) (hi : X.N[i]? = some x) (hx : Loc X.env.scope x) (he : VN T X W e m) (hs : swapsWith e (some (.Name x pos')) pos.line X.env = pure false := by rfl) (hf : X.fn x = true ∨ X.env.scope.names.lookup x = some .local := by first | exact .inl rfl | exact .inr rfl | assumption) :
    VS T X W (.Assign [.Name x pos'] e pos) (setNFM i m) := vs_setNFG (fun te h => ps_set hN hi hx h hs hf) he
end
/-! ### displays are new -/
theorem vn_lst {es : List Expr} {pos} {m : EM (List D)} (ha : VA T X W es m) : VN T X W (.List es pos) (lstM m) := by
  obtain ⟨ta, pa, qa⟩ := ha
  refine ⟨_, pe_lst pa, fun ah L σ H ρ h Q w p => ?_⟩
  refine qa ah L σ H ρ h _ w (Post.seq p fun ds h1 vs H1 e1 g1 r1 p1 => ?_)
  obtain ⟨c, p1⟩ := p1.iff
  refine ⟨by rw [r1.length]; exact of_decide_eq_true c, fun q hq => ?_⟩
  have s := same_upd (o := .lst vs) hq
  refine p1 _ _ (.same s) (g1.same s) ⟨q, rfl, e1.dom q hq, vs, upd_same, r1.keeps fun b o e n => ?_⟩
  obtain ⟨z1, z2⟩ := of_hide e
  have nq : b ≠ q := ne_of_none z2 hq
  rw [hide_out fun z => z.elim z1 nq, upd_ne nq]
  exact z2
def newKM : EM D := fun _ h => .ok (.dK []) h
theorem vn_newK {pos} : VN T X W (.Dict [] [] pos) newKM := ⟨_, pe_dnewK, fun ah L σ H ρ h Q w p q hq => by
  have s := same_upd (o := .dK []) hq
  exact p _ _ (.same s) (w.glo.same s) ⟨q, rfl, hq, [], [], [], rfl, rfl, upd_same, .nil⟩⟩
/-! ### what an own slot's list can be told -/
def OwnF (T : PP) (X : Cx) (Ty id : String) (f : (D → Bool) → D → List D → Option (D × D)) : Prop := ∃ r, MtR X id r ∧
  ∀ (ah : Option (Addr × Addr)) L L' (c : D → Bool) H a d ds vs d' res Q, L a → LOk H L' → (∀ v d, c d = true → Rep (kf T X) X.mg ah (hide H L') v d → Rep (kf T X) X.mg ah (hide H L) v d) → OwnAt (kf T X) X.mg ah (hide H L) H a d →
    RepAll (kf T X) X.mg ah (hide H L') vs ds → f c d ds = some (d', res) →
    (∀ o v, mutO o → OwnAt (kf T X) X.mg ah (hide H L) (upd H a o) a d' → Rep (kf T X) X.mg ah (hide H L) v res → Q v (upd H a o)) → r (.ref a) vs H Q
def isTy (Ty : String) : D → Bool
  | .lst _ => Ty == "list"
  | .dK _ => Ty == "dict"
  | _ => false
theorem tyV_own {Ty : String} {V : Hp} {a : Addr} {d : D} (hT : Ty = "list" ∨ Ty = "dict") (c : isTy Ty d = true) (q : OwnAt (kf T X) X.mg ah V H a d) : tyV X.K Ty (.ref a) H := by
  cases d with
  | lst xs =>
    obtain ⟨vs, h1, h2⟩ := q
    exact .inl ⟨eq_of_beq c, vs, SqL.of h1⟩
  | dK kvs =>
    obtain ⟨ks, vs, ds, h1, h2, h3, h4⟩ := q
    exact .inr (.inr (.inl ⟨eq_of_beq c, .inl ⟨_, h3⟩⟩))
  | _ => cases c
abbrev KM := D → SM
def kDrop : KM := fun _ ρ h => .nx ρ h
def kSet (gm : GM) : KM := fun d ρ h => bindG gm d ρ h
def owM (Ty : String) (i : Nat) (f : (D → Bool) → D → List D → Option (D × D)) (ma : EM (List D)) (k : KM) : SM := fun ρ h => match ρ[i]? with
  | some (.own d) => if isTy Ty d = true then onE (ma (shr ρ) h) ρ fun ds h1 => (match f (fun _ => true) d ds with
    | some (d', r) => k r (ρ.set i (.own d')) h1
    | none => .stuck) else .stuck
  | _ => .stuck
def owFM (Ty : String) (i : Nat) (f : (D → Bool) → D → List D → Option (D × D)) (ma : EM (List D)) (k : KM) : SM := fun ρ h => match ρ[i]? with
  | some (.own d) => if isTy Ty d = true then onE (ma (full ρ) h) ρ fun ds h1 => (match f immD d ds with
    | some (d', r) => k r (ρ.set i (.own d')) h1
    | none => .stuck) else .stuck
  | _ => .stuck
theorem ow_run {Ty : String} {r : V → List V → Hp → VK → Prop} {f : (D → Bool) → D → List D → Option (D × D)} {ta : TA} {i : Nat} {kk : KM} {D : Ends} {ma : EM (List VL.D)} (hT : Ty = "list" ∨ Ty = "dict")
    (qf : ∀ (ah : Option (Addr × Addr)) L L' (c : VL.D → Bool) H a d ds vs d' res Q, L a → LOk H L' → (∀ v d, c d = true → Rep (kf T X) X.mg ah (hide H L') v d → Rep (kf T X) X.mg ah (hide H L) v d) → OwnAt (kf T X) X.mg ah (hide H L) H a d →
      RepAll (kf T X) X.mg ah (hide H L') vs ds → f c d ds = some (d', res) → (∀ o v, mutO o → OwnAt (kf T X) X.mg ah (hide H L) (upd H a o) a d' → Rep (kf T X) X.mg ah (hide H L) v res → Q v (upd H a o)) → r (.ref a) vs H Q)
    (qa : ∀ (ah : Option (Addr × Addr)) L σ H ρ h Q, View T X ah L σ H ρ h → Post T X W ah L σ H (RA T X ah L) (ma ρ h) Q → ta σ H Q)
    (s : SRel T X.K X.mg ah L0 H0 σ H ρ h) (Q : VK) (p : SPost T X W ah L0 H0 σ H ρ D (owM Ty i f ma kk ρ h) ∨ SPost T X W ah L0 H0 σ H ρ D (owFM Ty i f ma kk ρ h))
    (hk : ∀ v H2 res ρ2 h2, SRel T X.K X.mg ah L0 H0 σ H2 ρ2 h2 → Rep (kf T X) X.mg ah (hide H2 (Lx L0 σ ρ2)) v res → SPost T X W ah L0 H0 σ H2 ρ2 D (kk res ρ2 h2) → Q v H2) : tBM X.K Ty r (tVar i) ta σ H Q := by
  have one : ∃ d, ρ[i]? = some (.own d) ∧ isTy Ty d = true := by
    rcases p with p | p
    · unfold owM at p
      split at p
      · rename_i d e
        split at p
        · rename_i c; exact ⟨d, e, c⟩
        · exact p.elim
      · exact p.elim
    · unfold owFM at p
      split at p
      · rename_i d e
        split at p
        · rename_i c; exact ⟨d, e, c⟩
        · exact p.elim
      · exact p.elim
  obtain ⟨d, e, c⟩ := one
  obtain ⟨a, q1, q2, q3⟩ := s.own i d e
  refine ⟨_, q1, tyV_own hT c q2, ?_⟩
  have fin : ∀ (L' : Addr → Prop) (ch : VL.D → Bool) ds h1 vs H1, Ext ah H H1 → SRel T X.K X.mg ah L0 H0 σ H1 ρ h1 → LOk H1 L' → (∀ v d, ch d = true → Rep (kf T X) X.mg ah (hide H1 L') v d → Rep (kf T X) X.mg ah (hide H1 (Lx L0 σ ρ)) v d) →
      RepAll (kf T X) X.mg ah (hide H1 L') vs ds → SPost T X W ah L0 H0 σ H1 ρ D (match f ch d ds with
        | some (d', r) => kk r (ρ.set i (.own d')) h1
        | none => .stuck) → r (.ref a) vs H1 Q := by
    intro L' ch ds h1 vs H1 e1 s1 lk tr ra pp
    cases qd : f ch d ds with
    | none => rw [qd] at pp; exact pp.elim
    | some z =>
      obtain ⟨d', res⟩ := z
      rw [qd] at pp
      obtain ⟨a', y1, y2, y3⟩ := s1.own i d e
      rw [q1] at y1; cases y1
      refine qf ah (Lx L0 σ ρ) L' ch H1 a d ds vs d' res Q (.inr ⟨i, d, e, q1⟩) lk tr y2 ra qd fun o v hm ow rv => ?_
      obtain ⟨w1, w2⟩ := s1.own_upd e q1 hm ow
      refine hk v _ res _ h1 w1 ?_ (SPost.step pp w2)
      have same : ∀ b, Lx L0 σ (ρ.set i (.own d')) b → Lx L0 σ ρ b := fun b z => z.imp id fun ⟨j, d1, e3, e4⟩ => by
        rcases set_get e3 with ⟨u1, u2⟩ | ⟨u1, u2⟩
        · subst u1; exact ⟨j, d, e, e4⟩
        · exact ⟨j, d1, u2, e4⟩
      refine rv.keeps fun b o' z n => ?_
      obtain ⟨z1, z2⟩ := of_hide z
      rw [hide_out fun y => z1 (same b y), upd_ne]
      · exact z2
      · intro y
        subst y
        exact z1 (.inr ⟨i, d, e, q1⟩)
  rcases p with p | p
  · unfold owM at p
    rw [e] at p
    dsimp only at p
    rw [if_pos c] at p
    exact qa ah _ σ H (shr ρ) h _ s.vshr (onE_shr s p fun ds h1 vs H1 e1 g1 r1 s1 p1 => fin (Lx L0 σ ρ) _ ds h1 vs H1 e1 s1 s1.glo.lok (fun v d _ r => r) r1 p1)
  · unfold owFM at p
    rw [e] at p
    dsimp only at p
    rw [if_pos c] at p
    exact qa ah _ σ H (full ρ) h _ s.vfull (onE_full s p fun ds h1 vs H1 e1 g1 r1 s1 p1 => fin L0 _ ds h1 vs H1 e1 s1 g1.lok (fun v d c r => r.imm (hide_T s1.glo.lok) c) r1 p1)
section
variable {Ty id : String} {f : (D → Bool) → D → List D → Option (D × D)} {o : Expr} {name : Str} {args : List Expr} {apos cpos pos : Pos} {i : Nat} {ma : EM (List D)} {st : Stmt}
/-- the call of a slot's own method, as an expression whose reading is known -/
def OC (X : Cx) (Ty id : String) (e : Expr) (args : List Expr) (i : Nat) : Prop := ∀ r ta, MtR X id r → PA X args ta → PE X e (tBM X.K Ty r (tVar i) ta)
theorem vs_ow (full : Bool) (hT : Ty = "list" ∨ Ty = "dict") (hf : OwnF T X Ty id f) {e : Expr} (oc : OC X Ty id e args i) (ha : VA T X W args ma) (hs : swapsWith e none pos.line X.env = pure false := by rfl) :
    VS T X W (.Expr e pos) (if full = true then owFM Ty i f ma kDrop else owM Ty i f ma kDrop) := by
  obtain ⟨r, mr, qf⟩ := hf
  obtain ⟨ta, pa, qa⟩ := ha
  refine ⟨_, ps_expr (oc r ta mr pa) hs, fun ah L0 H0 σ H ρ h D s p => ?_⟩
  refine ow_run (kk := kDrop) (D := D) (W := W) hT qf qa s _ ?_ fun v H2 res ρ2 h2 s2 r2 p2 => p2 σ H2 s2 .refl
  cases full with
  | true => exact .inr p
  | false => exact .inl p
theorem vs_owSet (full : Bool) (hT : Ty = "list" ∨ Ty = "dict") (hf : OwnF T X Ty id f) {e tg : Expr} {gm : GM} (oc : OC X Ty id e args i) (ha : VA T X W args ma) (hg : VG T X tg gm)
    (hs : swapsWithSole [tg] e pos.line X.env = pure false := by rfl) (hw : swappedStores [tg] e X.env = pure none := by rfl) (h1 : (assignEach [tg] X.env).map (·.2) = [assign tg X.env] := by rfl) :
    VS T X W (.Assign [tg] e pos) (if full = true then owFM Ty i f ma (kSet gm) else owM Ty i f ma (kSet gm)) := by
  obtain ⟨r, mr, qf⟩ := hf
  obtain ⟨ta, pa, qa⟩ := ha
  obtain ⟨g, pg, qg⟩ := hg
  refine ⟨_, ps_asg (oc r ta mr pa) pg hs hw h1, fun ah L0 H0 σ H ρ h D s p => ?_⟩
  refine ow_run (kk := kSet gm) (D := D) (W := W) hT qf qa s _ ?_ fun v H2 res ρ2 h2 s2 r2 p2 => bindG_run (tg := tg) qg s2 r2 p2
  cases full with
  | true => exact .inr p
  | false => exact .inl p
end
/-! ### list.append, extend, pop, insert -/
def appF (c : D → Bool) (d : D) (ds : List D) : Option (D × D) := match d, ds with
  | .lst xs, [x] => if xs.length < sizeLine ∧ c x = true then some (.lst (xs ++ [x]), .non) else none
  | _, _ => none
theorem of_append : OwnF T X "list" "list.append" appF := ⟨_, mt_append, fun ah L L' c H a d ds vs d' res Q la lk tr ow ra e k => by
  match d, ds, ow, ra, e with
  | .lst xs, [x], ow, ra, e =>
    have e' : (if xs.length < sizeLine ∧ c x = true then some (D.lst (xs ++ [x]), D.non) else none) = some (d', res) := e
    split at e'
    · rename_i cc
      cases e'
      obtain ⟨us, h1, h2⟩ := ow
      obtain ⟨v, rfl, r1⟩ := one_of ra
      exact ⟨a, us, v, rfl, rfl, h1, by rw [h2.length]; exact cc.1, k (.lst (us ++ [v])) .non trivial ⟨_, upd_same, h2.append (.one (tr v x cc.2 r1))⟩ .non⟩
    · cases e'⟩
def extF (c : D → Bool) (d : D) (ds : List D) : Option (D × D) := match d, ds with
  | .lst xs, [.lst ys] => if xs.length + ys.length ≤ sizeLine ∧ ys.all c = true then some (.lst (xs ++ ys), .non) else none
  | _, _ => none
theorem RepAll.tr {K : RK} {mg : Str → Option Value} {V V' : Hp} {c : D → Bool} (tr : ∀ v d, c d = true → Rep K mg ah V v d → Rep K mg ah V' v d) : ∀ {vs : List L2.V} {ds : List D}, ds.all c = true → RepAll K mg ah V vs ds → RepAll K mg ah V' vs ds
  | _, _, _, .nil => .nil
  | _, _, e, .cons r t => by
    rw [List.all_cons, Bool.and_eq_true] at e
    exact .cons (tr _ _ e.1 r) (RepAll.tr tr e.2 t)
theorem of_extend : OwnF T X "list" "list.extend" extF := ⟨_, mt_extend, fun ah L L' c H a d ds vs d' res Q la lk tr ow ra e k => by
  match d, ds, ow, ra, e with
  | .lst xs, [.lst ys], ow, ra, e =>
    have e' : (if xs.length + ys.length ≤ sizeLine ∧ ys.all c = true then some (D.lst (xs ++ ys), D.non) else none) = some (d', res) := e
    split at e'
    · rename_i cc
      cases e'
      obtain ⟨us, h1, h2⟩ := ow
      obtain ⟨v, rfl, r1⟩ := one_of ra
      cases r1 with
      | lst k1 k2 =>
        exact ⟨a, _, us, _, rfl, rfl, h1, (of_hide k1).2, by rw [h2.length, k2.length]; exact cc.1, k (.lst (us ++ _)) .non trivial ⟨_, upd_same, h2.append (RepAll.tr tr cc.2 k2)⟩ .non⟩
    · cases e'⟩
def popF (c : D → Bool) (d : D) (ds : List D) : Option (D × D) := match d, ds with
  | .lst xs, [] => (xs[xs.length - 1]?).map fun x => (.lst xs.dropLast, x)
  | .lst xs, [.int i] => if -(2 ^ 63) ≤ i ∧ i < 2 ^ 63 then (seqIndex? i xs.length).bind fun j => (xs[j]?).map fun x => (.lst (xs.eraseIdx j), x) else none
  | _, _ => none
theorem RepAll.erase {K : RK} {mg : Str → Option Value} {V : Hp} : ∀ {vs : List L2.V} {ds : List D} (j : Nat), RepAll K mg ah V vs ds → RepAll K mg ah V (vs.eraseIdx j) (ds.eraseIdx j)
  | _, _, _, .nil => .nil
  | _, _, 0, .cons r t => t
  | _, _, j + 1, .cons r t => .cons r (RepAll.erase j t)
theorem RepAll.dropLast {K : RK} {mg : Str → Option Value} {V : Hp} {vs : List L2.V} {ds : List D} (h : RepAll K mg ah V vs ds) : RepAll K mg ah V vs.dropLast ds.dropLast := by
  rw [List.dropLast_eq_take, List.dropLast_eq_take, h.length]
  exact h.take _
theorem MtR.or {id : String} {r r' : V → List V → Hp → VK → Prop} (h : MtR X id r) (h' : MtR X id r') : MtR X id (fun x xs H Q => r x xs H Q ∨ r' x xs H Q) := fun pins s σ H x xs v us Q I rx rv q => q.elim (h pins s σ H x xs v us Q I rx rv) (h' pins s σ H x xs v us Q I rx rv)
theorem of_pop : OwnF T X "list" "list.pop" popF := ⟨_, MtR.or mt_pop mt_popAt, fun ah L L' c H a d ds vs d' res Q la lk tr ow ra e k => by
  match d, ds, ow, ra, e with
  | .lst xs, [], ow, ra, e =>
    obtain ⟨us, h1, h2⟩ := ow
    cases ra
    have e' : (xs[xs.length - 1]?).map (fun x => (D.lst xs.dropLast, x)) = some (d', res) := e
    cases q : xs[xs.length - 1]? with
    | none => rw [q] at e'; cases e'
    | some x =>
      rw [q] at e'; cases e'
      obtain ⟨v, y1, y2⟩ := h2.get q
      exact .inl ⟨a, us, v, rfl, rfl, h1, by rw [h2.length]; exact y1, k (.lst us.dropLast) v trivial ⟨_, upd_same, h2.dropLast⟩ y2⟩
  | .lst xs, [.int i], ow, ra, e =>
    obtain ⟨us, h1, h2⟩ := ow
    obtain ⟨v0, rfl, r1⟩ := one_of ra
    cases r1
    have e' : (if -(2 ^ 63) ≤ i ∧ i < 2 ^ 63 then (seqIndex? i xs.length).bind fun j => (xs[j]?).map fun x => (D.lst (xs.eraseIdx j), x) else none) = some (d', res) := e
    split at e'
    · rename_i cc
      cases q : seqIndex? i xs.length with
      | none => rw [q] at e'; cases e'
      | some j =>
        rw [q] at e'
        have e2 : (xs[j]?).map (fun x => (D.lst (xs.eraseIdx j), x)) = some (d', res) := e'
        cases q2 : xs[j]? with
        | none => rw [q2] at e2; cases e2
        | some x =>
          rw [q2] at e2; cases e2
          obtain ⟨v, y1, y2⟩ := h2.get q2
          exact .inr ⟨a, us, i, j, v, rfl, rfl, h1, cc.1, cc.2, by rw [h2.length]; exact q, y1, k (.lst (us.eraseIdx j)) v trivial ⟨_, upd_same, h2.erase j⟩ y2⟩
    · cases e'⟩
def insF (c : D → Bool) (d : D) (ds : List D) : Option (D × D) := match d, ds with
  | .lst xs, [.int i, x] => if xs.length < sizeLine ∧ 0 ≤ i ∧ i < 2 ^ 63 ∧ c x = true then some (.lst (xs.take i.toNat ++ [x] ++ xs.drop i.toNat), .non) else none
  | _, _ => none
theorem of_insert : OwnF T X "list" "list.insert" insF := ⟨_, mt_insert, fun ah L L' c H a d ds vs d' res Q la lk tr ow ra e k => by
  match d, ds, ow, ra, e with
  | .lst xs, [.int i, x], ow, ra, e =>
    have e' : (if xs.length < sizeLine ∧ 0 ≤ i ∧ i < 2 ^ 63 ∧ c x = true then some (D.lst (xs.take i.toNat ++ [x] ++ xs.drop i.toNat), D.non) else none) = some (d', res) := e
    split at e'
    · rename_i cc
      cases e'
      obtain ⟨us, h1, h2⟩ := ow
      obtain ⟨v0, v, rfl, r0, r1⟩ := two_of ra
      cases r0
      exact ⟨a, us, i, v, rfl, rfl, h1, by rw [h2.length]; exact cc.1, cc.2.1, cc.2.2.1, k (.lst _) .non trivial ⟨_, upd_same, ((h2.take _).append (.one (tr v x cc.2.2.2 r1))).append (h2.drop _)⟩ .non⟩
    · cases e'⟩
end
end VL

set_option Elab.async false
set_option linter.all false
set_option maxRecDepth 100000
set_option maxHeartbeats 4000000
/-! VL11: x[i] = e on an own slot, the hand's cells, op=, pairs stored at once. -/
namespace VL
open PySem PySem.Spec PyProof.Rows L2
def dput {κ : Type} [DecidableEq κ] (kvs : List (κ × D)) (k : κ) (v : D) : List (κ × D) :=
  if (kvs.any fun kv => decide (kv.1 = k)) = true then kvs.map (fun kv => if kv.1 = k then (kv.1, v) else kv) else kvs ++ [(k, v)]
section
variable {K : RK} {mg : Str → Option Value} {ah : Option (Addr × Addr)} {V : Hp}
theorem any_zip {κ α β : Type} [DecidableEq κ] (k : κ) : ∀ {ks : List κ} {vs : List α} {ds : List β}, ks.length = vs.length → vs.length = ds.length → ((ks.zip vs).any fun kv => decide (kv.1 = k)) = (ks.zip ds).any fun kv => decide (kv.1 = k)
  | [], [], [], _, _ => rfl
  | a :: ks, v :: vs, d :: ds, h1, h2 => by
    rw [List.zip_cons_cons, List.zip_cons_cons, List.any_cons, List.any_cons, any_zip k (ks := ks) (vs := vs) (ds := ds) (by simpa using h1) (by simpa using h2)]
theorem dput_rep {κ : Type} [DecidableEq κ] {ks : List κ} {vs : List L2.V} {ds : List D} {k : κ} {v : L2.V} {d : D} (hl : ks.length = vs.length) (r : RepAll K mg ah V vs ds) (rv : Rep K mg ah V v d) :
    ∃ (ks' : List κ) (vs' : List L2.V) (ds' : List D), dput (ks.zip ds) k d = ks'.zip ds' ∧ putK (ks.zip vs) k v = ks'.zip vs' ∧ ks'.length = vs'.length ∧ RepAll K mg ah V vs' ds' := by
  have ea := any_zip k hl r.length
  by_cases c : ((ks.zip ds).any fun kv => decide (kv.1 = k)) = true
  · have go : ∀ {ks : List κ} {vs : List L2.V} {ds : List D}, ks.length = vs.length → RepAll K mg ah V vs ds → ∃ (vs' : List L2.V) (ds' : List D), (ks.zip ds).map (fun kv => if kv.1 = k then (kv.1, d) else kv) = ks.zip ds' ∧ (ks.zip vs).map (fun kv => if kv.1 = k then (kv.1, v) else kv) = ks.zip vs' ∧ ks.length = vs'.length ∧ RepAll K mg ah V vs' ds' := by
      intro ks
      induction ks with
      | nil => intro vs ds h1 h2; exact ⟨[], [], rfl, rfl, rfl, .nil⟩
      | cons a ks ih =>
        intro vs ds h1 h2
        cases h2 with
        | nil => cases h1
        | cons r1 r2 =>
          obtain ⟨vs', ds', e1, e2, e3, e4⟩ := ih (by simpa using h1) r2
          rename_i v1 vs1 d1 ds1
          by_cases z : a = k
          · exact ⟨v :: vs', d :: ds', by simp [z, e1], by simp [z, e2], by simp [e3], .cons rv e4⟩
          · exact ⟨v1 :: vs', d1 :: ds', by simp [z, e1], by simp [z, e2], by simp [e3], .cons r1 e4⟩
    obtain ⟨vs', ds', e1, e2, e3, e4⟩ := go hl r
    refine ⟨ks, vs', ds', ?_, ?_, e3, e4⟩
    · unfold dput; rw [if_pos c, e1]
    · unfold putK; rw [ea, if_pos c, e2]
  · refine ⟨ks ++ [k], vs ++ [v], ds ++ [d], ?_, ?_, by simp [hl], r.append (.one rv)⟩
    · unfold dput; rw [if_neg c, List.zip_append (by rw [hl, r.length])]; rfl
    · unfold putK; rw [ea, if_neg c, List.zip_append hl]; rfl
end
def putD (c : D → Bool) (d i x : D) : Option D := match d, i with
  | .lst xs, .int k => if c x = true then (ixN xs.length k).map fun j => .lst (xs.set j x) else none
  | .dK kvs, i => if kvs.length < sizeLine ∧ c x = true then (keyOf i).map fun k => .dK (dput kvs k x) else none
  | _, _ => none
section
variable {T : PP} {X : Cx} {W : WX} {ah : Option (Addr × Addr)} {L0 L : Addr → Prop} {H0 H H1 H2 : Hp} {σ σ1 σ2 : L2.St} {ρ ρ1 ρ2 : SEnv} {h h1 : List D}
def rPut : V → V → V → Hp → (Hp → Prop) → Prop := fun o i v H Q => rSetL o i v H Q ∨ rSetD o i v H Q
theorem set_put (hu : X.A.units + 64 < cLine) : PSet X rPut := fun pins s σ H o i v ov iv u Q I ro ri rv q => q.elim (set_list pins s σ H o i v ov iv u Q I ro ri rv) (set_dict (by omega) pins s σ H o i v ov iv u Q I ro ri rv)
theorem put_run (hk : T.kc = false) {L' : Addr → Prop} {c : D → Bool} {a : Addr} {d i x d' : D} {iv v : V} {Q : Hp → Prop} (lk : LOk H L') (tr : ∀ v d, c d = true → Rep (kf T X) X.mg ah (hide H L') v d → Rep (kf T X) X.mg ah (hide H L) v d)
    (ow : OwnAt (kf T X) X.mg ah (hide H L) H a d) (ri : Rep (kf T X) X.mg ah (hide H L') iv i) (rx : Rep (kf T X) X.mg ah (hide H L') v x) (e : putD c d i x = some d')
    (q : ∀ o, mutO o → OwnAt (kf T X) X.mg ah (hide H L) (upd H a o) a d' → Q (upd H a o)) : rPut (.ref a) iv v H Q := by
  cases d with
  | lst xs =>
    cases i with
    | int k =>
      have e' : (if c x = true then (ixN xs.length k).map (fun j => D.lst (xs.set j x)) else none) = some d' := e
      split at e'
      · rename_i cc
        cases q1 : ixN xs.length k with
        | none => rw [q1] at e'; cases e'
        | some j =>
          rw [q1] at e'; cases e'
          obtain ⟨us, h1, h2⟩ := ow
          cases ri
          exact .inl ⟨a, us, k, j, rfl, rfl, h1, by rw [h2.length]; exact q1, q _ trivial ⟨_, upd_same, h2.set j (tr v x cc rx)⟩⟩
      · cases e'
    | _ => cases e
  | dK kvs =>
    obtain ⟨ks, vs, ds, rfl, hl, h3, h4⟩ := ow
    have e' : (if (ks.zip ds).length < sizeLine ∧ c x = true then (keyOf i).map (fun k => D.dK (dput (ks.zip ds) k x)) else none) = some d' := by cases i <;> exact e
    split at e'
    · rename_i cc
      cases q1 : keyOf i with
      | none => rw [q1] at e'; cases e'
      | some k =>
        rw [q1] at e'; cases e'
        have := keyOf_rep ri q1
        subst this
        obtain ⟨ks', vs', ds', e1, e2, e3, e4⟩ := dput_rep (k := k) hl h4 (tr v x cc.2 rx)
        refine .inr ⟨a, _, rfl, DPut.k h3 ?_, q _ trivial ?_⟩
        · have z := cc.1
          rw [List.length_zip] at z ⊢
          rw [h4.length]; exact z
        · exact ⟨ks', vs', ds', e1, e3, by rw [e2, upd_same], e4⟩
    · cases e'
  | _ => cases e
def putM (i : Nat) (mi mv : EM D) : SM := fun ρ h => match ρ[i]? with
  | some (.own d) => onE (mv (shr ρ) h) ρ fun x h1 => onE (mi (shr ρ) h1) ρ fun k h2 => (match putD (fun _ => true) d k x with
    | some d' => .nx (ρ.set i (.own d')) h2
    | none => .stuck)
  | _ => .stuck
def putFM (i : Nat) (mi mv : EM D) : SM := fun ρ h => match ρ[i]? with
  | some (.own d) => onE (mv (full ρ) h) ρ fun x h1 => onE (mi (full ρ) h1) ρ fun k h2 => (match putD immD d k x with
    | some d' => .nx (ρ.set i (.own d')) h2
    | none => .stuck)
  | _ => .stuck
theorem own_of {i : Nat} {f : VL.D → SOut} {D : Ends} (p : SPost T X W ah L0 H0 σ H ρ D (match ρ[i]? with
    | some (.own d) => f d
    | _ => .stuck)) : ∃ d, ρ[i]? = some (.own d) ∧ SPost T X W ah L0 H0 σ H ρ D (f d) := by
  split at p
  · rename_i d e; exact ⟨d, e, p⟩
  · exact p.elim
theorem put_fin (hk : T.kc = false) {i : Nat} {a : Addr} {D : Ends} {L' : Addr → Prop} {c : VL.D → Bool} {xv ix : V} {d x k : VL.D} {h2 : List VL.D} (e : ρ[i]? = some (.own d)) (s2 : SRel T X.K X.mg ah L0 H0 σ H2 ρ h2) (lk : LOk H2 L')
    (tr : ∀ v d, c d = true → Rep (kf T X) X.mg ah (hide H2 L') v d → Rep (kf T X) X.mg ah (hide H2 (Lx L0 σ ρ)) v d)
    (rx : Rep (kf T X) X.mg ah (hide H2 L') xv x) (rk : Rep (kf T X) X.mg ah (hide H2 L') ix k) (pp : SPost T X W ah L0 H0 σ H2 ρ D (match putD c d k x with
      | some d' => .nx (ρ.set i (.own d')) h2
      | none => .stuck)) (ea : σ[i]? = some (some (.ref a))) : rPut (.ref a) ix xv H2 fun H3 => D.nx σ H3 := by
  obtain ⟨a', y1, y2, y3⟩ := s2.own i d e
  rw [ea] at y1; cases y1
  cases q : putD c d k x with
  | none => rw [q] at pp; exact pp.elim
  | some d' =>
    rw [q] at pp
    refine put_run hk lk tr y2 rk rx q fun oo hm ow => ?_
    obtain ⟨w1, w2⟩ := s2.own_upd e ea hm ow
    exact pp σ _ w1 w2
section
variable {x : Str} {o ie ve : Expr} {tpos xpos pos : Pos} {i : Nat} {mi mv : EM D}
theorem vs_put (fl : Bool) (hk : T.kc = false) (hu : X.A.units + 64 < cLine) (ho : PE X o (tVar i)) (hi : VE T X W ie mi) (hv : VE T X W ve mv)
    (hs : swapsWithSole [.Subscript o ie tpos] ve pos.line X.env = pure false := by rfl) (hw : swappedStores [.Subscript o ie tpos] ve X.env = pure none := by rfl) (h1 : (assignEach [.Subscript o ie tpos] X.env).map (·.2) = [assign (.Subscript o ie tpos) X.env] := by rfl)
    (hg : ∀ v, assign (.Subscript o ie tpos) X.env v = (do
      let ov ← holding [v] (eval o X.env)
      let iv ← holding [v, ov] (eval ie X.env)
      standAt tpos
      holding [v, ov, iv] (setItem ov iv v)
      release [v, ov, iv] []) := by intro _; rfl) :
    VS T X W (.Assign [.Subscript o ie tpos] ve pos) (if fl = true then putFM i mi mv else putM i mi mv) := by
  obtain ⟨ti, pi, qi⟩ := hi
  obtain ⟨tv, pv, qv⟩ := hv
  refine ⟨_, ps_asg pv (pg_sub ho pi (set_put hu) hg) hs hw h1, fun ah L0 H0 σ H ρ h D s p => ?_⟩
  cases fl with
  | true =>
    have p' : SPost T X W ah L0 H0 σ H ρ D (putFM i mi mv ρ h) := p
    obtain ⟨d, ed, p'⟩ := own_of p'
    obtain ⟨a, ea, _⟩ := s.own i d ed
    refine qv ah _ σ H (full ρ) h _ s.vfull (onE_full s p' fun x h1 xv H1 e1 g1 r1 s1 p1 => ⟨_, ea, ?_⟩)
    refine qi ah _ σ H1 (full ρ) h1 _ s1.vfull (onE_full s1 p1 fun k h2 ix H2 e2 g2 r2 s2 p2 => ?_)
    exact put_fin hk ed s2 g2.lok (fun v d c r => r.imm (hide_T s2.glo.lok) c) (r1.keeps (e2.hide g1.hl)) r2 p2 ea
  | false =>
    have p' : SPost T X W ah L0 H0 σ H ρ D (putM i mi mv ρ h) := p
    obtain ⟨d, ed, p'⟩ := own_of p'
    obtain ⟨a, ea, _⟩ := s.own i d ed
    refine qv ah _ σ H (shr ρ) h _ s.vshr (onE_shr s p' fun x h1 xv H1 e1 g1 r1 s1 p1 => ⟨_, ea, ?_⟩)
    refine qi ah _ σ H1 (shr ρ) h1 _ s1.vshr (onE_shr s1 p1 fun k h2 ix H2 e2 g2 r2 s2 p2 => ?_)
    exact put_fin hk ed s2 g2.lok (fun v d _ r => r) (r1.keeps (e2.hide g1.hl)) r2 p2 ea
end
/-! ### the hand's cells -/
theorem SRel.hand_upd {a c : Addr} {i : Nat} {vs : List V} {h' : List D} (s : SRel T X.K X.mg ah L0 H0 σ H ρ h) (e : ah = some (a, c)) (r : RepAll (kfK T X.K) X.mg ah (only H c) vs h') :
    SRel T X.K X.mg ah L0 H0 σ (upd H a (.lst vs)) ρ h' ∧ Step ah σ H ρ σ (upd H a (.lst vs)) ρ := by
  obtain ⟨l1, l2, ⟨oc, l3⟩, us, k1, k2⟩ := s.glo.hand a c e
  have inL : L0 a := (s.hand0 a c e).1
  have dom : ∀ b, upd H a (.lst vs) b = none → H b = none := fun b z => by
    by_cases y : b = a
    · subst y; rw [upd_same] at z; cases z
    · rwa [upd_ne y] at z
  have nca : c ≠ a := fun z => l2 (z ▸ l1)
  have ko : Keeps (only H c) (only (upd H a (.lst vs)) c) := only_keeps fun o e _ => by rw [upd_ne nca]; exact e
  have hv : hide (upd H a (.lst vs)) (Lx L0 σ ρ) = hide H (Lx L0 σ ρ) := by
    funext b
    by_cases z : Lx L0 σ ρ b
    · rw [hide_in z, hide_in z]
    · rw [hide_out z, hide_out z, upd_ne]
      intro y; subst y; exact z (.inl inL)
  refine ⟨⟨s.len, ⟨fun x d z => ?_, ?_, fun b l => ?_⟩, fun j d z => ?_, fun j d z => ?_, s.apart, ⟨fun b o z h1 h2 => ?_, fun b z => s.ext.dom b (dom b z)⟩, s.lok0, s.hand0⟩, ⟨fun b o z n h1 h2 => ?_, fun b z => .inl z, dom⟩⟩
  · rw [e] at z; cases z
    exact ⟨l1, l2, ⟨oc, by rw [upd_ne nca]; exact l3⟩, vs, upd_same, r.keeps ko⟩
  · intro p hp
    obtain ⟨ps, y1, y2, y3⟩ := s.glo.tabs p hp
    have nt : ∀ b ob, H b = some ob → ¬ mutO ob → b ≠ a := fun b ob y m z => by
      subst z
      rw [k1] at y; cases y; exact m trivial
    refine ⟨ps, by rw [upd_ne (nt _ _ y1 id)]; exact y1, y2, fun pos cv z => ?_⟩
    obtain ⟨c, c1, c2⟩ := y3 pos cv z
    exact ⟨c, c1, by rw [upd_ne (nt _ _ c2 (by unfold LamX.CodeO; exact id))]; exact c2⟩
  · by_cases y : b = a
    · subst y; exact ⟨_, upd_same, trivial⟩
    · obtain ⟨o, y1, y2⟩ := s.glo.lok b l
      exact ⟨o, by rw [upd_ne y]; exact y1, y2⟩
  · rw [hv]; exact s.sh j d z
  · rw [hv]
    obtain ⟨b, y1, y2, y3⟩ := s.own j d z
    have nb : b ≠ a := fun y => by
      subst y
      obtain ⟨o, e5, _⟩ := s.lok0 b inL
      rw [y3] at e5; cases e5
    exact ⟨b, y1, y2.keeps (fun _ _ y _ => y) (fun o y _ => by rw [upd_ne nb]; exact y), y3⟩
  · have nb : b ≠ a := fun y => h1 c (by rw [y]; exact e)
    rw [upd_ne nb]
    exact s.ext.keep b o z h1 h2
  · have nb : b ≠ a := fun y => h1 c (by rw [y]; exact e)
    rw [upd_ne nb]; exact z
def setHM (i : Nat) (mi mv : EM D) : SM := fun ρ h => match ρ[i]? with
  | some (.sh .hand) => onE (mv (full ρ) h) ρ fun x h1 => onE (mi (full ρ) h1) ρ fun k h2 => (match x, k with
    | .int n, .int k => (match ixN h2.length k with
      | some j => .nx ρ (h2.set j (.int n))
      | none => .stuck)
    | _, _ => .stuck)
  | _ => .stuck
theorem vs_setH {o ie ve : Expr} {tpos pos : Pos} {i : Nat} {mi mv : EM D} (ho : PE X o (tVar i)) (hi : VE T X W ie mi) (hv : VE T X W ve mv)
    (hs : swapsWithSole [.Subscript o ie tpos] ve pos.line X.env = pure false := by rfl) (hw : swappedStores [.Subscript o ie tpos] ve X.env = pure none := by rfl) (h1 : (assignEach [.Subscript o ie tpos] X.env).map (·.2) = [assign (.Subscript o ie tpos) X.env] := by rfl)
    (hg : ∀ v, assign (.Subscript o ie tpos) X.env v = (do
      let ov ← holding [v] (eval o X.env)
      let iv ← holding [v, ov] (eval ie X.env)
      standAt tpos
      holding [v, ov, iv] (setItem ov iv v)
      release [v, ov, iv] []) := by intro _; rfl) : VS T X W (.Assign [.Subscript o ie tpos] ve pos) (setHM i mi mv) := by
  obtain ⟨ti, pi, qi⟩ := hi
  obtain ⟨tv, pv, qv⟩ := hv
  refine ⟨_, ps_asg pv (pg_sub ho pi set_list hg) hs hw h1, fun ah L0 H0 σ H ρ h D s p => ?_⟩
  have one : ρ[i]? = some (.sh .hand) ∧ SPost T X W ah L0 H0 σ H ρ D (onE (mv (full ρ) h) ρ fun x h1 => onE (mi (full ρ) h1) ρ fun k h2 => (match x, k with
    | .int n, .int k => (match ixN h2.length k with
      | some j => .nx ρ (h2.set j (.int n))
      | none => .stuck)
    | _, _ => .stuck)) := by
    have p' : SPost T X W ah L0 H0 σ H ρ D (setHM i mi mv ρ h) := p
    unfold setHM at p'
    split at p'
    · rename_i e; exact ⟨e, p'⟩
    · exact p'.elim
  obtain ⟨ed, p'⟩ := one
  obtain ⟨v0, ea, r0⟩ := s.sh i _ ed
  cases r0 with
  | hand ea0 =>
    rename_i a c
    refine qv ah _ σ H (full ρ) h _ s.vfull (onE_full s p' fun x h1 xv H1 e1 g1 r1 s1 p1 => ⟨_, ea, ?_⟩)
    refine qi ah _ σ H1 (full ρ) h1 _ s1.vfull (onE_full s1 p1 fun k h2 ix H2 e2 g2 r2 s2 p2 => ?_)
    cases r1 with
    | int n =>
      cases r2 with
      | int k =>
        dsimp only at p2
        cases q : ixN h2.length k with
        | none => rw [q] at p2; exact p2.elim
        | some j =>
          rw [q] at p2
          obtain ⟨l1, l2, l3, us, k1, k2⟩ := s2.glo.hand a c ea0
          obtain ⟨w1, w2⟩ := s2.hand_upd (i := 0) ea0 (k2.set j (.int n))
          exact ⟨a, us, k, j, rfl, rfl, k1, by rw [k2.length]; exact q, p2 σ _ w1 w2⟩
      | _ => exact p2.elim
    | _ => exact p2.elim
/-! ### x op= e, x[i] op= e -/
def augM (i : Nat) (op : D → D → Option D) (m : EM D) : SM := fun ρ h => match (shr ρ)[i]?.bind (fun o => o) with
  | some a => onE (m (full ρ) h) ρ fun d h1 => (match op a d with
    | some r => if immD r = true then .nx (ρ.set i (.sh r)) h1 else .stuck
    | none => .stuck)
  | none => .stuck
theorem vs_aug {i : Nat} {x : Str} {e : Expr} {op : Operator} {f : D → D → Option D} {m : EM D} {pos' pos : Pos} (hN : X.N.Nodup) (hi : X.N[i]? = some x) (hx : Loc X.env.scope x) (hf : OpV T X (inplaceOp op) f) (he : VE T X W e m)
    (hfn : X.fn x = true ∨ X.env.scope.names.lookup x = some .local := by first | exact .inl rfl | exact .inr rfl | assumption) : VS T X W (.AugAssign (.Name x pos') op e pos) (augM i f m) := by
  obtain ⟨r, hr, qr⟩ := hf
  obtain ⟨t, pt, qt⟩ := he
  refine ⟨_, ps_aug hN hi hx pt hr hfn, fun ah L0 H0 σ H ρ h D s p => ?_⟩
  have p' : SPost T X W ah L0 H0 σ H ρ D (augM i f m ρ h) := p
  unfold augM at p'
  cases q : (shr ρ)[i]?.bind (fun o => o) with
  | none => rw [q] at p'; exact p'.elim
  | some a =>
    rw [q] at p'
    have qa : (shr ρ)[i]? = some (some a) := by
      cases z : (shr ρ)[i]? with
      | none => rw [z] at q; cases q
      | some o => rw [z] at q; exact congrArg some q
    obtain ⟨v, ev, rv⟩ := s.vshr.sl i a qa
    refine ⟨v, ev, ?_⟩
    refine qt ah _ σ H (full ρ) h _ s.vfull (onE_full s p' fun d h1 y H1 e1 g1 r1 s1 p1 => ?_)
    have rv1 : Rep (kf T X) X.mg ah (hide H1 L0) v a := (rv.keeps (hide_mono fun b l => .inl l)).keeps (e1.hide fun a c e => (s.hand0 a c e).1)
    cases q2 : f a d with
    | none => rw [q2] at p1; exact p1.elim
    | some res =>
      rw [q2] at p1
      dsimp only at p1
      by_cases c : immD res = true
      · rw [if_pos c] at p1
        refine qr ah L0 H1 v y a d res _ g1.lok rv1 r1 q2 fun z H2 sm rz => ?_
        have s2 := s1.up (.same sm) (g1.same sm)
        exact p1 _ H2 (s2.set_sh (rz.imm (hide_T s2.glo.lok) c)) ((Step.up (.same sm)).trans (Step.set_any fun d e => by cases e))
      · rw [if_neg c] at p1; exact p1.elim
theorem iv_add : OpV T X (inplaceOp .Add) (fun a b => match a, b with
    | .int i, .int j => some (.int (i + j))
    | _, _ => none) := ⟨_, iop_add, fun ah L H x y dx dy d Q lk rx ry e q => by
  cases rx with
  | int i =>
    cases ry with
    | int j => cases e; exact ⟨i, j, rfl, rfl, q _ H (Same.refl H) (.int _)⟩
    | _ => cases e
  | _ => cases ry <;> cases e⟩
theorem iv_sub : OpV T X (inplaceOp .Sub) (fun a b => match a, b with
    | .int i, .int j => some (.int (i - j))
    | _, _ => none) := ⟨_, iop_sub, fun ah L H x y dx dy d Q lk rx ry e q => by
  cases rx with
  | int i =>
    cases ry with
    | int j => cases e; exact ⟨i, j, rfl, rfl, q _ H (Same.refl H) (.int _)⟩
    | _ => cases e
  | _ => cases ry <;> cases e⟩
end
end VL

set_option Elab.async false
set_option linter.all false
set_option maxRecDepth 100000
set_option maxHeartbeats 4000000
/-! VL12: list comprehensions. -/
namespace VL
open PySem PySem.Spec PyProof.Rows L2
def wF : WX := fun _ _ _ _ => False
section
variable {T : PP} {X : Cx} {W : WX}
/-! ### a reading that the judgement itself gives -/
def rdE (T : PP) (X : Cx) (W : WX) (m : EM D) : TE := fun σ H Q => ∃ (ah : Option (Addr × Addr)) (L : Addr → Prop) (ρ : Sl) (h : List D), View T X ah L σ H ρ h ∧ Post T X W ah L σ H (RV T X ah L) (m ρ h) Q
def rdT (T : PP) (X : Cx) (W : WX) (m : EM Bool) : TT := fun σ H Q => ∃ (ah : Option (Addr × Addr)) (L : Addr → Prop) (ρ : Sl) (h : List D), View T X ah L σ H ρ h ∧ Post T X W ah L σ H RB (m ρ h) Q
abbrev EG := D → Sl → Option Sl
def rdG (T : PP) (X : Cx) (vs : List Nat) (gm : EG) : TG := fun v σ H Q => ∃ (ah : Option (Addr × Addr)) (L : Addr → Prop) (ρ : Sl) (h : List D) (d : D) (ρ1 : Sl), View T X ah L σ H ρ h ∧ Rep (kf T X) X.mg ah (hide H L) v d ∧ gm d ρ = some ρ1 ∧ ∀ σ1, View T X ah L σ1 H ρ1 h → wipe σ1 vs = wipe σ vs → Q σ1 H
def VTs (T : PP) (X : Cx) (W : WX) (es : List Expr) (m : EM Bool) : Prop :=
  ∃ t, PTs X es t ∧ ∀ (ah : Option (Addr × Addr)) L σ H ρ h Q, View T X ah L σ H ρ h → Post T X W ah L σ H RB (m ρ h) Q → t σ H Q
def yesM : EM Bool := fun _ h => .ok true h
theorem vts_nil : VTs T X W [] yesM := ⟨_, pts_nil, fun ah L σ H ρ h Q w p => p true H .refl w.glo rfl⟩
theorem vts_one {c : Expr} {m : EM Bool} (hc : VT T X W c m) : VTs T X W [c] m := by
  obtain ⟨t, p, q⟩ := hc
  exact ⟨_, pts_one p, q⟩
def VGe (T : PP) (X : Cx) (vs : List Nat) (tg : Expr) (gm : EG) : Prop :=
  ∃ g, PG X tg g ∧ ∀ ah L σ H ρ h v d ρ1 Q, View T X ah L σ H ρ h → Rep (kf T X) X.mg ah (hide H L) v d → gm d ρ = some ρ1 → (∀ σ1, View T X ah L σ1 H ρ1 h → wipe σ1 vs = wipe σ vs → Q σ1 H) → g v σ H Q
abbrev EGs := List D → Sl → Option Sl
def VGse (T : PP) (X : Cx) (vs : List Nat) (tgs : List Expr) (gm : EGs) : Prop :=
  ∃ g, PGs X tgs g ∧ ∀ ah L σ H ρ h v d ρ1 Q, View T X ah L σ H ρ h → RepAll (kf T X) X.mg ah (hide H L) v d → gm d ρ = some ρ1 → (∀ σ1, View T X ah L σ1 H ρ1 h → wipe σ1 vs = wipe σ vs → Q σ1 H) → g v σ H Q
def eNm (i : Nat) : EG := fun d ρ => some (ρ.set i (some d))
theorem wipe_set {σ : L2.St} {i : Nat} {x : Option V} : ∀ {vs : List Nat}, i ∈ vs → wipe (σ.set i x) vs = wipe σ vs
  | [], h => by cases h
  | v :: vs, h => by
    unfold wipe
    by_cases c : i ∈ vs
    · rw [wipe_set c]
    · have e : i = v := by
        rcases List.mem_cons.mp h with h | h
        · exact h
        · exact (c h).elim
      subst e
      have go : ∀ (us : List Nat) (σ : L2.St), i ∉ us → wipe (σ.set i x) us = (wipe σ us).set i x := by
        intro us
        induction us with
        | nil => intro σ _; rfl
        | cons u us ih =>
          intro σ hu
          unfold wipe
          rw [ih σ (fun z => hu (List.mem_cons_of_mem _ z))]
          exact List.set_comm _ _ (fun z => hu (z ▸ List.mem_cons_self))
      rw [go vs σ c, List.set_set]
theorem wipe_wipe {σ : L2.St} {vs : List Nat} : wipe (wipe σ vs) vs = wipe σ vs := by
  have go : ∀ (us : List Nat), (∀ u ∈ us, u ∈ vs) → wipe (wipe σ us) vs = wipe σ vs := by
    intro us
    induction us with
    | nil => intro _; rfl
    | cons u us ih =>
      intro h
      rw [show wipe σ (u :: us) = (wipe σ us).set u none from rfl, wipe_set (h u List.mem_cons_self)]
      exact ih fun x hx => h x (List.mem_cons_of_mem _ hx)
  exact go vs fun _ h => h
theorem vge_name {vs : List Nat} {i : Nat} {x : Str} {pos} (hv : i ∈ vs) (hN : X.N.Nodup) (hi : X.N[i]? = some x) (hx : Loc X.env.scope x) (hf : X.fn x = true ∨ X.env.scope.names.lookup x = some .local := by first | exact .inl rfl | exact .inr rfl | assumption) : VGe T X vs (.Name x pos) (eNm i) :=
  ⟨_, pg_name hN hi hx hf, fun ah L σ H ρ h v d ρ1 Q w r e k => by
    cases e
    refine k _ ⟨by rw [List.length_set, List.length_set]; exact w.len, w.glo, fun j d' z => ?_⟩ (wipe_set hv)
    rcases set_get z with ⟨y1, y2⟩ | ⟨y1, y2⟩
    · subst y1; cases y2
      have hl : j < σ.length := by
        rw [w.len]
        have := (List.getElem?_eq_some_iff.mp z).1
        rwa [List.length_set] at this
      exact ⟨v, by rw [List.getElem?_set_self hl], r⟩
    · obtain ⟨u, u1, u2⟩ := w.sl j d' y2
      exact ⟨u, by rw [set_ne y1]; exact u1, u2⟩⟩
def esN : EGs := fun ds ρ => match ds with
  | [] => some ρ
  | _ => none
def esC (a : EG) (b : EGs) : EGs := fun ds ρ => match ds with
  | d :: ds => (a d ρ).bind fun ρ1 => b ds ρ1
  | [] => none
theorem vgse_nil {vs : List Nat} : VGse T X vs [] esN := ⟨_, pgs_nil, fun ah L σ H ρ h v d ρ1 Q w r e k => by
  cases r with
  | nil => cases e; exact ⟨rfl, k σ w rfl⟩
  | cons _ _ => cases e⟩
theorem vgse_cons {vs : List Nat} {e : Expr} {es : List Expr} {a : EG} {b : EGs} (ha : VGe T X vs e a) (hb : VGse T X vs es b)
    (hs : (assignEach (e :: es) X.env).map (·.2) = assign e X.env :: (assignEach es X.env).map (·.2) := by rfl) : VGse T X vs (e :: es) (esC a b) := by
  obtain ⟨ga, pa, qa⟩ := ha
  obtain ⟨gb, pb, qb⟩ := hb
  refine ⟨_, pgs_cons pa pb hs, fun ah L σ H ρ h v d ρ2 Q w r e k => ?_⟩
  cases r with
  | nil => cases e
  | cons r1 r2 =>
    rename_i v us d ds
    have e' : (a d ρ).bind (fun ρ1 => b ds ρ1) = some ρ2 := e
    cases q : a d ρ with
    | none => rw [q] at e'; cases e'
    | some ρ1 =>
      rw [q] at e'
      exact ⟨v, us, rfl, qa ah L σ H ρ h v d ρ1 _ w r1 q fun σ1 w1 t1 => qb ah L σ1 H ρ1 h us ds ρ2 _ w1 r2 e' fun σ2 w2 t2 => k σ2 w2 (t2.trans t1)⟩
def eTu (n : Nat) (b : EGs) : EG := fun d ρ => match d with
  | .tup ds => if ds.length = n then b ds ρ else none
  | _ => none
theorem vge_tup {vs : List Nat} {es : List Expr} {k : Nat} {pos} {n : Nat} {b : EGs} (hc : X.calm = true) (hb : VGse T X vs es b) (hn : (assignEach es X.env).length = n := by rfl) (hst : (assignEach es X.env).findIdx? (·.1) = none := by rfl) : VGe T X vs (.Tuple es k pos) (eTu n b) := by
  obtain ⟨gb, pb, qb⟩ := hb
  refine ⟨_, pg_tup hc pb hn hst, fun ah L σ H ρ h v d ρ1 Q w r e k => ?_⟩
  cases r with
  | tup h1 h2 =>
    rename_i a us ds
    have e' : (if ds.length = n then b ds ρ else none) = some ρ1 := e
    split at e'
    · rename_i hl
      exact ⟨a, us, rfl, SqT.hide h1.sq, by rw [h2.length]; exact hl, qb ah L σ H ρ h us ds ρ1 Q w h2 e' k⟩
    · cases e'
  | _ => cases e
/-! ### seen from within the block -/
variable {s : Shared} {Hb : Hp} {sc : Scope} {ce : Env} {fp : List Addr}
theorem VE.rdB {e : Expr} {m : EM D} (h : VE T (X.blk s Hb sc ce fp) W e m) : PE (X.blk s Hb sc ce fp) e (rdE T X W m) := by
  obtain ⟨t, p, q⟩ := h
  refine ⟨fun pins s σ H Q I ⟨ah, L, ρ, h, w, z⟩ => p.run pins s σ H Q I (q ah L σ H ρ h Q ⟨w.len, w.glo, w.sl⟩ ?_)⟩
  cases e1 : m ρ h <;> rw [e1] at z <;> exact z
theorem VTs.rdB {e : List Expr} {m : EM Bool} (h : VTs T (X.blk s Hb sc ce fp) W e m) : PTs (X.blk s Hb sc ce fp) e (rdT T X W m) := by
  obtain ⟨t, p, q⟩ := h
  refine ⟨fun pins s σ H Q I ⟨ah, L, ρ, h, w, z⟩ => p.run pins s σ H Q I (q ah L σ H ρ h Q ⟨w.len, w.glo, w.sl⟩ ?_)⟩
  cases e1 : m ρ h <;> rw [e1] at z <;> exact z
theorem VGe.rdB {vs : List Nat} {e : Expr} {m : EG} (h : VGe T (X.blk s Hb sc ce fp) vs e m) : PG (X.blk s Hb sc ce fp) e (rdG T X vs m) := by
  obtain ⟨t, p, q⟩ := h
  exact ⟨fun pins s σ H v u Q I r ⟨ah, L, ρ, h, d, ρ1, w, r1, e1, k⟩ => p.run pins s σ H v u Q I r (q ah L σ H ρ h v d ρ1 Q ⟨w.len, w.glo, w.sl⟩ r1 e1 fun σ1 w1 => k σ1 ⟨w1.len, w1.glo, w1.sl⟩)⟩
end
/-! ### [e for x in xs if c] -/
def noE {α β : Type} (o : Out α) (f : α → List D → Out β) : Out β := match o with
  | .ok a h => f a h
  | _ => .stuck
def wipeS (ρ : Sl) : List Nat → Sl
  | [] => ρ
  | v :: vs => (wipeS ρ vs).set v none
def lcL (gm : EG) (tt : EM Bool) (te : EM D) (ρ : Sl) : List D → List D → Out (List D)
  | [], h => .ok [] h
  | d :: ds, h => match gm d ρ with
    | none => .stuck
    | some ρ1 => noE (tt ρ1 h) fun b h1 => if b = true then noE (te ρ1 h1) fun y h2 => (lcL gm tt te ρ ds h2).bind fun ys h3 => .ok (y :: ys) h3 else lcL gm tt te ρ ds h1
def lcM (mi : EM (List D)) (vs : List Nat) (gm : EG) (tt : EM Bool) (te : EM D) : EM D := fun ρ h => (mi ρ h).bind fun ds h1 => if sizeOk ds.length = true then (lcL gm tt te (wipeS ρ vs) ds h1).bind fun ys h2 => .ok (.lst ys) h2 else .stuck
section
variable {T : PP} {X : Cx} {W : WX}
theorem noE_post {α β γ δ ε : Type} {ah : Option (Addr × Addr)} {L L' : Addr → Prop} {σ σ2 : L2.St} {H0 H : Hp} {R : Hp → β → α → Prop} {Q : β → Hp → Prop} {R1 : Hp → δ → γ → Prop} {Q1 : δ → Hp → Prop} {x : Out γ} {f : γ → List D → Out ε} {g : ε → List D → Out α}
    (p : Post T X W ah L σ H0 R ((noE x f).bind g) Q)
    (k : ∀ a h1 v H1, Ext ah H H1 → Glo T X ah L' H1 h1 → R1 H1 v a → Post T X W ah L σ H0 R ((f a h1).bind g) Q → Q1 v H1) : Post T X wF ah L' σ2 H R1 x Q1 := by
  cases x with
  | ok a h1 => exact fun v H1 e g r => k a h1 v H1 e g r p
  | err c h1 => exact p.elim
  | stuck => exact p.elim
theorem View.wipe {ah : Option (Addr × Addr)} {L : Addr → Prop} {σ : L2.St} {H : Hp} {ρ : Sl} {h : List D} (w : View T X ah L σ H ρ h) : ∀ vs : List Nat, View T X ah L (wipe σ vs) H (wipeS ρ vs) h
  | [] => w
  | v :: vs => by
    have w1 := View.wipe w vs
    refine ⟨?_, w1.glo, fun j d z => ?_⟩
    · unfold L2.wipe wipeS
      rw [List.length_set, List.length_set]; exact w1.len
    · unfold wipeS at z
      rcases set_get z with ⟨y1, y2⟩ | ⟨y1, y2⟩
      · cases y2
      · obtain ⟨u, u1, u2⟩ := w1.sl j d y2
        exact ⟨u, by unfold L2.wipe; rw [set_ne y1]; exact u1, u2⟩
theorem Out.bind_assoc {α β γ : Type} (x : Out α) (f : α → List D → Out β) (g : β → List D → Out γ) : (x.bind f).bind g = x.bind fun a h => (f a h).bind g := by cases x <;> rfl
/-- a slot's view with the new list hidden, too -/
theorem View.hide1 {ah : Option (Addr × Addr)} {L : Addr → Prop} {σ : L2.St} {H H1 : Hp} {ρ : Sl} {h h1 : List D} {D : Addr} (w : View T X ah L σ H ρ h) (hD : H D = none) (e : Ext ah H H1) (g : Glo T X ah (fun b => L b ∨ b = D) H1 h1) : View T X ah (fun b => L b ∨ b = D) σ H1 ρ h1 where
  len := w.len
  glo := g
  sl := fun j d z => by
    obtain ⟨v, u1, u2⟩ := w.sl j d z
    refine ⟨v, u1, u2.keeps fun b o y n => ?_⟩
    obtain ⟨y1, y2⟩ := of_hide y
    rw [hide_out fun z => z.elim y1 fun z => by rw [z, hD] at y2; cases y2]
    exact e.keep b o y2 (fun c z => y1 (w.glo.hl b c z)) n
theorem lc_run {elt tg iter : Expr} {ifs : List Expr} {scope : Scope} {own : List (Str × Nat)} {mi : EM (List D)} {gm : EG} {tt : EM Bool} {te : EM D} (hc : X.calm = true) (hN : X.N.Nodup) (hi : VI T X W tg iter mi) (ok : BlkOk X.N X.env.scope scope own)
    (hg : ∀ (s : Shared) (H : Hp) (C : Addr) (cl : List (Str × Addr)) (fp : List Addr), VGe T (X.blk s H scope (compEnvC scope cl C X.env) fp) (own.map (·.2)) tg gm) (ht : ∀ (s : Shared) (H : Hp) (C : Addr) (cl : List (Str × Addr)) (fp : List Addr), VTs T (X.blk s H scope (compEnvC scope cl C X.env) fp) wF ifs tt)
    (he : ∀ (s : Shared) (H : Hp) (C : Addr) (cl : List (Str × Addr)) (fp : List Addr), VE T (X.blk s H scope (compEnvC scope cl C X.env) fp) wF elt te) (hs : ∀ x, foldedSetIterable iter X.env x = pure x := by intro _; rfl) :
    (∃ wi, PI X tg iter wi ∧ ∀ (ah : Option (Addr × Addr)) L σ H ρ h Q, View T X ah L σ H ρ h → Post T X W ah L σ H (RN T X ah L H) (lcM mi (own.map (·.2)) gm tt te ρ h) Q → tLc wi (rdG T X (own.map (·.2)) gm) (rdT T X wF tt) (rdE T X wF te) (own.map (·.2)) σ H Q) := by
  obtain ⟨wi, pi, qi⟩ := hi
  refine ⟨wi, pi, fun ah L σ H ρ h Q w p => ?_⟩
  refine qi ah L σ H ρ h _ w (Post.seq p fun ds h1 J H1 e1 g1 j1 p1 => ?_)
  obtain ⟨sz, p1⟩ := p1.iff
  have sz' : ds.length ≤ sizeLine := of_decide_eq_true sz
  intro D hD
  have hD0 : H D = none := e1.dom D hD
  have e0 : Ext ah H1 (upd H1 D (.lst [])) := .same (same_upd hD)
  have hcD : ∀ a c, ah = some (a, c) → (fun b => L b ∨ b = D) a ∧ ¬ (fun b => L b ∨ b = D) c := fun a c e => by
    obtain ⟨l1, l2, ⟨o, l3⟩, _⟩ := g1.hand a c e
    exact ⟨.inl l1, fun z => z.elim l2 fun z => by rw [z, hD] at l3; cases l3⟩
  have glo' : ∀ {Hc hc acc}, Glo T X ah L Hc hc → Hc D = some (.lst acc) → Glo T X ah (fun b => L b ∨ b = D) Hc hc := fun {Hc hc acc} g e => g.swap (fun a z => z.elim (g.lok a) fun z => by subst z; exact ⟨.lst acc, e, trivial⟩) hcD
  have gloL : ∀ {Hc hc}, Glo T X ah (fun b => L b ∨ b = D) Hc hc → Glo T X ah L Hc hc := fun {Hc hc} g => g.swap (fun a z => g.lok a (.inl z)) fun a c e => ⟨(g1.hand a c e).1, (g1.hand a c e).2.1⟩
  refine ⟨fun i m Hc => ∃ acc ys hc, m = ds.length - i ∧ i ≤ ds.length ∧ Ext ah H1 Hc ∧ Hc D = some (.lst acc) ∧ acc.length ≤ i ∧ RepAll (kf T X) X.mg ah (hide Hc fun b => L b ∨ b = D) acc ys ∧ Glo T X ah (fun b => L b ∨ b = D) Hc hc ∧
    Post T X W ah L σ H1 (RN T X ah L H) ((lcL gm tt te (wipeS ρ (own.map (·.2))) (ds.drop i) hc).bind fun zs h2 => .ok (.lst (ys ++ zs)) h2) Q, ⟨_, [], [], h1, rfl, Nat.zero_le _, e0, upd_same, Nat.zero_le _, .nil, glo' (g1.same (same_upd hD)) upd_same, p1⟩, ?_⟩
  rintro i m Hc ⟨acc, ys, hc, rfl, hi, ec, eD, hl, ra, gc, pc⟩
  have kc : Keeps (hide H1 L) (hide Hc fun b => L b ∨ b = D) := fun b o z n => by
    obtain ⟨z1, z2⟩ := of_hide z
    rw [hide_out fun y => y.elim z1 fun y => by rw [y, hD] at z2; cases z2]
    exact ec.keep b o z2 (fun c y => z1 (g1.hl b c y)) n
  obtain ⟨j2, j3⟩ := j1 Hc _ kc gc.lok i
  cases q : ds[i]? with
  | none =>
    have hle : ds.length ≤ i := by rw [List.getElem?_eq_none_iff] at q; exact q
    left
    refine ⟨j3 (Nat.le_antisymm hi hle), ?_⟩
    rw [List.drop_eq_nil_of_le hle] at pc
    have pc' : Post T X W ah L σ H1 (RN T X ah L H) (.ok (.lst (ys ++ [])) hc) Q := pc
    rw [List.append_nil] at pc'
    exact pc' _ Hc ec (gloL gc) ⟨D, rfl, hD0, acc, eD, ra⟩
  | some d =>
    right
    obtain ⟨j4, j5⟩ := j2 d q
    have hlt : i < ds.length := (List.getElem?_eq_some_iff.mp q).1
    have hd : ds.drop i = d :: ds.drop (i + 1) := by
      rw [List.drop_eq_getElem_cons hlt, (List.getElem?_eq_some_iff.mp q).2]
    rw [hd] at pc
    refine ⟨j4, fun Hn => ∃ acc ys hc, Ext ah H1 Hn ∧ Hn D = some (.lst acc) ∧ acc.length ≤ i + 1 ∧ RepAll (kf T X) X.mg ah (hide Hn fun b => L b ∨ b = D) acc ys ∧ Glo T X ah (fun b => L b ∨ b = D) Hn hc ∧
      Post T X W ah L σ H1 (RN T X ah L H) ((lcL gm tt te (wipeS ρ (own.map (·.2))) (ds.drop (i + 1)) hc).bind fun zs h2 => .ok (.lst (ys ++ zs)) h2) Q, fun Hn ⟨acc, ys, hc, y1, y2, y3, y4, y5, y6⟩ => ⟨_, by omega, acc, ys, hc, rfl, hlt, y1, y2, y3, y4, y5, y6⟩, fun x H2 y => ?_⟩
    obtain ⟨sm, rx⟩ := j5 x H2 y
    have D2 : H2 D = some (.lst acc) := sm _ _ eD
    have ra2 := ra.keeps (Same.hide (L := fun b => L b ∨ b = D) sm)
    have g2 := gc.same sm
    have ec2 : Ext ah H1 H2 := ec.trans (.same sm)
    have w2 : View T X ah (fun b => L b ∨ b = D) (wipe σ (own.map (·.2))) H2 (wipeS ρ (own.map (·.2))) hc := (w.wipe _).hide1 hD0 (e1.trans ec2) g2
    unfold lcL at pc
    cases qd : gm d (wipeS ρ (own.map (·.2))) with
    | none => rw [qd] at pc; exact pc.elim
    | some ρ1 =>
      rw [qd] at pc
      dsimp only at pc
      refine ⟨ah, _, _, hc, d, ρ1, w2, rx, qd, fun σ3 w3 z3 => ⟨z3.trans wipe_wipe, ah, _, ρ1, hc, w3, noE_post pc fun b h3 v3 H3 e3 g3 r3 p3 => ?_⟩⟩
      have r3' : v3 = b := r3
      subst r3'
      have D3 : H3 D = some (.lst acc) := e3.keep D _ D2 (fun c z => by obtain ⟨_, _⟩ := hcD D c z; obtain ⟨l1, _⟩ := g1.hand D c z; obtain ⟨o, z1, _⟩ := g1.lok D l1; rw [hD] at z1; cases z1) (fun ps z => by cases z)
      have nh : ∀ c, ah ≠ some (D, c) := fun c z => by obtain ⟨l1, _⟩ := g1.hand D c z; obtain ⟨o, z1, _⟩ := g1.lok D l1; rw [hD] at z1; cases z1
      have ra3 := ra2.keeps (e3.hide fun a c z => (hcD a c z).1)
      have ec3 := ec2.trans e3
      cases v3 with
      | false =>
        rw [if_neg Bool.false_ne_true]
        rw [if_neg Bool.false_ne_true] at p3
        exact ⟨acc, ys, h3, ec3, D3, by omega, ra3, g3, p3⟩
      | true =>
        rw [if_pos rfl]
        rw [if_pos rfl] at p3
        refine ⟨ah, _, ρ1, h3, w3.ext e3 g3, noE_post p3 fun y h4 v4 H4 e4 g4 r4 p4 => ?_⟩
        have D4 : H4 D = some (.lst acc) := e4.keep D _ D3 nh (fun ps z => by cases z)
        have ra4 := ra3.keeps (e4.hide fun a c z => (hcD a c z).1)
        have kD : ∀ o, hide (upd H4 D o) (fun b => L b ∨ b = D) = hide H4 fun b => L b ∨ b = D := fun o => by
          funext b
          by_cases z : L b ∨ b = D
          · rw [hide_in z, hide_in z]
          · rw [hide_out z, hide_out z, upd_ne fun y => z (.inr y)]
        refine ⟨acc, D4, Nat.lt_of_lt_of_le (Nat.lt_of_le_of_lt hl hlt) sz', acc ++ [v4], ys ++ [y], h4, ?_, upd_same, by rw [List.length_append, List.length_singleton]; omega, ?_, ?_, ?_⟩
        · have ec4 := ec3.trans e4
          refine ⟨fun b o z h1 h2 => ?_, fun b z => ec4.dom b ?_⟩
          · rw [upd_ne fun y => by rw [y, hD] at z; cases z]
            exact ec4.keep b o z h1 h2
          · by_cases y : b = D
            · rw [y, upd_same] at z; cases z
            · rwa [upd_ne y] at z
        · rw [kD]; exact ra4.append (.one r4)
        · -- the globals
          refine ⟨fun a c z => ?_, ?_, fun b z => ?_⟩
          · obtain ⟨l1, l2, ⟨oc, l3⟩, vs, k1, k2⟩ := g4.hand a c z
            have na : a ≠ D := fun y => nh c (by rw [← y]; exact z)
            have nc : c ≠ D := fun y => l2 (.inr y)
            exact ⟨l1, l2, ⟨oc, by rw [upd_ne nc]; exact l3⟩, vs, by rw [upd_ne na]; exact k1, k2.keeps (only_keeps fun o e _ => by rw [upd_ne nc]; exact e)⟩
          · intro p hp
            obtain ⟨ps, y1, y2, y3⟩ := g4.tabs p hp
            have nt : ∀ b ob, H4 b = some ob → ¬ mutO ob → b ≠ D := fun b ob y m z => by
              subst z
              rw [D4] at y; cases y; exact m trivial
            refine ⟨ps, by rw [upd_ne (nt _ _ y1 id)]; exact y1, y2, fun pos cv z => ?_⟩
            obtain ⟨c, c1, c2⟩ := y3 pos cv z
            exact ⟨c, c1, by rw [upd_ne (nt _ _ c2 (by unfold LamX.CodeO; exact id))]; exact c2⟩
          · by_cases y : b = D
            · subst y; exact ⟨_, upd_same, trivial⟩
            · obtain ⟨o, y1, y2⟩ := g4.lok b z
              exact ⟨o, by rw [upd_ne y]; exact y1, y2⟩
        · rw [Out.bind_assoc] at p4
          have ee : (fun zs h2 => Out.ok (VL.D.lst ((ys ++ [y]) ++ zs)) h2) = fun zs h2 => ((Out.ok (y :: zs) h2).bind fun zs h2 => Out.ok (VL.D.lst (ys ++ zs)) h2) := by
            funext zs h2
            show Out.ok (VL.D.lst ((ys ++ [y]) ++ zs)) h2 = Out.ok (VL.D.lst (ys ++ y :: zs)) h2
            rw [List.append_assoc]; rfl
          rw [ee]
          exact p4
/-- a comprehension: what it takes to run it, alone or stored by a name at once -/
structure LcOk (T : PP) (X : Cx) (W : WX) (elt tg iter : Expr) (ifs : List Expr) (scope : Scope) (own : List (Str × Nat)) (mi : EM (List D)) (gm : EG) (tt : EM Bool) (te : EM D) : Prop where
  hc : X.calm = true
  hN : X.N.Nodup
  hi : VI T X W tg iter mi
  ok : BlkOk X.N X.env.scope scope own
  hg : ∀ (s : Shared) (H : Hp) (C : Addr) (cl : List (Str × Addr)) (fp : List Addr), VGe T (X.blk s H scope (compEnvC scope cl C X.env) fp) (own.map (·.2)) tg gm
  ht : ∀ (s : Shared) (H : Hp) (C : Addr) (cl : List (Str × Addr)) (fp : List Addr), VTs T (X.blk s H scope (compEnvC scope cl C X.env) fp) wF ifs tt
  he : ∀ (s : Shared) (H : Hp) (C : Addr) (cl : List (Str × Addr)) (fp : List Addr), VE T (X.blk s H scope (compEnvC scope cl C X.env) fp) wF elt te
section
variable {elt tg iter : Expr} {ifs : List Expr} {scope : Scope} {own : List (Str × Nat)} {pos : Pos} {mi : EM (List D)} {gm : EG} {tt : EM Bool} {te : EM D}
theorem vn_lc (k : LcOk T X W elt tg iter ifs scope own mi gm tt te) (hs : ∀ x, foldedSetIterable iter X.env x = pure x := by intro _; rfl) : VN T X W (.ListComp elt [⟨tg, iter, ifs, 0⟩] scope pos) (lcM mi (own.map (·.2)) gm tt te) := by
  obtain ⟨wi, pi, q⟩ := lc_run k.hc k.hN k.hi k.ok k.hg k.ht k.he hs
  exact ⟨_, pe_lc k.hc k.hN pi k.ok (fun s H C cl fp => (k.hg s H C cl fp).rdB) (fun s H C cl fp => (k.ht s H C cl fp).rdB) (fun s H C cl fp => (k.he s H C cl fp).rdB) hs, q⟩
/-- name = [..], the name a local: all its ways -/
theorem ps_setLcG {i : Nat} {y : Str} {py spos : Pos} (k : LcOk T X W elt tg iter ifs scope own mi gm tt te) (hy : X.N[i]? = some y) (hyl : X.env.scope.names.lookup y = some .local) (hk : X.env.scope.kind = .function) (hl : (py.line == pos.line) = true)
    (ha : (scope.names.any fun (n, k) => n == y && (k == .local || k == .cell)) = false) (hs : ∀ x, foldedSetIterable iter X.env x = pure x := by intro _; rfl) :
    ∃ t, PS X (.Assign [.Name y py] (.ListComp elt [⟨tg, iter, ifs, 0⟩] scope pos) spos) (tAsg t (gName i)) ∧ ∀ (ah : Option (Addr × Addr)) L σ H ρ h Q, View T X ah L σ H ρ h → Post T X W ah L σ H (RN T X ah L H) (lcM mi (own.map (·.2)) gm tt te ρ h) Q → t σ H Q := by
  obtain ⟨wi, pi, q⟩ := lc_run k.hc k.hN k.hi k.ok k.hg k.ht k.he hs
  exact ⟨_, ps_setLc k.hc k.hN hy hyl (sw_true hk hyl hl ha) pi k.ok (fun s H C cl fp => (k.hg s H C cl fp).rdB) (fun s H C cl fp => (k.ht s H C cl fp).rdB) (fun s H C cl fp => (k.he s H C cl fp).rdB) hs, q⟩
end
/-! ### new things stored, by a reading that stores them -/
/-- e is a new thing, stored by st in slot i -/
def VSN (T : PP) (X : Cx) (W : WX) (st : Stmt) (i : Nat) (m : EM D) : Prop :=
  ∃ t, PS X st (tAsg t (gName i)) ∧ ∀ (ah : Option (Addr × Addr)) L σ H ρ h Q, View T X ah L σ H ρ h → Post T X W ah L σ H (RN T X ah L H) (m ρ h) Q → t σ H Q
section
variable {st : Stmt} {i : Nat} {m : EM D}
theorem vsn_lc {elt tg iter : Expr} {ifs : List Expr} {scope : Scope} {own : List (Str × Nat)} {pos : Pos} {mi : EM (List D)} {gm : EG} {tt : EM Bool} {te : EM D} {y : Str} {py spos : Pos} (k : LcOk T X W elt tg iter ifs scope own mi gm tt te) (hy : X.N[i]? = some y) (hyl : X.env.scope.names.lookup y = some .local) (hk : X.env.scope.kind = .function) (hl : (py.line == pos.line) = true)
    (ha : (scope.names.any fun (n, k) => n == y && (k == .local || k == .cell)) = false) (hs : ∀ x, foldedSetIterable iter X.env x = pure x := by intro _; rfl) : VSN T X W (.Assign [.Name y py] (.ListComp elt [⟨tg, iter, ifs, 0⟩] scope pos) spos) i (lcM mi (own.map (·.2)) gm tt te) :=
  ps_setLcG k hy hyl hk hl ha hs
theorem vsn_of {e : Expr} {x : Str} {pos' pos : Pos} (hN : X.N.Nodup) (hi : X.N[i]? = some x) (hx : Loc X.env.scope x) (he : VN T X W e m) (hs : swapsWith e (some (.Name x pos')) pos.line X.env = pure false := by rfl) (hf : X.fn x = true ∨ X.env.scope.names.lookup x = some .local := by first | exact .inl rfl | exact .inr rfl | assumption) :
    VSN T X W (.Assign [.Name x pos'] e pos) i m := by
  obtain ⟨t, p, q⟩ := he
  exact ⟨t, ps_set hN hi hx p hs hf, q⟩
theorem VSN.own (k : VSN T X W st i m) : VS T X W st (setNM i m) := by
  obtain ⟨t, pt, qt⟩ := k
  refine ⟨_, pt, fun ah L0 H0 σ H ρ h D s p => ?_⟩
  refine qt ah _ σ H (shr ρ) h _ s.vshr (onE_shr0 s p fun d h1 v H1 e1 g1 r1 s1 p1 => ?_)
  obtain ⟨q, rfl, hq, r⟩ := r1
  obtain ⟨z1, z2⟩ := SRel.put_new (i := i) s e1 s1 hq r
  exact p1 _ H1 z1 z2
theorem VSN.ownF (k : VSN T X W st i m) : VS T X W st (setNFM i m) := by
  obtain ⟨t, pt, qt⟩ := k
  refine ⟨_, pt, fun ah L0 H0 σ H ρ h D s p => ?_⟩
  refine qt ah _ σ H (full ρ) h _ s.vfull (onE_full0 s p fun d h1 v H1 e1 g1 r1 s1 p1 => ?_)
  obtain ⟨q, rfl, hq, r⟩ := r1
  by_cases c : immO d = true
  · rw [if_pos c] at p1
    have lk : LOk H1 (fun b => Lx L0 σ ρ b ∨ b = q) := fun b z => by
      rcases z with z | z
      · exact s1.glo.lok b z
      · subst z; exact r.mut
    obtain ⟨z1, z2⟩ := SRel.put_new (i := i) s e1 s1 hq (r.imm (hide_T lk) c)
    exact p1 _ H1 z1 z2
  · rw [if_neg c] at p1; exact p1.elim
/-- shared at once -/
def setSM (i : Nat) (m : EM D) : SM := fun ρ h => onE (m (shr ρ) h) ρ fun d h1 => .nx (ρ.set i (.sh d)) h1
def setSFM (i : Nat) (m : EM D) : SM := fun ρ h => onE (m (full ρ) h) ρ fun d h1 => if immO d = true then .nx (ρ.set i (.sh d)) h1 else .stuck
theorem VSN.shr (k : VSN T X W st i m) : VS T X W st (setSM i m) := by
  obtain ⟨t, pt, qt⟩ := k
  refine ⟨_, pt, fun ah L0 H0 σ H ρ h D s p => ?_⟩
  refine qt ah _ σ H (VL.shr ρ) h _ s.vshr (onE_shr0 s p fun d h1 v H1 e1 g1 r1 s1 p1 => ?_)
  exact p1 _ H1 (s1.set_sh (RN.rep g1 e1 s.glo.lok r1)) ((Step.up e1).trans (Step.set_any fun d e => by cases e))
theorem VSN.shrF (k : VSN T X W st i m) : VS T X W st (setSFM i m) := by
  obtain ⟨t, pt, qt⟩ := k
  refine ⟨_, pt, fun ah L0 H0 σ H ρ h D s p => ?_⟩
  refine qt ah _ σ H (full ρ) h _ s.vfull (onE_full0 s p fun d h1 v H1 e1 g1 r1 s1 p1 => ?_)
  obtain ⟨q, rfl, hq, r⟩ := r1
  by_cases c : immO d = true
  · rw [if_pos c] at p1
    have nq : ¬ Lx L0 σ ρ q := s.glo.lok.new hq
    have rr : Rep (kfK T X.K) X.mg ah (hide H1 (Lx L0 σ ρ)) (.ref q) d := by
      have lk : LOk H1 (fun b => Lx L0 σ ρ b ∨ b = q) := fun b z => by
        rcases z with z | z
        · exact s1.glo.lok b z
        · subst z; exact r.mut
      refine (r.imm (hide_T lk) c).rep (hide_mono fun a z => .inl z) fun o e _ => ?_
      rw [hide_out nq]; exact e
    exact p1 _ H1 (s1.set_sh rr) ((Step.up e1).trans (Step.set_any fun d e => by cases e))
  · rw [if_neg c] at p1; exact p1.elim
end
end
end VL

set_option Elab.async false
set_option linter.all false
set_option maxRecDepth 100000
set_option maxHeartbeats 4000000
/-! VL13: what a for walks over. -/
namespace VL
open PySem PySem.Spec PyProof.Rows L2
theorem PI.or {X : Cx} {tg e : Expr} {w w' : TI} (a : PI X tg e w) (b : PI X tg e w') : PI X tg e (fun σ H R => w σ H R ∨ w' σ H R) := ⟨fun pins s σ H R I q => q.elim (a.run pins s σ H R I) (b.run pins s σ H R I)⟩
def itemsD : D → Option (List D)
  | .lst xs => some xs
  | .tup xs => some xs
  | _ => none
def seqI (m : EM D) : EM (List D) := fun ρ h => (m ρ h).bind fun d h1 => Out.of (itemsD d) h1
def rg (lo : Int) (n : Nat) : List D := (List.range n).map fun (i : Nat) => D.int (lo + i)
def r62 (i : Int) : Bool := decide (-(2 ^ 62) ≤ i ∧ i < 2 ^ 62)
def rng1D : List D → Option (List D)
  | [.int j] => if r62 j then some (rg 0 j.toNat) else none
  | _ => none
def rng2D : List D → Option (List D)
  | [.int i, .int j] => if r62 i && r62 j then some (rg i (j - i).toNat) else none
  | _ => none
def ofI (f : List D → Option (List D)) (m : EM (List D)) : EM (List D) := fun ρ h => (m ρ h).bind fun d h1 => Out.of (f d) h1
def enumL (xs : List D) : List D := xs.mapIdx fun i x => D.tup [.int i, x]
def enumI (m : EM D) : EM (List D) := fun ρ h => (m ρ h).bind fun d h1 => Out.of ((itemsD d).map enumL) h1
def zipD (a b : D) : Option (List D) := (itemsD a).bind fun xs => (itemsD b).map fun ys => (xs.zip ys).map fun p => D.tup [p.1, p.2]
def zipI (a b : EM D) : EM (List D) := fun ρ h => (a ρ h).bind fun d h1 => (b ρ h1).bind fun e h2 => Out.of (zipD d e) h2
section
variable {T : PP} {X : Cx} {W : WX} {tg : Expr}
theorem itok_list {ah : Option (Addr × Addr)} {H : Hp} {L : Addr → Prop} {a : Addr} {vs : List V} {ds : List D} (h : hide H L a = some (.lst vs)) (r : RepAll (kf T X) X.mg ah (hide H L) vs ds) : ItOk T X ah (Itl X.K a) (hide H L) ds := fun H2 L2 k lk i => by
  have h2 := of_hide (k _ _ h (fun ps z => by cases z))
  refine ⟨fun d e => ?_, fun hl => ⟨vs, SqL.of h2.2, by rw [r.length, hl]; exact Nat.le_refl _⟩⟩
  obtain ⟨v, e1, r1⟩ := r.get e
  refine ⟨⟨vs, v, SqL.of h2.2, e1⟩, fun x H' ⟨y1, y2⟩ => ?_⟩
  subst y1
  have := y2 vs (SqL.of h2.2)
  rw [e1] at this; cases this
  exact ⟨Same.refl _, r1.keeps k⟩
theorem itok_tup {ah : Option (Addr × Addr)} {H : Hp} {L : Addr → Prop} {a : Addr} {vs : List V} {ds : List D} (h : TupAt (kf T X) (hide H L) a vs) (r : RepAll (kf T X) X.mg ah (hide H L) vs ds) : ItOk T X ah (Itt X.K a) (hide H L) ds := fun H2 L2 k lk i => by
  have h2 : SqT X.K H2 a vs := SqT.hide (SqT.keeps k h.sq)
  refine ⟨fun d e => ?_, fun hl => ⟨vs, h2, by rw [r.length, hl]; exact Nat.le_refl _⟩⟩
  obtain ⟨v, e1, r1⟩ := r.get e
  refine ⟨⟨vs, v, h2, e1⟩, fun x H' ⟨y1, y2⟩ => ?_⟩
  subst y1
  have := y2 vs h2
  rw [e1] at this; cases this
  exact ⟨Same.refl _, r1.keeps k⟩
theorem vi_seq {e : Expr} {m : EM D} (he : VE T X W e m) : VI T X W tg e (seqI m) := by
  obtain ⟨t, p, q⟩ := he
  refine ⟨_, PI.or (pi_list p) (pi_tup p), fun ah L σ H ρ h Q w z => ?_⟩
  have z' : Post T X W ah L σ H (RI T X ah L) ((m ρ h).bind fun d h1 => Out.of (itemsD d) h1) Q := z
  cases e1 : m ρ h with
  | stuck => rw [e1] at z'; exact z'.elim
  | err c h1 =>
    rw [e1] at z'
    exact .inl (q ah L σ H ρ h _ w (by rw [e1]; exact z'))
  | ok d h1 =>
    rw [e1] at z'
    obtain ⟨ds, e2, z2⟩ := Post.of z'
    cases d with
    | lst xs =>
      cases e2
      refine .inl (q ah L σ H ρ h _ w ?_)
      rw [e1]
      intro v H1 x g r
      cases r with
      | lst k1 k2 => exact ⟨_, rfl, ⟨_, SqL.of (of_hide k1).2⟩, z2 _ H1 x g (itok_list k1 k2)⟩
    | tup xs =>
      cases e2
      refine .inr (q ah L σ H ρ h _ w ?_)
      rw [e1]
      intro v H1 x g r
      cases r with
      | tup k1 k2 => exact ⟨_, rfl, ⟨_, SqT.hide k1.sq⟩, z2 _ H1 x g (itok_tup k1 k2)⟩
    | _ => cases e2
theorem itok_rng {ah : Option (Addr × Addr)} {V : Hp} (lo : Int) (n : Nat) : ItOk T X ah (Itr lo n) V (rg lo n) := fun H2 L2 k lk i => by
  refine ⟨fun d e => ?_, fun hl => by unfold rg at hl; rw [List.length_map, List.length_range] at hl; rw [hl]; exact Nat.le_refl _⟩
  unfold rg at e
  have hlt : i < n := by
    have := (List.getElem?_eq_some_iff.mp e).1
    rwa [List.length_map, List.length_range] at this
  rw [List.getElem?_map, List.getElem?_range hlt] at e
  cases e
  refine ⟨hlt, fun x H' ⟨y1, y2⟩ => ?_⟩
  subst y1; subst y2
  exact ⟨Same.refl _, .int _⟩
theorem vif_range1 {a : Expr} {p pos : Pos} {m : EM (List D)} (hg : Gl X "range") (hm : X.mg "range" = none) (ha : VA T X W [a] m) (hs : starEach [a] X.env = [(false, eval a X.env)] := by rfl) : VIf T X W tg (.Call (.Name "range" p) [a] [] pos) (ofI rng1D m) := by
  obtain ⟨t, pt, q⟩ := ha
  refine ⟨_, pi_range1 hg hm pt hs, fun ah L σ H ρ h Q w z => ?_⟩
  refine q ah L σ H ρ h _ w (Post.seq z fun ds h1 vs H1 e1 g1 r1 p1 => ?_)
  obtain ⟨is, e2, p2⟩ := Post.of p1
  match ds, r1, e2 with
  | [.int j], r1, e2 =>
    obtain ⟨v, rfl, r2⟩ := one_of r1
    cases r2
    have e3 : (if r62 j then some (rg 0 j.toNat) else none) = some is := e2
    split at e3
    · rename_i c
      cases e3
      have c' := of_decide_eq_true c
      exact ⟨j, rfl, c'.1, c'.2, p2 _ H1 .refl g1 fun V => itok_rng 0 j.toNat⟩
    · cases e3
theorem vif_range2 {a b : Expr} {p pos : Pos} {m : EM (List D)} (hg : Gl X "range") (hm : X.mg "range" = none) (ha : VA T X W [a, b] m) (hs : starEach [a, b] X.env = [(false, eval a X.env), (false, eval b X.env)] := by rfl) (hs2 : starEach [b] X.env = [(false, eval b X.env)] := by rfl) :
    VIf T X W tg (.Call (.Name "range" p) [a, b] [] pos) (ofI rng2D m) := by
  obtain ⟨t, pt, q⟩ := ha
  refine ⟨_, pi_range2 hg hm pt hs hs2, fun ah L σ H ρ h Q w z => ?_⟩
  refine q ah L σ H ρ h _ w (Post.seq z fun ds h1 vs H1 e1 g1 r1 p1 => ?_)
  obtain ⟨is, e2, p2⟩ := Post.of p1
  match ds, r1, e2 with
  | [.int i, .int j], r1, e2 =>
    obtain ⟨x, y, rfl, r2, r3⟩ := two_of r1
    cases r2; cases r3
    have e3 : (if r62 i && r62 j then some (rg i (j - i).toNat) else none) = some is := e2
    split at e3
    · rename_i c
      cases e3
      rw [Bool.and_eq_true] at c
      have c1 := of_decide_eq_true c.1
      have c2 := of_decide_eq_true c.2
      exact ⟨i, j, rfl, ⟨c1.1, c1.2, c2.1, c2.2⟩, p2 _ H1 .refl g1 fun V => itok_rng i _⟩
    · cases e3
theorem rep_new {ah : Option (Addr × Addr)} {H2 : Hp} {L2 : Addr → Prop} {Tn : Addr} {ob : Obj} {vs : List V} {ds : List D} (lk : LOk H2 L2) (hn : H2 Tn = none) (hd : ob.dict = none) (r : RepAll (kf T X) X.mg ah (hide H2 L2) vs ds) :
    Same H2 (upd H2 Tn (.frz ob (.tup vs))) ∧ Rep (kf T X) X.mg ah (hide (upd H2 Tn (.frz ob (.tup vs))) L2) (.ref Tn) (.tup ds) := ⟨same_upd hn, rep_tup_new lk hn hd r⟩
/-- a list or a tuple that stands in the view -/
theorem seq_of {ah : Option (Addr × Addr)} {H : Hp} {L : Addr → Prop} {v : V} {d : D} {xs : List D} (r : Rep (kf T X) X.mg ah (hide H L) v d) (e : itemsD d = some xs) : ∃ (b : Bool) (a : Addr) (vs : List V), v = .ref a ∧ (∀ H2 L2, Keeps (hide H L) (hide H2 L2) → SqB b X.K H2 a vs) ∧ RepAll (kf T X) X.mg ah (hide H L) vs xs := by
  cases r with
  | lst h1 h2 => cases e; exact ⟨false, _, _, rfl, fun H2 L2 k => SqL.of (of_hide (k _ _ h1 (fun ps z => by cases z))).2, h2⟩
  | tup h1 h2 => cases e; exact ⟨true, _, _, rfl, fun H2 L2 k => SqT.hide (SqT.keeps k h1.sq), h2⟩
  | _ => cases e
theorem itok_enumB {ah : Option (Addr × Addr)} {V0 : Hp} {b : Bool} {a : Addr} {k : Int} {vs : List V} {ds : List D} (h : ∀ H2 L2, Keeps V0 (hide H2 L2) → SqB b X.K H2 a vs) (r : RepAll (kf T X) X.mg ah V0 vs ds) : ItOk T X ah (IteB b X.K a k) V0 (ds.mapIdx fun i x => D.tup [.int (k + (i : Nat)), x]) := fun H2 L2 kp lk i => by
  have h2 := h H2 L2 kp
  refine ⟨fun d e => ?_, fun hl => ⟨vs, h2, by rw [r.length, hl]; simp⟩⟩
  rw [List.getElem?_mapIdx] at e
  cases q : ds[i]? with
  | none => rw [q] at e; cases e
  | some d0 =>
    rw [q] at e; cases e
    obtain ⟨v, e1, r1⟩ := r.get q
    refine ⟨⟨vs, v, h2, e1⟩, fun x H' ⟨Tn, y, ob, y1, y2, yd, y3, y4⟩ => ?_⟩
    subst y1; subst y3
    have := y4 vs h2
    rw [e1] at this; cases this
    exact rep_new lk y2 yd (.cons (.int _) (.cons (r1.keeps kp) .nil))
theorem itok_zipB {ah : Option (Addr × Addr)} {V0 : Hp} {b1 b2 : Bool} {a c : Addr} {vs us : List V} {ds es : List D} (h : ∀ H2 L2, Keeps V0 (hide H2 L2) → SqB b1 X.K H2 a vs) (r : RepAll (kf T X) X.mg ah V0 vs ds) (h' : ∀ H2 L2, Keeps V0 (hide H2 L2) → SqB b2 X.K H2 c us) (r' : RepAll (kf T X) X.mg ah V0 us es) :
    ItOk T X ah (ItzB b1 b2 X.K a c) V0 ((ds.zip es).map fun p => D.tup [p.1, p.2]) := fun H2 L2 kp lk i => by
  have h2 := h H2 L2 kp
  have h2' := h' H2 L2 kp
  refine ⟨fun d e => ?_, fun hl => ⟨vs, us, h2, h2', ?_⟩⟩
  · rw [List.getElem?_map] at e
    cases q : (ds.zip es)[i]? with
    | none => rw [q] at e; cases e
    | some d0 =>
      rw [q] at e; cases e
      obtain ⟨q1, q2⟩ := List.getElem?_zip_eq_some.mp q
      obtain ⟨v, e1, r1⟩ := r.get q1
      obtain ⟨u, e2, r2⟩ := r'.get q2
      refine ⟨⟨vs, us, v, u, h2, h2', e1, e2⟩, fun x H' ⟨Tn, y, y', ob, y1, y2, yd, y3, y4, y5⟩ => ?_⟩
      subst y1; subst y3
      have := y4 vs h2
      rw [e1] at this; cases this
      have := y5 us h2'
      rw [e2] at this; cases this
      exact rep_new lk y2 yd (.cons (r1.keeps kp) (.cons (r2.keeps kp) .nil))
  · rw [List.length_map, List.length_zip] at hl
    rw [r.length, r'.length]
    omega
theorem vi_enum {e : Expr} {p pos tpos : Pos} {elts : List Expr} {kk : Nat} {m : EM D} (hg : Gl X "enumerate") (hm : X.mg "enumerate" = none) (he : VE T X W e m) (hs1 : starEach [e] X.env = (false, eval e X.env) :: starEach [] X.env := by rfl) (hs : starEach [e] X.env = [(false, eval e X.env)] := by rfl) :
    VI T X W (.Tuple elts kk tpos) (.Call (.Name "enumerate" p) [e] [] pos) (enumI m) := by
  obtain ⟨t, pt, q⟩ := he
  have pa := pa_cons pt pa_nil hs1
  refine ⟨_, PI.or (pi_enumB true hg hm pa hs) (pi_enumB false hg hm pa hs), fun ah L σ H ρ h Q w z => ?_⟩
  have z' : Post T X W ah L σ H (RI T X ah L) ((m ρ h).bind fun d h1 => Out.of ((itemsD d).map enumL) h1) Q := z
  cases e1 : m ρ h with
  | stuck => rw [e1] at z'; exact z'.elim
  | err c h1 =>
    rw [e1] at z'
    exact .inl (q ah L σ H ρ h _ w (by rw [e1]; exact z'))
  | ok d h1 =>
    rw [e1] at z'
    obtain ⟨ds, e2, z2⟩ := Post.of z'
    have en : ∀ {xs : List D}, enumL xs = xs.mapIdx fun i x => D.tup [.int ((0 : Int) + (i : Nat)), x] := fun {xs} => by simp [enumL]
    cases d with
    | tup xs =>
      cases e2
      refine .inl (q ah L σ H ρ h _ w ?_)
      rw [e1]
      intro v H1 x g r
      cases r with
      | tup k1 k2 => exact ⟨_, _, rfl, SqT.hide k1.sq, z2 _ H1 x g (by rw [en]; exact itok_enumB (fun H2 L2 k => SqT.hide (SqT.keeps k k1.sq)) k2)⟩
    | lst xs =>
      cases e2
      refine .inr (q ah L σ H ρ h _ w ?_)
      rw [e1]
      intro v H1 x g r
      cases r with
      | lst k1 k2 => exact ⟨_, _, rfl, SqL.of (of_hide k1).2, z2 _ H1 x g (by rw [en]; exact itok_enumB (fun H2 L2 k => SqL.of (of_hide (k _ _ k1 (fun ps z => by cases z))).2) k2)⟩
    | _ => cases e2
theorem vi_zip {e e2 : Expr} {p pos tpos : Pos} {elts : List Expr} {kk : Nat} {ma mb : EM D} (hg : Gl X "zip") (hm : X.mg "zip" = none) (ha : VE T X W e ma) (hb : VE T X W e2 mb)
    (hs : starEach [e, e2] X.env = (false, eval e X.env) :: starEach [e2] X.env := by rfl) (hs2 : starEach [e2] X.env = (false, eval e2 X.env) :: starEach [] X.env := by rfl) (hpl : (backTo pos (starEach [e2] X.env)).any (·.1) = false := by rfl) : VI T X W (.Tuple elts kk tpos) (.Call (.Name "zip" p) [e, e2] [] pos) (zipI ma mb) := by
  obtain ⟨ta, pa, qa⟩ := ha
  obtain ⟨tb, pb, qb⟩ := hb
  have pp := fun b1 b2 => pi_zipB b1 b2 (p := p) (tpos := tpos) (elts := elts) (kk := kk) hg hm (pa_cons pa (pa_cons pb pa_nil hs2) hs) hs hpl
  refine ⟨_, PI.or (PI.or (pp true true) (pp true false)) (PI.or (pp false true) (pp false false)), fun ah L σ H ρ h Q w z => ?_⟩
  have key : ∀ (b1 b2 : Bool), (∀ d h1 v H1 (xs : List D), ma ρ h = .ok d h1 → itemsD d = some xs → Rep (kf T X) X.mg ah (hide H1 L) v d → ∃ a vs, v = .ref a ∧ (∀ H2 L2, Keeps (hide H1 L) (hide H2 L2) → SqB b1 X.K H2 a vs) ∧ RepAll (kf T X) X.mg ah (hide H1 L) vs xs) →
      (∀ d h1 d2 h2 v H1 (xs : List D), ma ρ h = .ok d h1 → mb ρ h1 = .ok d2 h2 → itemsD d2 = some xs → Rep (kf T X) X.mg ah (hide H1 L) v d2 → ∃ a vs, v = .ref a ∧ (∀ H2 L2, Keeps (hide H1 L) (hide H2 L2) → SqB b2 X.K H2 a vs) ∧ RepAll (kf T X) X.mg ah (hide H1 L) vs xs) →
      iZipB b1 b2 X.K (tCons ta (tCons tb tNil)) σ H Q := by
    intro b1 b2 k1 k2
    refine qa ah L σ H ρ h _ w (Post.seqE z fun d h1 v H1 ed e1 g1 r1 p1 => ?_)
    refine qb ah L σ H1 ρ h1 _ (w.ext e1 g1) (Post.seqE p1 fun d2 h2 v2 H2 ed2 e2 g2 r2 p2 => ?_)
    obtain ⟨ds, e3, p3⟩ := Post.of p2
    have r1' := r1.keeps (e2.hide g1.hl)
    unfold zipD at e3
    cases i1 : itemsD d with
    | none => rw [i1] at e3; cases e3
    | some xs =>
      cases i2 : itemsD d2 with
      | none => rw [i1, i2] at e3; cases e3
      | some ys =>
        rw [i1, i2] at e3; cases e3
        obtain ⟨a, vs, y1, y2, y3⟩ := k1 d h1 v H2 xs ed i1 r1'
        obtain ⟨c, us, y4, y5, y6⟩ := k2 d h1 d2 h2 v2 H2 ys ed ed2 i2 r2
        subst y1 y4
        have kk : Keeps (hide H2 L) (hide H2 L) := fun _ _ e _ => e
        exact ⟨a, c, vs, us, rfl, y2 H2 L kk, y5 H2 L kk, p3 _ H2 .refl g2 (itok_zipB y2 y3 y5 y6)⟩
  have tp : ∀ {H1 : Hp} {v : V} {xs : List D} {xs' : List D}, itemsD (.tup xs') = some xs → Rep (kf T X) X.mg ah (hide H1 L) v (.tup xs') → ∃ a vs, v = .ref a ∧ (∀ H2 L2, Keeps (hide H1 L) (hide H2 L2) → SqB true X.K H2 a vs) ∧ RepAll (kf T X) X.mg ah (hide H1 L) vs xs := fun e r => by
    cases e
    cases r with
    | tup h1 h2 => exact ⟨_, _, rfl, fun H2 L2 k => SqT.hide (SqT.keeps k h1.sq), h2⟩
  have ls : ∀ {H1 : Hp} {v : V} {xs : List D} {xs' : List D}, itemsD (.lst xs') = some xs → Rep (kf T X) X.mg ah (hide H1 L) v (.lst xs') → ∃ a vs, v = .ref a ∧ (∀ H2 L2, Keeps (hide H1 L) (hide H2 L2) → SqB false X.K H2 a vs) ∧ RepAll (kf T X) X.mg ah (hide H1 L) vs xs := fun e r => by
    cases e
    cases r with
    | lst h1 h2 => exact ⟨_, _, rfl, fun H2 L2 k => SqL.of (of_hide (k _ _ h1 (fun ps z => by cases z))).2, h2⟩
  have no : ∀ {α : Prop} {d : D} {xs : List D}, itemsD d = some xs → (∀ ys, d ≠ .tup ys) → (∀ ys, d ≠ .lst ys) → α := fun {α d xs} e n1 n2 => by
    cases d with
    | lst ys => exact (n2 ys rfl).elim
    | tup ys => exact (n1 ys rfl).elim
    | _ => cases e
  cases e1 : ma ρ h with
  | stuck =>
    have z' : Post T X W ah L σ H (RI T X ah L) ((ma ρ h).bind fun d h1 => (mb ρ h1).bind fun e h2 => Out.of (zipD d e) h2) Q := z
    rw [e1] at z'; exact z'.elim
  | err c h1 => exact .inl (.inl (key true true (fun d h1 v H1 xs e => by rw [e1] at e; cases e) (fun d h1 d2 h2 v H1 xs e => by rw [e1] at e; cases e)))
  | ok d h1 =>
    have hd : ∀ b1, (∀ (xs : List D) v H1, itemsD d = some xs → Rep (kf T X) X.mg ah (hide H1 L) v d → ∃ a vs, v = .ref a ∧ (∀ H2 L2, Keeps (hide H1 L) (hide H2 L2) → SqB b1 X.K H2 a vs) ∧ RepAll (kf T X) X.mg ah (hide H1 L) vs xs) →
        (iZipB b1 true X.K (tCons ta (tCons tb tNil)) σ H Q ∨ iZipB b1 false X.K (tCons ta (tCons tb tNil)) σ H Q) := by
      intro b1 k1
      have k1' : ∀ d' h1' v H1 (xs : List D), ma ρ h = .ok d' h1' → itemsD d' = some xs → Rep (kf T X) X.mg ah (hide H1 L) v d' → ∃ a vs, v = .ref a ∧ (∀ H2 L2, Keeps (hide H1 L) (hide H2 L2) → SqB b1 X.K H2 a vs) ∧ RepAll (kf T X) X.mg ah (hide H1 L) vs xs := fun d' h1' v H1 xs e => by
        rw [e1] at e; cases e; exact k1 xs v H1
      by_cases c : ∃ ys h2, mb ρ h1 = .ok (.lst ys) h2
      · obtain ⟨ys, h2, c⟩ := c
        refine .inr (key b1 false k1' fun d' h1' d2 h2' v H1 xs e e' i r => ?_)
        rw [e1] at e; cases e
        rw [c] at e'; cases e'
        exact ls i r
      · refine .inl (key b1 true k1' fun d' h1' d2 h2' v H1 xs e e' i r => ?_)
        rw [e1] at e; cases e
        cases d2 with
        | lst ys => exact (c ⟨ys, h2', e'⟩).elim
        | tup ys => exact tp i r
        | _ => cases i
    cases d with
    | lst xs => exact .inr (hd false fun xs v H1 i r => ls i r)
    | tup xs => exact .inl (hd true fun xs v H1 i r => tp i r)
    | _ => exact .inl (hd true fun xs v H1 i r => by cases i)
theorem VIf.vi {e : Expr} {m : EM (List D)} (h : VIf T X W tg e m) : VI T X W tg e m := by
  obtain ⟨t, p, q⟩ := h
  refine ⟨t, p, fun ah L σ H ρ h Q w z => q ah L σ H ρ h Q w ?_⟩
  cases e1 : m ρ h with
  | ok a h1 => rw [e1] at z; exact fun v H1 e g r => z v H1 e g (r _)
  | err c h1 => rw [e1] at z; exact z
  | stuck => rw [e1] at z; exact z
end
end VL

set_option Elab.async false
set_option linter.all false
set_option maxRecDepth 100000
set_option maxHeartbeats 4000000
/-! VL14: defs, their calls, raise. -/
namespace VL
open PySem PySem.Spec PyProof.Rows L2
abbrev FM := List D → List D → Out D
/-- what a def promises: that it ends as its mirror does -/
def spV (T : PP) (K : PySem.W.Frag) (mg : Str → Option Value) (n : Nat) (fm : FM) : Sp := fun vs H Q E => ∃ (ah : Option (Addr × Addr)) (L : Addr → Prop) (ds h : List D), vs.length = n ∧ GloK T K mg ah L H h ∧ RepAll (kfK T K) mg ah (hide H L) vs ds ∧
  match fm ds h with
  | .ok d h1 => ∀ v H1, Ext ah H H1 → GloK T K mg ah L H1 h1 → Rep (kfK T K) mg ah (hide H1 L) v d → Q v H1
  | .err c h1 => ∀ cls dx H1, Ext ah H H1 → GloK T K mg ah L H1 h1 → ExcRep mg c cls dx H1 → E cls dx H1
  | .stuck => False
def startS (N n : Nat) (ds : List D) : SEnv := ds.map SV.sh ++ List.replicate (N - n) SV.un
def runF (N n : Nat) (m : SM) : FM := fun ds h => match m (startS N n ds) h with
  | .nx _ h1 => .ok .non h1
  | .ret d h1 => .ok d h1
  | .err c _ h1 => .err c h1
  | _ => .stuck
theorem vl_fn {T : PP} {P : Program} {w : World} {K : PySem.W.Frag} {mg : Str → Option Value} {base : Heap} {x qual : Str} {st : Stmt} {f : Addr} {fd : FuncData} {N ps : List Str} {k : Nat} {m : SM} (F : Fun K x qual st f fd) (S : FnScope N ps (defScope st))
    (hb : ∀ (cdv : Value) (A : Around) (outer : List Env) (s : Shared) (H : Hp) (E : XK), Room k (A.deeper (envOfC qual (defScope st) s.heap.objs.size f cdv)) → VSs T (cxOf (L2.CX P w) P w K mg base N qual (defScope st) f cdv A outer s H E) (fun cls d _ H => E cls d H) (defBody st) m) :
    FnOk P w K mg base (L2.CX P w) (k + 1) f fd ps (spV T K mg ps.length (runF N.length ps.length m)) := by
  have hpl : ps.length ≤ N.length := by have := congrArg List.length S.pre; rw [List.length_take] at this; omega
  refine F.okX S (fun vs H Q E ⟨ah, L, ds, h, q, _⟩ => q) fun cdv A outer s H vs Q E hr ⟨ah, L, ds, h, hl, g, r, p⟩ => ?_
  obtain ⟨t, pt, qt⟩ := hb cdv A outer s H E hr
  refine ⟨t, pt, ?_⟩
  have noown : ∀ (i : Nat) (d : D), (startS N.length ps.length ds)[i]? ≠ some (.own d) := fun i d e => by
    unfold startS at e
    rw [List.getElem?_append] at e
    split at e
    · rw [List.getElem?_map] at e
      cases q : ds[i]? with
      | none => rw [q] at e; cases e
      | some z => rw [q] at e; cases e
    · rw [List.getElem?_replicate] at e
      split at e <;> cases e
  have lx : Lx L (L2.start N vs) (startS N.length ps.length ds) = L := by
    funext a
    refine propext ⟨fun z => z.elim id fun ⟨i, d, e, _⟩ => (noown i d e).elim, .inl⟩
  have s0 : SRel T K mg ah L H (L2.start N vs) H (startS N.length ps.length ds) h := by
    refine ⟨?_, by rw [lx]; exact g, fun i d e => ?_, fun i d e => (noown i d e).elim, fun i j a d d' e => (noown i d e).elim, .refl, g.lok, fun a c e => ?_⟩
    · unfold L2.start startS
      rw [List.length_append, List.length_append, List.length_map, List.length_map, List.length_replicate, List.length_replicate, ← r.length, hl]
    · rw [lx]
      unfold startS at e
      rw [List.getElem?_append] at e
      split at e
      · rename_i hi
        rw [List.length_map] at hi
        rw [List.getElem?_map] at e
        cases q : ds[i]? with
        | none => rw [q] at e; cases e
        | some z =>
          rw [q] at e; cases e
          obtain ⟨v, e1, r1⟩ := r.get q
          refine ⟨v, ?_, r1⟩
          unfold L2.start
          rw [List.getElem?_append_left (by rw [List.length_map, r.length]; exact hi), List.getElem?_map, e1]
          rfl
      · rw [List.getElem?_replicate] at e
        split at e <;> cases e
    · obtain ⟨l1, l2, ⟨o, l3⟩, _⟩ := g.hand a c e
      exact ⟨l1, l2, by rw [l3]; intro z; cases z⟩
  refine qt ah L H (L2.start N vs) H (startS N.length ps.length ds) h _ s0 ?_
  unfold runF at p
  cases q : m (startS N.length ps.length ds) h with
  | nx ρ1 h1 => rw [q] at p; exact fun σ1 H1 s1 t1 => p _ H1 s1.ext s1.glo0 .non
  | ret d h1 => rw [q] at p; exact fun v H1 e g r => p v H1 e g r
  | err c ρ1 h1 => rw [q] at p; exact fun cls dx σ1 H1 s1 t1 r => p cls dx H1 s1.ext s1.glo0 r
  | brk ρ1 h1 => rw [q] at p; exact p.elim
  | ct ρ1 h1 => rw [q] at p; exact p.elim
  | stuck => rw [q] at p; exact p.elim
/-- a recursive def, no depth left -/
theorem vl_fn0 {T : PP} {P : Program} {w : World} {K : PySem.W.Frag} {mg : Str → Option Value} {base : Heap} {f : Addr} {fd : FuncData} {ps : List Str} {k : Nat} : FnOk P w K mg base (L2.CX P w) k f fd ps (spV T K mg ps.length fun _ _ => .stuck) :=
  ⟨fun vs H Q E ⟨ah, L, ds, h, q, _⟩ => q, fun A outer s H args us vs Q E hr e0 hb r ⟨ah, L, ds, h, _, _, _, z⟩ => z.elim⟩
section
variable {T : PP} {X : Cx} {W : WX}
def callF (n : Nat) (ma : EM (List D)) (fm : FM) : EM D := fun ρ h => (ma ρ h).bind fun ds h1 => if ds.length = n then fm ds h1 else .stuck
/-- what leaves a call is taken -/
def PassW (X : Cx) (W : WX) : Prop := ∀ σ, PassesAt (L2.CX X.prog X.w) X σ (WE W σ)
theorem passW {X : Cx} {W : WX} (tk : Takes X W) : PassW X W := fun σ => passAt tk σ
theorem passF {X : Cx} : PassW X wF := fun σ => passAt (L2.takes0) σ
theorem ve_call {f : Addr} {fd : FuncData} {ps : List Str} {k n : Nat} {fm : FM} {x : Str} {p pos : Pos} {e : Expr} {es : List Expr} {ma : EM (List D)} (F : FnOk X.prog X.w X.K X.mg X.base (L2.CX X.prog X.w) k f fd ps (spV T X.K X.mg n fm)) (hr : Room k X.A) (hm : X.mg x = some (.ref f)) (hk : PySem.W.keepIn X.K (.ref f) = true)
    (hb : Binds X.K fd ps []) (hx : PassW X W) (hg : Gl X x) (ha : VA T X W (e :: es) ma) (hdb : (x == ("__debug__" : Str)) = false := by decide) (he : starEach (e :: es) X.env = (false, eval e X.env) :: starEach es X.env := by rfl) (hpl : (backTo pos (starEach es X.env)).any (·.1) = false := by rfl) :
    VE T X W (.Call (.Name x p) (e :: es) [] pos) (callF n ma fm) := by
  obtain ⟨t, pt, qt⟩ := ha
  refine ⟨_, pe_callS F hr hg hm hk hb hx pt hdb he hpl, fun ah L σ H ρ h Q w z => ?_⟩
  refine qt ah L σ H ρ h _ w (Post.seq z fun ds h1 vs H1 e1 g1 r1 p1 => ?_)
  by_cases c : ds.length = n
  · rw [if_pos c] at p1
    refine ⟨ah, L, ds, h1, by rw [r1.length]; exact c, g1, r1, ?_⟩
    cases q : fm ds h1 with
    | ok d h2 => rw [q] at p1; exact fun v H2 x g r => p1 v H2 x g r
    | err c h2 => rw [q] at p1; exact fun cls dx H2 x g r => p1 cls dx H2 x g r
    | stuck => rw [q] at p1; exact p1.elim
  · rw [if_neg c] at p1; exact p1.elim
/-! ### raise -/
def raiseM (c : Str) : SM := fun ρ h => .err ⟨c, []⟩ ρ h
theorem pmk_own0 {x : Str} {p pos : Pos} {C : Addr} {bmB : List Value} {B newId initId : String} (F : ExcBaseFacts B newId initId bmB) (q : PySem.W.excIn X.K C bmB newId = true) (gC : X.mg x = some (.ref C)) (kC : PySem.W.keepIn X.K (.ref C) = true) (r : Raises X (.ref C)) (hg : Gl X x)
    (hdb : (x == ("__debug__" : Str)) = false := by decide) : PMk X (.Call (.Name x p) [] [] pos) (fun _ H Q => Q (.ref C) none H) := by
  intro pins s σ H Q I h
  refine wpAny_Call_Name_kw (ld_glob I hg gC ?_ hdb)
  refine PySem.W.callWith_K0 I.kIn kC ?_
  show wpAny _ _ (call (.ref C) []) _ _ _
  obtain ⟨bm, N, nm, qn, bs, hdct, sn, sub, ab, col, dd, k0, k1, k2, k3, k5, mN, hC, hN, hni, T⟩ := exc_obj I.kIn q
  refine wpAny_call_exc_subT F T hC hN hni (fun h' e hm => ?_) (by show 0 ≤ sizeLine; omega)
  exact mk_of I hm r h (I.hok.gone hm.new)
theorem vs_raise {x : Str} {p pos pos' : Pos} {C : Addr} {bmB : List Value} {B newId initId : String} (hc : X.calm = true) (tk : Takes X W) (F : ExcBaseFacts B newId initId bmB) (q : PySem.W.excIn X.K C bmB newId = true) (gC : X.mg x = some (.ref C)) (kC : PySem.W.keepIn X.K (.ref C) = true) (r : Raises X (.ref C)) (hg : Gl X x)
    (hdb : (x == ("__debug__" : Str)) = false := by decide) : VS T X W (.Raise (some (.Call (.Name x p) [] [] pos)) none pos') (raiseM x) :=
  ⟨_, ps_raise hc tk (pmk_own0 F q gC kC r hg hdb), fun ah L0 H0 σ H ρ h D s z => z (.ref C) none σ H s .refl ⟨C, gC, rfl, .inl ⟨rfl, rfl⟩⟩⟩
end
end VL

set_option Elab.async false
set_option linter.all false
set_option maxRecDepth 100000
set_option maxHeartbeats 4000000
/-! VL15: ints multiplied, max, min of two, tuple methods, statements that are never reached, pairs stored. -/
namespace VL
open PySem PySem.Spec PyProof.Rows L2
section
variable {T : PP} {X : Cx} {W : WX}
def mulI : D → D → Option D
  | .int i, .int j => if mulOk i j then some (.int (i * j)) else none
  | _, _ => none
theorem ov_mulI : OpV T X (binaryOp .Mult) mulI := ov_int op_mul fun x y d e => by
  obtain ⟨i, j, a, b, c, z⟩ := two_ints (c := mulOk) (g := fun i j => .int (i * j)) e
  exact ⟨i, j, a, b, by have := of_decide_eq_true c; exact this, .inl ⟨_, rfl, z⟩⟩
def max2D : List D → Option D
  | [.int i, .int j] => some (.int (if j > i then j else i))
  | _ => none
def min2D : List D → Option D
  | [.int i, .int j] => some (.int (if j < i then j else i))
  | _ => none
theorem cv_max2 (hc : X.calm = true) : CallV T X (.builtin "max") max2D := by
  refine ⟨_, call_max2 hc, fun ah L H xs ds d Q lk r e q => ?_⟩
  match ds, r, e with
  | [.int i, .int j], r, e =>
    obtain ⟨v, u, rfl, r1, r2⟩ := two_of r
    cases r1; cases r2; cases e
    exact ⟨i, j, rfl, q _ H (Same.refl H) (.int _)⟩
theorem cv_min2 (hc : X.calm = true) : CallV T X (.builtin "min") min2D := by
  refine ⟨_, call_min2 hc, fun ah L H xs ds d Q lk r e q => ?_⟩
  match ds, r, e with
  | [.int i, .int j], r, e =>
    obtain ⟨v, u, rfl, r1, r2⟩ := two_of r
    cases r1; cases r2; cases e
    exact ⟨i, j, rfl, q _ H (Same.refl H) (.int _)⟩
/-! ### never reached -/
def stuckM : SM := fun _ _ => .stuck
theorem vs_never {st : Stmt} : VS T X W st stuckM := ⟨_, ps_never, fun ah L0 H0 σ H ρ h D s p => p.elim⟩
/-! ### methods of tuples -/
def tBMS (r : V → List V → Hp → VK → Prop) (to : TE) (t : TA) : TE := fun σ H Q => to σ H fun x H1 => (∃ p ob xs, x = .ref p ∧ H1 p = some (.frz ob (.tup xs)) ∧ ob.dict = none) ∧ t σ H1 fun xs H2 => r x xs H2 Q
theorem pe_bmT {o e : Expr} {es : List Expr} {to : TE} {t : TA} {name : Str} {apos cpos : Pos} {id : String} {r : V → List V → Hp → VK → Prop} (slot : Slot "tuple" name id) (hty : typeOf (.builtin id) = pure (.type "method_descriptor")) (hm : MtR X id r) (ho : PE X o to) (ha : PA X (e :: es) t)
    (hbase : attributeBase o name X.env (eval o X.env) = eval o X.env := by rfl)
    (hfew : ((backTo cpos (starEach (e :: es) X.env)).all (fun x => !x.1) && (backToKw cpos (keywordEach [] X.env)).all (fun x => x.1.isSome)
      && decide ((e :: es).length + ([] : List Keyword).length + (if ([] : List Keyword).isEmpty then 0 else 1) < 30)) = true := by rfl)
    (hline : (apos.endLine == cpos.line) = true := by rfl) (hs : starEach (e :: es) X.env = (false, eval e X.env) :: starEach es X.env := by rfl) (hplain : (backTo cpos (starEach es X.env)).any (·.1) = false := by rfl) :
    PE X (.Call (.Attribute o name apos) (e :: es) [] cpos) (tBMS r to t) := by
  refine ⟨fun pins s σ H Q I h => ?_⟩
  refine wpAny_Call_method_late hbase hfew hline rfl (thn (ho.run pins s σ H _ I h) fun v s1 ⟨x, H1, I1, r1, ty, q1⟩ => ?_)
  obtain ⟨p, ob, xs, rfl, hp, hd⟩ := ty
  obtain rfl : v = Value.ref p := r1
  obtain ⟨ho1, z, its, rv, o2, ho2, hc2, n2, hd2⟩ := (show ObjOk X.prog X.w H1 s1.heap p (.frz ob (.tup xs)) from I1.hok p _ hp)
  rw [ho1] at ho2
  cases ho2
  refine ⟨"tuple", id, PySem.F.plainAttrs_tuple, slot, hty, ⟨ob, ho1, hc2⟩, fun a e => by cases e; exact ⟨ob, ho1, hd⟩, ?_⟩
  have hA := ha.run cpos pins s1 σ H1 _ I1 q1
  rw [hs] at hA ⊢
  refine Calls.callWith_builtin (by show (false || (backTo cpos (starEach es X.env)).any (·.1)) = false; rw [hplain] <;> rfl) (Calls.evalArgs_plain ?_)
  exact thn hA fun us s2 ⟨vs, H2, I2, r2, q2⟩ => hm pins s2 σ H2 (.ref p) vs _ us Q I2 rfl r2 q2
/-- a tuple's method on data -/
def MtT (T : PP) (X : Cx) (id : String) (f : List D → List D → Option D) : Prop := ∃ r, MtR X id r ∧ ∀ (ah : Option (Addr × Addr)) L H x xs dx ds d Q, LOk H L → Rep (kf T X) X.mg ah (hide H L) x (.tup dx) → RepAll (kf T X) X.mg ah (hide H L) xs ds → f dx ds = some d →
  (∀ v H1, Same H H1 → Rep (kf T X) X.mg ah (hide H1 L) v d → Q v H1) → r x xs H Q
def mtM (f : List D → List D → Option D) (mo : EM D) (ma : EM (List D)) : EM D := fun ρ h => (mo ρ h).bind fun o h1 => match o with
  | .tup dx => (ma ρ h1).bind fun ds h2 => Out.of (f dx ds) h2
  | _ => .stuck
theorem ve_mtT (hk : T.kc = false) {o e : Expr} {es : List Expr} {name : Str} {apos cpos : Pos} {id : String} {f : List D → List D → Option D} {mo : EM D} {ma : EM (List D)} (slot : Slot "tuple" name id) (hty : typeOf (.builtin id) = pure (.type "method_descriptor")) (hm : MtT T X id f) (ho : VE T X W o mo) (ha : VA T X W (e :: es) ma)
    (hbase : attributeBase o name X.env (eval o X.env) = eval o X.env := by rfl)
    (hfew : ((backTo cpos (starEach (e :: es) X.env)).all (fun x => !x.1) && (backToKw cpos (keywordEach [] X.env)).all (fun x => x.1.isSome)
      && decide ((e :: es).length + ([] : List Keyword).length + (if ([] : List Keyword).isEmpty then 0 else 1) < 30)) = true := by rfl)
    (hline : (apos.endLine == cpos.line) = true := by rfl) (hs : starEach (e :: es) X.env = (false, eval e X.env) :: starEach es X.env := by rfl) (hplain : (backTo cpos (starEach es X.env)).any (·.1) = false := by rfl) :
    VE T X W (.Call (.Attribute o name apos) (e :: es) [] cpos) (mtM f mo ma) := by
  obtain ⟨r, mr, hr⟩ := hm
  obtain ⟨to, po, qo⟩ := ho
  obtain ⟨ta, pa, qa⟩ := ha
  refine ⟨_, pe_bmT slot hty mr po pa hbase hfew hline hs hplain, fun ah L σ H ρ h Q w p => ?_⟩
  refine qo ah L σ H ρ h _ w (Post.seq p fun d h1 v H1 e1 g1 r1 p1 => ?_)
  cases d with
  | tup dx =>
    cases r1 with
    | tup k1 k2 =>
      obtain ⟨ob, z1, z2⟩ := k1.at hk
      refine ⟨⟨_, ob, _, rfl, (of_hide z1).2, z2⟩, ?_⟩
      refine qa ah L σ H1 ρ h1 _ (w.ext e1 g1) (Post.seq p1 fun ds h2 vs H2 e2 g2 r2 p2 => ?_)
      obtain ⟨d, ed, p3⟩ := Post.of p2
      exact hr ah L H2 _ vs dx ds d Q g2.lok ((Rep.tup k1 k2).keeps (e2.hide g1.hl)) r2 ed fun v3 H3 s3 r3 => p3 v3 H3 (.same s3) (g2.same s3) r3
  | _ => exact p1.elim
/-- t.count(x) -/
def countD (xs : List D) (ds : List D) : Option D := match pyAll xs, ds with
  | some ps, [y] => (match y.py with
    | some p => if dOk p = true then some (.int ((ps.countP fun q => PyData.eqv q p : Nat) : Int)) else none
    | none => none)
  | _, _ => none
def rCountS (K : PySem.W.Frag) : V → List V → Hp → VK → Prop := fun x xs H Q => ∃ a y p ps, x = .ref a ∧ xs = [y] ∧ Dp K H (.ref a) (.tuple ps) ∧ Dp K H y p ∧ PyData.plainAll ps = true ∧ p.plain = true ∧ dOk p = true ∧ Q (.int ((ps.countP fun q => PyData.eqv q p : Nat) : Int)) H
theorem mt_countS (hu : X.A.units + 64 < cLine) : MtR X "tuple.count" (rCountS X.K) := by
  intro pins s σ H x xs v us Q I rx rv h
  obtain ⟨a, y, p, ps, rfl, rfl, h1, h2, h3, h4, h5, q⟩ := h
  obtain rfl : v = Value.ref a := rx
  obtain ⟨u, rfl, ru⟩ := rv.one
  obtain ⟨bs, rp⟩ := Dp.reads I p y u h2 ru
  cases h1 with
  | tup hs ha =>
    obtain ⟨its, rv1, ht, _⟩ := I.tuple hs
    obtain ⟨as, hr⟩ := Dp.readsAll I ps _ its ha rv1
    refine PySem.SeqAt.count_tuple_data (vs := its.toArray) ht (by simpa using hr) rp h3 h4 ?_ ⟨.int _, H, I.tok _, ⟨_, rfl⟩, q⟩
    exact dOk_room1 hu h5
theorem mtt_count (hu : X.A.units + 64 < cLine) : MtT T X "tuple.count" countD := ⟨_, mt_countS hu, fun ah L H x xs dx ds d Q lk rx rs e q => by
  unfold countD at e
  cases e1 : pyAll dx with
  | none => rw [e1] at e; cases e
  | some ps =>
    rw [e1] at e
    match ds, rs, e with
    | [y], rs, e =>
      dsimp only at e
      cases e2 : y.py with
      | none => rw [e2] at e; cases e
      | some p =>
        rw [e2] at e
        dsimp only at e
        split at e
        · rename_i c
          cases e
          obtain ⟨v, rfl, r1⟩ := one_of rs
          have h1 : (D.tup dx).py = some (.tuple ps) := by unfold D.py; rw [e1]; rfl
          have dp := (rx.keeps hide_sub).dp h1
          cases rx with
          | tup k1 k2 => exact ⟨_, v, p, ps, rfl, rfl, dp, (r1.keeps hide_sub).dp e2, pyAll_plain e1, D.py_plain e2, c, q _ H (Same.refl H) (.int _)⟩
        · cases e⟩
end
end VL

set_option Elab.async false
set_option linter.all false
set_option maxRecDepth 100000
set_option maxHeartbeats 4000000
/-! VL16: a, b = x, y: several values stored at once, some of them new lists of their own. -/
namespace VL
open PySem PySem.Spec PyProof.Rows L2
section
variable {T : PP} {X : Cx} {W : WX} {ah : Option (Addr × Addr)} {L0 L : Addr → Prop} {H0 H H1 H2 : Hp} {σ σ1 σ2 : L2.St} {ρ ρ1 ρ2 : SEnv} {h h1 h2 : List D}
/-- a state that is not shaken when the new lists at P are hidden, too -/
structure SRelP (T : PP) (X : Cx) (ah : Option (Addr × Addr)) (L0 : Addr → Prop) (H0 : Hp) (P : Addr → Prop) (σ : L2.St) (H : Hp) (ρ : SEnv) (h : List D) : Prop where
  s : SRel T X.K X.mg ah L0 H0 σ H ρ h
  sh : ∀ (i : Nat) (d : D), ρ[i]? = some (.sh d) → ∃ v, σ[i]? = some (some v) ∧ Rep (kf T X) X.mg ah (hide H fun b => Lx L0 σ ρ b ∨ P b) v d
  own : ∀ (i : Nat) (d : D) (a : Addr), ρ[i]? = some (.own d) → σ[i]? = some (some (.ref a)) → OwnAt (kf T X) X.mg ah (hide H fun b => Lx L0 σ ρ b ∨ P b) H a d
  new : ∀ p, P p → ¬ Own σ ρ p ∧ H0 p = none
theorem SRelP.of {P : Addr → Prop} (s : SRel T X.K X.mg ah L0 H0 σ H ρ h) (e : Ext ah H H2) (s2 : SRel T X.K X.mg ah L0 H0 σ H2 ρ h2) (hp : ∀ p, P p → H p = none) : SRelP T X ah L0 H0 P σ H2 ρ h2 := by
  have kp : Keeps (hide H (Lx L0 σ ρ)) (hide H2 fun b => Lx L0 σ ρ b ∨ P b) := fun b o z n => by
    obtain ⟨z1, z2⟩ := of_hide z
    rw [hide_out fun y => y.elim z1 fun y => by rw [hp b y] at z2; cases z2]
    exact e.keep b o z2 (fun c y => z1 (.inl (s.hand0 b c y).1)) n
  refine ⟨s2, fun i d q => ?_, fun i d a q1 q2 => ?_, fun p z => ⟨fun ⟨j, d', e1, e2⟩ => ?_, s.ext.dom p (hp p z)⟩⟩
  · obtain ⟨v, k1, k2⟩ := s.sh i d q
    exact ⟨v, k1, k2.keeps kp⟩
  · obtain ⟨a', k1, k2, k3⟩ := s.own i d q1
    rw [q2] at k1; cases k1
    refine k2.keeps kp fun o z n => e.keep a o z (fun c y => ?_) n
    obtain ⟨o', e5, _⟩ := s.lok0 a (s.hand0 a c y).1
    rw [k3] at e5; cases e5
  · obtain ⟨a, k1, k2, _⟩ := s.own j d' e1
    rw [e2] at k1; cases k1
    obtain ⟨o, k3, _⟩ := k2.mut
    rw [hp _ z] at k3; cases k3
theorem SRelP.set_sh {P : Addr → Prop} {i : Nat} {v : V} {d : D} (s : SRelP T X ah L0 H0 P σ H ρ h) (r : Rep (kf T X) X.mg ah (hide H fun b => Lx L0 σ ρ b ∨ P b) v d) : SRelP T X ah L0 H0 P (σ.set i (some v)) H (ρ.set i (.sh d)) h := by
  have sub : ∀ a, Lx L0 (σ.set i (some v)) (ρ.set i (.sh d)) a → Lx L0 σ ρ a := fun a z => z.imp id (own_set fun d e => by cases e)
  have kp : Keeps (hide H fun b => Lx L0 σ ρ b ∨ P b) (hide H fun b => Lx L0 (σ.set i (some v)) (ρ.set i (.sh d)) b ∨ P b) := hide_mono fun a z => z.imp (sub a) id
  refine ⟨s.s.set_sh (r.keeps (hide_mono fun a z => .inl z)), fun j d' q => ?_, fun j d' a q1 q2 => ?_, fun p z => ⟨fun y => (s.new p z).1 (own_set (fun d e => by cases e) y), (s.new p z).2⟩⟩
  · rcases set_get q with ⟨q1, q2⟩ | ⟨q1, q2⟩
    · subst q1; cases q2
      have hl : j < σ.length := by
        rw [s.s.len]
        have := (List.getElem?_eq_some_iff.mp q).1
        rwa [List.length_set] at this
      exact ⟨v, by rw [List.getElem?_set_self hl], r.keeps kp⟩
    · obtain ⟨u, u1, u2⟩ := s.sh j d' q2
      exact ⟨u, by rw [set_ne q1]; exact u1, u2.keeps kp⟩
  · rcases set_get q1 with ⟨q3, q4⟩ | ⟨q3, q4⟩
    · cases q4
    · rw [set_ne q3] at q2
      exact (s.own j d' a q4 q2).keeps kp fun o e _ => e
theorem SRelP.set_own {P : Addr → Prop} {i : Nat} {p : Addr} {d : D} (s : SRelP T X ah L0 H0 P σ H ρ h) (hp : P p) (r : OwnAt (kf T X) X.mg ah (hide H fun b => Lx L0 σ ρ b ∨ P b) H p d) : SRelP T X ah L0 H0 (fun b => P b ∧ b ≠ p) (σ.set i (some (.ref p))) H (ρ.set i (.own d)) h := by
  have sub : ∀ a, Lx L0 (σ.set i (some (.ref p))) (ρ.set i (.own d)) a → Lx L0 σ ρ a ∨ a = p := fun a z => by
    rcases z with z | ⟨j, d', e1, e2⟩
    · exact .inl (.inl z)
    · rcases set_get e1 with ⟨q1, q2⟩ | ⟨q1, q2⟩
      · subst q1
        rcases set_get e2 with ⟨_, q4⟩ | ⟨q3, _⟩
        · cases q4; exact .inr rfl
        · exact (q3 rfl).elim
      · rw [set_ne q1] at e2
        exact .inl (.inr ⟨j, d', q2, e2⟩)
  have k1 : Keeps (hide H fun b => Lx L0 σ ρ b ∨ P b) (hide H fun b => Lx L0 σ ρ b ∨ b = p) := hide_mono fun a z => z.imp id fun z => by rw [z]; exact hp
  have k2 : Keeps (hide H fun b => Lx L0 σ ρ b ∨ P b) (hide H fun b => Lx L0 (σ.set i (some (.ref p))) (ρ.set i (.own d)) b ∨ (P b ∧ b ≠ p)) := hide_mono fun a z => by
    rcases z with z | z
    · rcases sub a z with z | z
      · exact .inl z
      · exact .inr (by rw [z]; exact hp)
    · exact .inr z.1
  refine ⟨s.s.set_own (s.new p hp).1 (s.new p hp).2 (r.keeps k1 fun o e _ => e) (.inr ⟨fun j d' q => ?_, fun j d' a q1 q2 => (s.own j d' a q1 q2).keeps k1 fun o e _ => e⟩), fun j d' q => ?_, fun j d' a q1 q2 => ?_, fun q z => ⟨fun ⟨j, d', e1, e2⟩ => ?_, (s.new q z.1).2⟩⟩
  · obtain ⟨u, u1, u2⟩ := s.sh j d' q
    exact ⟨u, u1, u2.keeps k1⟩
  · rcases set_get q with ⟨q1, q2⟩ | ⟨q1, q2⟩
    · cases q2
    · obtain ⟨u, u1, u2⟩ := s.sh j d' q2
      exact ⟨u, by rw [set_ne q1]; exact u1, u2.keeps k2⟩
  · rcases set_get q1 with ⟨q3, q4⟩ | ⟨q3, q4⟩
    · subst q3; cases q4
      rcases set_get q2 with ⟨_, q4⟩ | ⟨q3, _⟩
      · cases q4; exact r.keeps k2 fun o e _ => e
      · exact (q3 rfl).elim
    · rw [set_ne q3] at q2
      exact (s.own j d' a q4 q2).keeps k2 fun o e _ => e
  · rcases set_get e1 with ⟨q1, q2⟩ | ⟨q1, q2⟩
    · subst q1
      rcases set_get e2 with ⟨_, q4⟩ | ⟨q3, _⟩
      · cases q4; exact z.2 rfl
      · exact (q3 rfl).elim
    · rw [set_ne q1] at e2
      exact (s.new q z.1).1 ⟨j, d', q2, e2⟩
/-! ### the values -/
/-- v, told by s, the new lists being at P -/
def Told (T : PP) (X : Cx) (ah : Option (Addr × Addr)) (L P : Addr → Prop) (H : Hp) (v : V) : SV → Prop
  | .un => False
  | .sh d => Rep (kf T X) X.mg ah (hide H fun b => L b ∨ P b) v d
  | .own d => ∃ p, v = .ref p ∧ P p ∧ OwnAt (kf T X) X.mg ah (hide H fun b => L b ∨ P b) H p d
def ownsAt : List V → List SV → List Addr
  | .ref p :: vs, .own _ :: ss => p :: ownsAt vs ss
  | _ :: vs, _ :: ss => ownsAt vs ss
  | _, _ => []
inductive ToldAll (T : PP) (X : Cx) (ah : Option (Addr × Addr)) (L P : Addr → Prop) (H : Hp) : List V → List SV → Prop
  | nil : ToldAll T X ah L P H [] []
  | cons {v : V} {vs : List V} {s : SV} {ss : List SV} : Told T X ah L P H v s → ToldAll T X ah L P H vs ss → ToldAll T X ah L P H (v :: vs) (s :: ss)
theorem Told.up {P P' : Addr → Prop} {v : V} {s : SV} (e : Ext ah H1 H2) (hl : ∀ a c, ah = some (a, c) → L a) (hP : ∀ p, P p → P' p) (hn : ∀ p, P' p → P p ∨ H1 p = none) (hh : ∀ p c, P p → ah ≠ some (p, c)) (t : Told T X ah L P H1 v s) : Told T X ah L P' H2 v s := by
  have kp : Keeps (hide H1 fun b => L b ∨ P b) (hide H2 fun b => L b ∨ P' b) := fun b o z n => by
    obtain ⟨z1, z2⟩ := of_hide z
    rw [hide_out fun y => y.elim (fun y => z1 (.inl y)) fun y => (hn b y).elim (fun y => z1 (.inr y)) fun y => by rw [y] at z2; cases z2]
    exact e.keep b o z2 (fun c y => z1 (.inl (hl b c y))) n
  cases s with
  | un => exact t.elim
  | sh d => exact Rep.keeps kp t
  | own d =>
    obtain ⟨p, e1, e2, e3⟩ := t
    exact ⟨p, e1, hP p e2, e3.keeps kp fun o z n => e.keep p o z (fun c y => hh p c e2 y) n⟩
theorem ToldAll.up {P P' : Addr → Prop} (e : Ext ah H1 H2) (hl : ∀ a c, ah = some (a, c) → L a) (hP : ∀ p, P p → P' p) (hn : ∀ p, P' p → P p ∨ H1 p = none) (hh : ∀ p c, P p → ah ≠ some (p, c)) : ∀ {vs : List V} {ss : List SV}, ToldAll T X ah L P H1 vs ss → ToldAll T X ah L P' H2 vs ss
  | _, _, .nil => .nil
  | _, _, .cons a b => .cons (a.up e hl hP hn hh) (ToldAll.up e hl hP hn hh b)
/-- the values of a display, the new lists each at its own address -/
def RM (T : PP) (X : Cx) (ah : Option (Addr × Addr)) (L : Addr → Prop) (H : Hp) : Hp → List V → List SV → Prop := fun H1 vs ss => ∃ P : Addr → Prop, (∀ p, P p → H p = none) ∧ ToldAll T X ah L P H1 vs ss ∧ (ownsAt vs ss).Nodup
def VAM (T : PP) (X : Cx) (W : WX) (es : List Expr) (m : EM (List SV)) : Prop :=
  ∃ t, PA X es t ∧ ∀ (ah : Option (Addr × Addr)) L σ H ρ h Q, View T X ah L σ H ρ h → Post T X W ah L σ H (RM T X ah L H) (m ρ h) Q → t σ H Q
def pnM : EM (List SV) := fun _ h => .ok [] h
def psM (a : EM D) (r : EM (List SV)) : EM (List SV) := fun ρ h => (a ρ h).bind fun d h1 => (r ρ h1).bind fun ss h2 => .ok (.sh d :: ss) h2
def poM (a : EM D) (r : EM (List SV)) : EM (List SV) := fun ρ h => (a ρ h).bind fun d h1 => (r ρ h1).bind fun ss h2 => .ok (.own d :: ss) h2
theorem vam_nil : VAM T X W [] pnM := ⟨_, pa_nil, fun ah L σ H ρ h Q w p => p _ _ .refl w.glo ⟨fun _ => False, fun p z => z.elim, .nil, List.nodup_nil⟩⟩
theorem ownsAt_mem {P : Addr → Prop} {p : Addr} : ∀ {vs : List V} {ss : List SV}, ToldAll T X ah L P H vs ss → p ∈ ownsAt vs ss → P p
  | _, _, .nil, h => by simp [ownsAt] at h
  | _, _, .cons (v := v) (vs := vs) (s := s) (ss := ss) t r, h => by
    cases s with
    | un => exact t.elim
    | sh d =>
      have h' : p ∈ ownsAt vs ss := by cases v <;> exact h
      exact ownsAt_mem r h'
    | own d =>
      obtain ⟨q, rfl, e2, _⟩ := t
      have h' : p ∈ q :: ownsAt vs ss := h
      rcases List.mem_cons.mp h' with e | h'
      · rw [e]; exact e2
      · exact ownsAt_mem r h'
theorem vam_sh {e : Expr} {es : List Expr} {ma : EM D} {mr : EM (List SV)} (ha : VE T X W e ma) (hr : VAM T X W es mr) (hs : starEach (e :: es) X.env = (false, eval e X.env) :: starEach es X.env := by rfl) : VAM T X W (e :: es) (psM ma mr) := by
  obtain ⟨ta, pa, qa⟩ := ha
  obtain ⟨tr, pr, qr⟩ := hr
  refine ⟨_, pa_cons pa pr hs, fun ah L σ H ρ h Q w p => ?_⟩
  refine qa ah L σ H ρ h _ w (Post.seq p fun d h1 v H1 e1 g1 r1 p1 => ?_)
  refine qr ah L σ H1 ρ h1 _ (w.ext e1 g1) (Post.seq p1 fun ss h2 vs H2 e2 g2 ⟨P, y1, y2, y3⟩ p2 => ?_)
  refine p2 (v :: vs) H2 .refl g2 ⟨P, fun p z => e1.dom p (y1 p z), .cons ?_ y2, by cases v <;> exact y3⟩
  refine Rep.keeps (fun b o z n => ?_) r1
  obtain ⟨z1, z2⟩ := of_hide z
  rw [hide_out fun y => y.elim z1 fun y => by rw [y1 b y] at z2; cases z2]
  exact e2.keep b o z2 (fun c y => z1 (g1.hl b c y)) n
theorem vam_ow {e : Expr} {es : List Expr} {ma : EM D} {mr : EM (List SV)} (ha : VN T X W e ma) (hr : VAM T X W es mr) (hs : starEach (e :: es) X.env = (false, eval e X.env) :: starEach es X.env := by rfl) : VAM T X W (e :: es) (poM ma mr) := by
  obtain ⟨ta, pa, qa⟩ := ha
  obtain ⟨tr, pr, qr⟩ := hr
  refine ⟨_, pa_cons pa pr hs, fun ah L σ H ρ h Q w p => ?_⟩
  refine qa ah L σ H ρ h _ w (Post.seq p fun d h1 v H1 e1 g1 r1 p1 => ?_)
  obtain ⟨q, rfl, hq, r1⟩ := r1
  obtain ⟨o, ho, hm⟩ := r1.mut
  have hcD : ∀ a c, ah = some (a, c) → (L a ∨ a = q) ∧ ¬ (L c ∨ c = q) := fun a c e => by
    obtain ⟨l1, l2, ⟨oc, l3⟩, _⟩ := w.glo.hand a c e
    exact ⟨.inl l1, fun z => z.elim l2 fun z => by rw [z, hq] at l3; cases l3⟩
  have hnq : ∀ c, ah ≠ some (q, c) := fun c z => by
    obtain ⟨l1, l2, _⟩ := w.glo.hand q c z
    obtain ⟨o', z1, _⟩ := w.glo.lok q l1
    rw [hq] at z1; cases z1
  have g1' : Glo T X ah (fun b => L b ∨ b = q) H1 h1 := g1.swap (fun a z => z.elim (g1.lok a) fun z => by subst z; exact ⟨o, ho, hm⟩) hcD
  have p1' := p1
  have p2 : Post T X W ah (fun b => L b ∨ b = q) σ H1 (RM T X ah (fun b => L b ∨ b = q) H1) (mr ρ h1) fun vs H2 => Q (.ref q :: vs) H2 := by
    cases e1' : mr ρ h1 with
    | ok ss h2 =>
      rw [e1'] at p1
      intro vs H2 e2 g2 ⟨P, y1, y2, y3⟩
      have gl : Glo T X ah L H2 h2 := g2.swap (fun a z => g2.lok a (.inl z)) fun a c e => ⟨(g1.hand a c e).1, (g1.hand a c e).2.1⟩
      have np : ¬ P q := fun z => by have := y1 q z; rw [ho] at this; cases this
      have conv : ∀ {v s}, Told T X ah (fun b => L b ∨ b = q) P H2 v s → Told T X ah L (fun b => P b ∨ b = q) H2 v s := fun {v s} t => by
        have ee : (fun b => (L b ∨ b = q) ∨ P b) = fun b => L b ∨ (P b ∨ b = q) := by funext b; exact propext ⟨fun z => z.elim (fun z => z.elim .inl fun z => .inr (.inr z)) fun z => .inr (.inl z), fun z => z.elim (fun z => .inl (.inl z)) fun z => z.elim .inr fun z => .inl (.inr z)⟩
        cases s with
        | un => exact t.elim
        | sh d => unfold Told at t ⊢; rw [← ee]; exact t
        | own d => obtain ⟨p, t1, t2, t3⟩ := t; exact ⟨p, t1, .inl t2, by rw [← ee]; exact t3⟩
      have convA : ∀ {vs ss}, ToldAll T X ah (fun b => L b ∨ b = q) P H2 vs ss → ToldAll T X ah L (fun b => P b ∨ b = q) H2 vs ss := by
        intro vs ss t
        induction t with
        | nil => exact .nil
        | cons a _ ih => exact .cons (conv a) ih
      refine p1 (.ref q :: vs) H2 e2 gl ⟨fun b => P b ∨ b = q, fun p z => z.elim (fun z => e1.dom p (y1 p z)) fun z => by rw [z]; exact hq, .cons ⟨q, rfl, .inr rfl, ?_⟩ (convA y2), ?_⟩
      · refine r1.keeps (fun b o z n => ?_) fun o z n => e2.keep q o z hnq n
        obtain ⟨z1, z2⟩ := of_hide z
        rw [hide_out fun y => y.elim (fun y => z1 (.inl y)) fun y => y.elim (fun y => by rw [y1 b y] at z2; cases z2) fun y => z1 (.inr y)]
        exact e2.keep b o z2 (fun c y => z1 (.inl (g1.hl b c y))) n
      · exact List.nodup_cons.mpr ⟨fun z => np (ownsAt_mem y2 z), y3⟩
    | err c h2 =>
      rw [e1'] at p1
      exact fun cls dx H2 e2 g2 => p1 cls dx H2 e2 (g2.swap (fun a z => g2.lok a (.inl z)) fun a c e => ⟨(g1.hand a c e).1, (g1.hand a c e).2.1⟩)
    | stuck => rw [e1'] at p1; exact p1.elim
  exact qr ah _ σ H1 ρ h1 _ (w.hide1 hq e1 g1') p2
/-! ### stores -/
def setsS (ρ : SEnv) : List Nat → List SV → SEnv
  | i :: is, s :: ss => setsS (ρ.set i s) is ss
  | _, _ => ρ
def setsV (σ : L2.St) : List Nat → List V → L2.St
  | i :: is, v :: vs => setsV (σ.set i (some v)) is vs
  | _, _ => σ
def TS (T : PP) (X : Cx) (ah : Option (Addr × Addr)) (S : Addr → Prop) (H : Hp) (v : V) : SV → Prop
  | .un => False
  | .sh d => Rep (kf T X) X.mg ah (hide H S) v d
  | .own d => ∃ p, v = .ref p ∧ OwnAt (kf T X) X.mg ah (hide H S) H p d
inductive TSAll (T : PP) (X : Cx) (ah : Option (Addr × Addr)) (S : Addr → Prop) (H : Hp) : List V → List SV → Prop
  | nil : TSAll T X ah S H [] []
  | cons {v : V} {vs : List V} {s : SV} {ss : List SV} : TS T X ah S H v s → TSAll T X ah S H vs ss → TSAll T X ah S H (v :: vs) (s :: ss)
theorem sets_run {S : Addr → Prop} {HA : Hp} {σA : L2.St} {ρA : SEnv} : ∀ {is : List Nat} {vs : List V} {ss : List SV} {P : Addr → Prop} {σ : L2.St} {ρ : SEnv}, SRelP T X ah L0 H0 P σ H ρ h → (∀ p, P p → HA p = none) → Step ah σA HA ρA σ H ρ →
    (∀ a, Lx L0 σ ρ a ∨ P a → S a) → TSAll T X ah S H vs ss → (ownsAt vs ss).Nodup → (∀ p, p ∈ ownsAt vs ss → P p) → SRel T X.K X.mg ah L0 H0 (setsV σ is vs) H (setsS ρ is ss) h ∧ Step ah σA HA ρA (setsV σ is vs) H (setsS ρ is ss)
  | [], vs, ss, P, σ, ρ, s, hp, t, hS, ts, nd, hm => by cases vs <;> cases ss <;> exact ⟨s.s, t⟩
  | i :: is, [], [], P, σ, ρ, s, hp, t, hS, ts, nd, hm => ⟨s.s, t⟩
  | i :: is, v :: vs, q :: ss, P, σ, ρ, s, hp, t, hS, .cons t1 t2, nd, hm => by
    cases q with
    | un => exact t1.elim
    | sh d =>
      have e : ownsAt (v :: vs) (.sh d :: ss) = ownsAt vs ss := by cases v <;> rfl
      rw [e] at nd hm
      have t1' : Rep (kf T X) X.mg ah (hide H S) v d := t1
      exact sets_run (is := is) (vs := vs) (ss := ss) (s.set_sh (i := i) (t1'.keeps (hide_mono hS))) hp (t.trans (Step.set_any fun d e => by cases e)) (fun a z => hS a (z.imp (fun z => z.imp id (own_set fun d e => by cases e)) id)) t2 nd hm
    | own d =>
      obtain ⟨p, rfl, t3⟩ := t1
      have nd' : (p :: ownsAt vs ss).Nodup := nd
      have hm' : ∀ x, x ∈ p :: ownsAt vs ss → P x := hm
      have n1 := List.nodup_cons.mp nd'
      have pp := hm' p List.mem_cons_self
      have sub : ∀ a, Own (σ.set i (some (.ref p))) (ρ.set i (.own d)) a → Own σ ρ a ∨ a = p := fun a ⟨j, d', e1, e2⟩ => by
        rcases set_get e1 with ⟨q1, q2⟩ | ⟨q1, q2⟩
        · subst q1
          rcases set_get e2 with ⟨_, q4⟩ | ⟨q3, _⟩
          · cases q4; exact .inr rfl
          · exact (q3 rfl).elim
        · rw [set_ne q1] at e2
          exact .inl ⟨j, d', q2, e2⟩
      refine sets_run (is := is) (vs := vs) (ss := ss) (s.set_own (i := i) pp (t3.keeps (hide_mono hS) fun o e _ => e)) (fun q z => hp q z.1) ⟨t.keep, fun a z => ?_, t.dom⟩ (fun a z => ?_) t2 n1.2 fun q z => ⟨hm' q (List.mem_cons_of_mem _ z), fun e => n1.1 (e ▸ z)⟩
      · rcases sub a z with z | z
        · exact t.own a z
        · exact .inr (by rw [z]; exact hp p pp)
      · rcases z with z | z
        · rcases z with z | z
          · exact hS a (.inl (.inl z))
          · rcases sub a z with z | z
            · exact hS a (.inl (.inr z))
            · exact hS a (.inr (by rw [z]; exact pp))
        · exact hS a (.inr z.1)
def immSV : SV → Bool
  | .un => false
  | .sh d => immD d
  | .own d => immO d
theorem ts_of {P : Addr → Prop} : ∀ {vs : List V} {ss : List SV}, ToldAll T X ah L P H vs ss → TSAll T X ah (fun b => L b ∨ P b) H vs ss
  | _, _, .nil => .nil
  | _, _, .cons (s := s) a b => .cons (by
      cases s with
      | un => exact a.elim
      | sh d => exact a
      | own d => obtain ⟨p, e1, _, e3⟩ := a; exact ⟨p, e1, e3⟩) (ts_of b)
theorem ts_imm {S S' : Addr → Prop} (k : LOk H S') : ∀ {vs : List V} {ss : List SV}, TSAll T X ah S H vs ss → ss.all immSV = true → TSAll T X ah S' H vs ss
  | _, _, .nil, _ => .nil
  | _, _, .cons (s := s) a b, c => by
    rw [List.all_cons, Bool.and_eq_true] at c
    refine .cons ?_ (ts_imm k b c.2)
    cases s with
    | un => exact a.elim
    | sh d => exact Rep.imm (hide_T k) a c.1
    | own d => obtain ⟨p, e1, e3⟩ := a; exact ⟨p, e1, e3.imm (hide_T k) c.1⟩
def parM (n : Nat) (is : List Nat) (m : EM (List SV)) : SM := fun ρ h => onE (m (shr ρ) h) ρ fun ss h1 => if ss.length = n then .nx (setsS ρ is ss) h1 else .stuck
def parFM (n : Nat) (is : List Nat) (m : EM (List SV)) : SM := fun ρ h => onE (m (full ρ) h) ρ fun ss h1 => if ss.length = n ∧ ss.all immSV = true then .nx (setsS ρ is ss) h1 else .stuck
theorem told_len {P : Addr → Prop} : ∀ {vs : List V} {ss : List SV}, ToldAll T X ah L P H vs ss → vs.length = ss.length
  | _, _, .nil => rfl
  | _, _, .cons a b => by rw [List.length_cons, List.length_cons, told_len b]
/-- mutated things among the new ones -/
theorem told_lok {P : Addr → Prop} (k : LOk H L) : ∀ {vs : List V} {ss : List SV}, ToldAll T X ah L P H vs ss → LOk H (fun b => L b ∨ b ∈ ownsAt vs ss)
  | _, _, .nil => fun a z => z.elim (k a) fun z => by simp [ownsAt] at z
  | _, _, .cons (v := v) (vs := vs) (s := s) (ss := ss) a b => fun x z => by
    have ih := told_lok k b
    cases s with
    | un => exact a.elim
    | sh d =>
      have e : ownsAt (v :: vs) (.sh d :: ss) = ownsAt vs ss := by cases v <;> rfl
      rw [e] at z
      exact ih x z
    | own d =>
      obtain ⟨p, rfl, _, e3⟩ := a
      rcases z with z | z
      · exact k x z
      · have z' : x ∈ p :: ownsAt vs ss := z
        rcases List.mem_cons.mp z' with z | z
        · subst z; exact e3.mut
        · exact ih x (.inr z)
theorem par_run {is : List Nat} {D : Ends} {m : EM (List SV)} {ta : TA} {n : Nat} {Qf : List V → Hp → Prop} (qa : ∀ (ah : Option (Addr × Addr)) L σ H ρ h Q, View T X ah L σ H ρ h → Post T X W ah L σ H (RM T X ah L H) (m ρ h) Q → ta σ H Q)
    (s : SRel T X.K X.mg ah L0 H0 σ H ρ h) (p : SPost T X W ah L0 H0 σ H ρ D (parM n is m ρ h) ∨ SPost T X W ah L0 H0 σ H ρ D (parFM n is m ρ h)) (hQ : ∀ vs H1, vs.length = n → D.nx (setsV σ is vs) H1 → Qf vs H1) : ta σ H Qf := by
  rcases p with p | p
  · refine qa ah _ σ H (shr ρ) h _ s.vshr (onE_shr0 s p fun ss h1 vs H1 e1 g1 ⟨P, y1, y2, y3⟩ s1 p1 => ?_)
    by_cases c : ss.length = n
    · rw [if_pos c] at p1
      obtain ⟨z1, z2⟩ := sets_run (is := is) (SRelP.of s e1 s1 y1) y1 (Step.up e1) (fun a z => z) (ts_of y2) y3 fun p z => ownsAt_mem y2 z
      exact hQ vs H1 (by rw [told_len y2, c]) (p1 _ H1 z1 z2)
    · rw [if_neg c] at p1; exact p1.elim
  · refine qa ah _ σ H (full ρ) h _ s.vfull (onE_full0 s p fun ss h1 vs H1 e1 g1 ⟨P, y1, y2, y3⟩ s1 p1 => ?_)
    by_cases c : ss.length = n ∧ ss.all immSV = true
    · rw [if_pos c] at p1
      have own := told_lok g1.lok y2
      have lk : LOk H1 (fun b => Lx L0 σ ρ b ∨ b ∈ ownsAt vs ss) := fun b z => by
        rcases z with z | z
        · exact s1.glo.lok b z
        · exact own b (.inr z)
      have ts := ts_imm lk (ts_of y2) c.2
      obtain ⟨z1, z2⟩ := sets_run (is := is) (SRelP.of (P := fun b => b ∈ ownsAt vs ss) s e1 s1 fun p z => y1 p (ownsAt_mem y2 z)) (fun p z => y1 p (ownsAt_mem y2 z)) (Step.up e1) (fun a z => z) ts y3 fun p z => z
      exact hQ vs H1 (by rw [told_len y2, c.1]) (p1 _ H1 z1 z2)
    · rw [if_neg c] at p1; exact p1.elim
section
variable {i j l : Nat} {x y z : Str} {a b c : Expr} {px py pz pt pos pt2 : Pos} {kt k2 : Nat} {m : EM (List SV)}
theorem vs_par2 (fl : Bool) (hc : X.calm = true) (hN : X.N.Nodup) (hi : X.N[i]? = some x) (hj : X.N[j]? = some y) (hij : i ≠ j) (hx : X.env.scope.names.lookup x = some .local) (hy : X.env.scope.names.lookup y = some .local) (ha : VAM T X W [a, b] m)
    (hw : swappedStores [.Tuple [.Name x px, .Name y py] kt pt] (.Tuple [a, b] k2 pt2) X.env = pure (some [x, y]))
    (hs : swapsWithSole [.Tuple [.Name x px, .Name y py] kt pt] (.Tuple [a, b] k2 pt2) pos.line X.env = pure false := by rfl) :
    VS T X W (.Assign [.Tuple [.Name x px, .Name y py] kt pt] (.Tuple [a, b] k2 pt2) pos) (if fl = true then parFM 2 [i, j] m else parM 2 [i, j] m) := by
  obtain ⟨ta, pa, qa⟩ := ha
  refine ⟨_, ps_par hc hN hi hj hij hx hy pa hw hs, fun ah L0 H0 σ H ρ h D s p => ?_⟩
  refine par_run (W := W) (D := D) qa s (by cases fl with | true => exact .inr p | false => exact .inl p) fun vs H1 hl q => ?_
  match vs, hl, q with
  | [v, w], _, q => exact ⟨v, w, rfl, q⟩
theorem vs_par3 (fl : Bool) (hc : X.calm = true) (hN : X.N.Nodup) (hi : X.N[i]? = some x) (hj : X.N[j]? = some y) (hl : X.N[l]? = some z) (hij : i ≠ j) (hil : i ≠ l) (hjl : j ≠ l) (hx : X.env.scope.names.lookup x = some .local) (hy : X.env.scope.names.lookup y = some .local) (hz : X.env.scope.names.lookup z = some .local) (ha : VAM T X W [a, b, c] m)
    (hw : swappedStores [.Tuple [.Name x px, .Name y py, .Name z pz] kt pt] (.Tuple [a, b, c] k2 pt2) X.env = pure (some [x, y, z]))
    (hs : swapsWithSole [.Tuple [.Name x px, .Name y py, .Name z pz] kt pt] (.Tuple [a, b, c] k2 pt2) pos.line X.env = pure false := by rfl) :
    VS T X W (.Assign [.Tuple [.Name x px, .Name y py, .Name z pz] kt pt] (.Tuple [a, b, c] k2 pt2) pos) (if fl = true then parFM 3 [i, j, l] m else parM 3 [i, j, l] m) := by
  obtain ⟨ta, pa, qa⟩ := ha
  refine ⟨_, ps_par3 hc hN hi hj hl hij hil hjl hx hy hz pa hw hs, fun ah L0 H0 σ H ρ h D s p => ?_⟩
  refine par_run (W := W) (D := D) qa s (by cases fl with | true => exact .inr p | false => exact .inl p) fun vs H1 hl q => ?_
  match vs, hl, q with
  | [v, w, u], _, q => exact ⟨v, w, u, rfl, q⟩
end
end
end VL

set_option Elab.async false
set_option linter.all false
set_option maxRecDepth 100000
set_option maxHeartbeats 4000000
/-! VL17: short names for the printing program. -/
namespace VL
open PySem PySem.Spec PyProof.Rows L2
theorem bt_len : bootBuiltins "len" = some (.builtin "len") := PySem.boot_len
theorem bt_abs : bootBuiltins "abs" = some (.builtin "abs") := PyProof.Rows.boot_abs
theorem bt_sum : bootBuiltins "sum" = some (.builtin "sum") := PyProof.Rows.boot_sum
theorem bt_all : bootBuiltins "all" = some (.builtin "all") := PyProof.Rows.boot_all
theorem bt_any : bootBuiltins "any" = some (.builtin "any") := PyProof.Rows.boot_any
theorem bt_max : bootBuiltins "max" = some (.builtin "max") := PyProof.Rows.boot_max
theorem bt_min : bootBuiltins "min" = some (.builtin "min") := PyProof.Rows.boot_min
theorem bt_sorted : bootBuiltins "sorted" = some (.builtin "sorted") := PyProof.Rows.boot_sorted
theorem bt_int : bootBuiltins "int" = some (.type "int") := PyProof.Rows.boot_int
theorem bt_bool : bootBuiltins "bool" = some (.type "bool") := PyProof.Rows.boot_bool
theorem bt_str : bootBuiltins "str" = some (.type "str") := PyProof.Rows.boot_str
theorem bt_tuple : bootBuiltins "tuple" = some (.type "tuple") := PyProof.Rows.boot_tuple
theorem bt_list : bootBuiltins "list" = some (.type "list") := PyProof.Rows.boot_list
theorem bt_dict : bootBuiltins "dict" = some (.type "dict") := PyProof.Rows.boot_dict
theorem huOf {k : Nat} {A : Around} (r : Room k A) : A.units + 64 < cLine := by have := r.un; omega
section
variable {T : PP} {X : Cx} {W : WX}
section
variable {Ty id : String} {f : (D → Bool) → D → List D → Option (D × D)} {args : List Expr} {pos : Pos} {i : Nat} {ma : EM (List D)}
theorem vs_owS (hT : Ty = "list" ∨ Ty = "dict") (hf : OwnF T X Ty id f) {e : Expr} (oc : OC X Ty id e args i) (ha : VA T X W args ma) (hs : swapsWith e none pos.line X.env = pure false := by rfl) :
    VS T X W (.Expr e pos) (owM Ty i f ma kDrop) := vs_ow false hT hf oc ha hs
theorem vs_owFl (hT : Ty = "list" ∨ Ty = "dict") (hf : OwnF T X Ty id f) {e : Expr} (oc : OC X Ty id e args i) (ha : VA T X W args ma) (hs : swapsWith e none pos.line X.env = pure false := by rfl) :
    VS T X W (.Expr e pos) (owFM Ty i f ma kDrop) := vs_ow true hT hf oc ha hs
end
section
variable {o ie ve : Expr} {tpos pos : Pos} {i : Nat} {mi mv : EM D}
theorem vs_putS (hk : T.kc = false) (hu : X.A.units + 64 < cLine) (ho : PE X o (tVar i)) (hi : VE T X W ie mi) (hv : VE T X W ve mv)
    (hs : swapsWithSole [.Subscript o ie tpos] ve pos.line X.env = pure false := by rfl) (hw : swappedStores [.Subscript o ie tpos] ve X.env = pure none := by rfl) (h1 : (assignEach [.Subscript o ie tpos] X.env).map (·.2) = [assign (.Subscript o ie tpos) X.env] := by rfl)
    (hg : ∀ v, assign (.Subscript o ie tpos) X.env v = (do
      let ov ← holding [v] (eval o X.env)
      let iv ← holding [v, ov] (eval ie X.env)
      standAt tpos
      holding [v, ov, iv] (setItem ov iv v)
      release [v, ov, iv] []) := by intro _; rfl) : VS T X W (.Assign [.Subscript o ie tpos] ve pos) (putM i mi mv) := vs_put false hk hu ho hi hv hs hw h1 hg
theorem vs_putFl (hk : T.kc = false) (hu : X.A.units + 64 < cLine) (ho : PE X o (tVar i)) (hi : VE T X W ie mi) (hv : VE T X W ve mv)
    (hs : swapsWithSole [.Subscript o ie tpos] ve pos.line X.env = pure false := by rfl) (hw : swappedStores [.Subscript o ie tpos] ve X.env = pure none := by rfl) (h1 : (assignEach [.Subscript o ie tpos] X.env).map (·.2) = [assign (.Subscript o ie tpos) X.env] := by rfl)
    (hg : ∀ v, assign (.Subscript o ie tpos) X.env v = (do
      let ov ← holding [v] (eval o X.env)
      let iv ← holding [v, ov] (eval ie X.env)
      standAt tpos
      holding [v, ov, iv] (setItem ov iv v)
      release [v, ov, iv] []) := by intro _; rfl) : VS T X W (.Assign [.Subscript o ie tpos] ve pos) (putFM i mi mv) := vs_put true hk hu ho hi hv hs hw h1 hg
end
section
variable {i j l : Nat} {x y z : Str} {a b c : Expr} {px py pz pt pos pt2 : Pos} {kt k2 : Nat} {m : EM (List SV)}
theorem vs_par2S (hc : X.calm = true) (hN : X.N.Nodup) (hi : X.N[i]? = some x) (hj : X.N[j]? = some y) (hij : i ≠ j) (hx : X.env.scope.names.lookup x = some .local) (hy : X.env.scope.names.lookup y = some .local) (ha : VAM T X W [a, b] m)
    (hw : swappedStores [.Tuple [.Name x px, .Name y py] kt pt] (.Tuple [a, b] k2 pt2) X.env = pure (some [x, y]))
    (hs : swapsWithSole [.Tuple [.Name x px, .Name y py] kt pt] (.Tuple [a, b] k2 pt2) pos.line X.env = pure false := by rfl) :
    VS T X W (.Assign [.Tuple [.Name x px, .Name y py] kt pt] (.Tuple [a, b] k2 pt2) pos) (parM 2 [i, j] m) := vs_par2 false hc hN hi hj hij hx hy ha hw hs
theorem vs_par2Fl (hc : X.calm = true) (hN : X.N.Nodup) (hi : X.N[i]? = some x) (hj : X.N[j]? = some y) (hij : i ≠ j) (hx : X.env.scope.names.lookup x = some .local) (hy : X.env.scope.names.lookup y = some .local) (ha : VAM T X W [a, b] m)
    (hw : swappedStores [.Tuple [.Name x px, .Name y py] kt pt] (.Tuple [a, b] k2 pt2) X.env = pure (some [x, y]))
    (hs : swapsWithSole [.Tuple [.Name x px, .Name y py] kt pt] (.Tuple [a, b] k2 pt2) pos.line X.env = pure false := by rfl) :
    VS T X W (.Assign [.Tuple [.Name x px, .Name y py] kt pt] (.Tuple [a, b] k2 pt2) pos) (parFM 2 [i, j] m) := vs_par2 true hc hN hi hj hij hx hy ha hw hs
theorem vs_par3S (hc : X.calm = true) (hN : X.N.Nodup) (hi : X.N[i]? = some x) (hj : X.N[j]? = some y) (hl : X.N[l]? = some z) (hij : i ≠ j) (hil : i ≠ l) (hjl : j ≠ l) (hx : X.env.scope.names.lookup x = some .local) (hy : X.env.scope.names.lookup y = some .local) (hz : X.env.scope.names.lookup z = some .local) (ha : VAM T X W [a, b, c] m)
    (hw : swappedStores [.Tuple [.Name x px, .Name y py, .Name z pz] kt pt] (.Tuple [a, b, c] k2 pt2) X.env = pure (some [x, y, z]))
    (hs : swapsWithSole [.Tuple [.Name x px, .Name y py, .Name z pz] kt pt] (.Tuple [a, b, c] k2 pt2) pos.line X.env = pure false := by rfl) :
    VS T X W (.Assign [.Tuple [.Name x px, .Name y py, .Name z pz] kt pt] (.Tuple [a, b, c] k2 pt2) pos) (parM 3 [i, j, l] m) := vs_par3 false hc hN hi hj hl hij hil hjl hx hy hz ha hw hs
theorem vs_par3Fl (hc : X.calm = true) (hN : X.N.Nodup) (hi : X.N[i]? = some x) (hj : X.N[j]? = some y) (hl : X.N[l]? = some z) (hij : i ≠ j) (hil : i ≠ l) (hjl : j ≠ l) (hx : X.env.scope.names.lookup x = some .local) (hy : X.env.scope.names.lookup y = some .local) (hz : X.env.scope.names.lookup z = some .local) (ha : VAM T X W [a, b, c] m)
    (hw : swappedStores [.Tuple [.Name x px, .Name y py, .Name z pz] kt pt] (.Tuple [a, b, c] k2 pt2) X.env = pure (some [x, y, z]))
    (hs : swapsWithSole [.Tuple [.Name x px, .Name y py, .Name z pz] kt pt] (.Tuple [a, b, c] k2 pt2) pos.line X.env = pure false := by rfl) :
    VS T X W (.Assign [.Tuple [.Name x px, .Name y py, .Name z pz] kt pt] (.Tuple [a, b, c] k2 pt2) pos) (parFM 3 [i, j, l] m) := vs_par3 true hc hN hi hj hl hij hil hjl hx hy hz ha hw hs
end
end
end VL

set_option Elab.async false
set_option linter.all false
set_option maxRecDepth 100000
set_option maxHeartbeats 4000000
/-! VL18: the law itself: its first statement makes the hand. -/
namespace VL
open PySem PySem.Spec PyProof.Rows L2
def intsD (ns : List Int) : List D := ns.map D.int
theorem rep_ints {K : RK} {mg : Str → Option Value} {ah : Option (Addr × Addr)} {H : Hp} : ∀ (ns : List Int), RepAll K mg ah H (ns.map V.int) (intsD ns)
  | [] => .nil
  | n :: ns => .cons (.int n) (rep_ints ns)
theorem ints_of {K : RK} {mg : Str → Option Value} {ah : Option (Addr × Addr)} {H : Hp} : ∀ {vs : List V} {ns : List Int}, RepAll K mg ah H vs (intsD ns) → vs = ns.map V.int
  | _, [], h => by cases h; rfl
  | _, n :: ns, h => by
    cases h with
    | cons a b => cases a; rw [ints_of b]; rfl
def spLaw (T : PP) (K : PySem.W.Frag) : Sp := fun vs H Q _ => ∃ (a : Addr) (ns : List Int), vs = [.ref a] ∧ SqL K H a (ns.map V.int) ∧ ns.length ≤ 63 ∧ LamX.Tabs T.tabs H ∧ ∀ H', Q (.bl true) H'
def lawS (N : Nat) : SEnv := .un :: .sh .hand :: List.replicate (N - 2) .un
/-- the state behind the first statement -/
theorem hand_new {T : PP} {K : PySem.W.Frag} {mg : Str → Option Value} {H : Hp} {σ : L2.St} {v : V} {cells : List Int} {rest : List D} {N : Nat} (hN : 2 ≤ N) (hl : σ.length = N) (tb : LamX.Tabs T.tabs H)
    (r : Rep (kfK T K) mg none H v (.lst (.lst (intsD cells) :: rest))) (hr : ∃ ns, rest = intsD ns) : ∃ a c, SRel T K mg (some (a, c)) (fun b => b = a) H (σ.set 1 (some v)) H (lawS N) (.lst (intsD cells) :: rest) := by
  obtain ⟨ns, rfl⟩ := hr
  cases r with
  | lst h1 h2 =>
    rename_i a vs
    cases h2 with
    | cons r1 r2 =>
      cases r1 with
      | lst k1 k2 =>
        rename_i us c ws
        have e1 := ints_of r2
        have e2 := ints_of k2
        subst e1 e2
        have ne : c ≠ a := fun z => by
          subst z
          rw [h1] at k1
          cases cells with
          | nil => cases k1
          | cons x xs => cases k1
        have noown : ∀ (i : Nat) (d : D), (lawS N)[i]? ≠ some (.own d) := fun i d e => by
          unfold lawS at e
          match i, e with
          | 0, e => cases e
          | 1, e => cases e
          | i + 2, e =>
            have e' : (List.replicate (N - 2) SV.un)[i]? = some (.own d) := e
            rw [List.getElem?_replicate] at e'
            split at e' <;> cases e'
        have lx : Lx (fun b => b = a) (σ.set 1 (some (.ref a))) (lawS N) = fun b => b = a := by
          funext b
          exact propext ⟨fun z => z.elim id fun ⟨i, d, e, _⟩ => (noown i d e).elim, .inl⟩
        refine ⟨a, c, ⟨?_, ?_, fun i d e => ?_, fun i d e => (noown i d e).elim, fun i j b d d' e => (noown i d e).elim, .refl, fun b z => ?_, fun b d z => ?_⟩⟩
        · unfold lawS
          rw [List.length_set, hl, List.length_cons, List.length_cons, List.length_replicate]
          omega
        · rw [lx]
          refine ⟨fun b d z => ?_, tb, fun b z => ?_⟩
          · cases z
            refine ⟨rfl, ne, ⟨_, k1⟩, _, h1, .cons (.lst (by rw [only_in]; exact k1) (rep_ints cells)) (rep_ints ns)⟩
          · subst z; exact ⟨_, h1, trivial⟩
        · unfold lawS at e
          match i, e with
          | 0, e => cases e
          | 1, e =>
            cases e
            exact ⟨.ref a, by rw [List.getElem?_set_self (by rw [hl]; omega)], .hand rfl⟩
          | i + 2, e =>
            have e' : (List.replicate (N - 2) SV.un)[i]? = some (.sh d) := e
            rw [List.getElem?_replicate] at e'
            split at e' <;> cases e'
        · subst z; exact ⟨_, h1, trivial⟩
        · cases z; exact ⟨rfl, ne, by rw [k1]; intro z; cases z⟩
theorem vl_law {T : PP} {P : Program} {w : World} {K : PySem.W.Frag} {mg : Str → Option Value} {base : Heap} {qual : Str} {st : Stmt} {f : Addr} {fd : FuncData} {N : List Str} {k : Nat} {m : SM} {fH : FM} (F : Fun K "law" qual st f fd) (S : FnScope N ["script"] (defScope st)) (hN : 2 ≤ N.length)
    (hH : ∀ ns : List Int, ns.length ≤ 63 → ∃ (cells rest : List Int), fH [.scr (intsD ns)] [] = .ok (.lst (.lst (intsD cells) :: intsD rest)) [] ∧ ∃ h, m (lawS N.length) (.lst (intsD cells) :: intsD rest) = .ret (.bl true) h)
    (hb : ∀ (cdv : Value) (A : Around) (outer : List Env) (s : Shared) (H : Hp) (E : XK), Room k (A.deeper (envOfC qual (defScope st) s.heap.objs.size f cdv)) →
      ∃ (st1 : Stmt) (rest : List Stmt) (e : Expr), defBody st = st1 :: rest ∧ (∀ te, PE (cxOf (L2.CX P w) P w K mg base N qual (defScope st) f cdv A outer s H E) e te → PS (cxOf (L2.CX P w) P w K mg base N qual (defScope st) f cdv A outer s H E) st1 (tAsg te (gName 1))) ∧
        VE T (cxOf (L2.CX P w) P w K mg base N qual (defScope st) f cdv A outer s H E) (fun cls d _ H => E cls d H) e (callF 1 (acM (vM 0) anM) fH) ∧ VSs T (cxOf (L2.CX P w) P w K mg base N qual (defScope st) f cdv A outer s H E) (fun cls d _ H => E cls d H) rest m) :
    FnOk P w K mg base (L2.CX P w) (k + 1) f fd ["script"] (spLaw T K) := by
  refine F.okX S (fun vs H Q E ⟨a, ns, q, _⟩ => by rw [q]; rfl) fun cdv A outer s H vs Q E hr ⟨a, ns, hv, hS, hl, tb, hQ⟩ => ?_
  obtain ⟨st1, rest, e, eb, p1, ⟨te, pe, qe⟩, ⟨tr, pr, qr⟩⟩ := hb cdv A outer s H E hr
  subst hv
  rw [eb]
  refine ⟨_, pss_cons (p1 te pe) pr, ?_⟩
  obtain ⟨cells, rs, e1, h2, e2⟩ := hH ns hl
  have hlen : (L2.start N [V.ref a]).length = N.length := by
    unfold L2.start
    rw [List.length_append, List.length_map, List.length_replicate]
    show 1 + (N.length - 1) = N.length
    omega
  have hh : hide H (fun _ => False) = H := by funext b; rw [hide_out id]
  let ρ0 : Sl := some (.scr (intsD ns)) :: List.replicate (N.length - 1) none
  have w0 : View T (cxOf (L2.CX P w) P w K mg base N qual (defScope st) f cdv A outer s H E) none (fun _ => False) (L2.start N [V.ref a]) H ρ0 [] := by
    refine ⟨?_, ⟨fun _ _ z => (by cases z), tb, fun _ (z : False) => z.elim⟩, fun i d z => ?_⟩
    · rw [hlen]
      show N.length = (List.replicate (N.length - 1) none).length + 1
      rw [List.length_replicate]; omega
    · match i, z with
      | 0, z =>
        cases z
        exact ⟨.ref a, rfl, by rw [hh]; exact .scr hS (rep_ints ns)⟩
      | i + 1, z =>
        have z' : (List.replicate (N.length - 1) (none : Option D))[i]? = some (some d) := z
        rw [List.getElem?_replicate] at z'
        split at z' <;> cases z'
  refine qe none _ _ H ρ0 [] _ w0 ?_
  have ev : callF 1 (acM (vM 0) anM) fH ρ0 [] = fH [.scr (intsD ns)] [] := rfl
  rw [ev, e1]
  intro v H1 ex g r
  have hh1 : hide H1 (fun _ => False) = H1 := by funext b; rw [hide_out id]
  have r' : Rep (kfK T K) mg none H1 v (.lst (.lst (intsD cells) :: intsD rs)) := by rw [← hh1]; exact r
  obtain ⟨a', c', sr⟩ := hand_new hN hlen g.tabs r' ⟨rs, rfl⟩
  refine qr (some (a', c')) _ H1 _ H1 _ _ _ sr ?_
  rw [e2]
  intro v2 H2 _ _ r2
  have r3 : Rep (kfK T K) mg (some (a', c')) (hide H2 fun b => b = a') v2 (.bl true) := r2
  cases r3
  exact hQ H2
end VL

set_option Elab.async false
set_option linter.all false
set_option maxRecDepth 100000
set_option maxHeartbeats 4000000
/-! VL19: how mirrors are evaluated on data of known shape. -/
namespace VL
open PySem PySem.Spec PyProof.Rows L2
section
variable {α β : Type} {h h1 : List D} {ρ : Sl} {d e : D}
@[simp] theorem ev_bok {a : α} {f : α → List D → Out β} : (Out.ok a h).bind f = f a h := rfl
@[simp] theorem ev_berr {c : Exc} {f : α → List D → Out β} : (Out.err c h).bind f = .err c h := rfl
@[simp] theorem ev_bst {f : α → List D → Out β} : (Out.stuck).bind f = .stuck := rfl
@[simp] theorem ev_ofs {a : α} : Out.of (some a) h = .ok a h := rfl
@[simp] theorem ev_ofn : Out.of (none : Option α) h = .stuck := rfl
@[simp] theorem ev_c : cM d ρ h = .ok d h := rfl
@[simp] theorem ev_v0 {a : Option D} {r : Sl} : vM 0 (a :: r) h = Out.of a h := by cases a <;> rfl
@[simp] theorem ev_vs {i : Nat} {a : Option D} {r : Sl} : vM (i + 1) (a :: r) h = vM i r h := rfl
@[simp] theorem ev_an : anM ρ h = .ok [] h := rfl
@[simp] theorem ev_ac {a : EM D} {r : EM (List D)} : acM a r ρ h = (a ρ h).bind fun d h1 => (r ρ h1).bind fun ds h2 => .ok (d :: ds) h2 := rfl
@[simp] theorem ev_bin {op : D → D → Option D} {a b : EM D} : bin2 op a b ρ h = (a ρ h).bind fun d h1 => (b ρ h1).bind fun e h2 => Out.of (op d e) h2 := rfl
@[simp] theorem ev_call {op : List D → Option D} {a : EM (List D)} : callM op a ρ h = (a ρ h).bind fun ds h1 => Out.of (op ds) h1 := rfl
@[simp] theorem ev_callF {n : Nat} {a : EM (List D)} {f : FM} : callF n a f ρ h = (a ρ h).bind fun ds h1 => if ds.length = n then f ds h1 else .stuck := rfl
@[simp] theorem ev_tup {a : EM (List D)} : tupM a ρ h = (a ρ h).bind fun ds h1 => if sizeOk ds.length then .ok (.tup ds) h1 else .stuck := rfl
@[simp] theorem ev_lst {a : EM (List D)} : lstM a ρ h = (a ρ h).bind fun ds h1 => if sizeOk ds.length then .ok (.lst ds) h1 else .stuck := rfl
@[simp] theorem ev_asb {b : Bool} : asB (.ok (.bl b) h) = .ok b h := rfl
@[simp] theorem ev_tst {a : EM D} : tst a ρ h = asB (a ρ h) := rfl
@[simp] theorem ev_and {a b : EM Bool} : andM a b ρ h = (a ρ h).bind fun c h1 => if c = true then b ρ h1 else .ok false h1 := rfl
@[simp] theorem ev_or {a b : EM Bool} : orM a b ρ h = (a ρ h).bind fun c h1 => if c = true then .ok true h1 else b ρ h1 := rfl
@[simp] theorem ev_not {a : EM Bool} : notM a ρ h = (a ρ h).bind fun c h1 => .ok (!c) h1 := rfl
@[simp] theorem ev_andV {a b : EM D} : andVM a b ρ h = (a ρ h).bind fun d h1 => match d with
  | .bl true => b ρ h1
  | .bl false => .ok (.bl false) h1
  | _ => .stuck := rfl
@[simp] theorem ev_orV {a b : EM D} : orVM a b ρ h = (a ρ h).bind fun d h1 => match d with
  | .bl true => .ok (.bl true) h1
  | .bl false => b ρ h1
  | _ => .stuck := rfl
@[simp] theorem ev_notV {a : EM D} : notVM a ρ h = (a ρ h).bind fun d h1 => match d with
  | .bl b => .ok (.bl !b) h1
  | _ => .stuck := rfl
@[simp] theorem ev_if {c : EM Bool} {a b : EM D} : ifM c a b ρ h = (c ρ h).bind fun k h1 => if k = true then a ρ h1 else b ρ h1 := rfl
@[simp] theorem ev_isi {c : String} {a : EM D} : isiM c a ρ h = (a ρ h).bind fun d h1 => if isPlain d = true then .ok (.bl (isaB c d)) h1 else .stuck := rfl
@[simp] theorem ev_idx {a b : EM D} : idxM a b ρ h = (a ρ h).bind fun c h1 => (b ρ h1).bind fun i h2 => Out.of (idxD h2 c i) h2 := rfl
@[simp] theorem ev_cut {a : EM D} {l u : OM} : cutM a l u ρ h = (a ρ h).bind fun c h1 => (l ρ h1).bind fun l h2 => (u ρ h2).bind fun u h3 => Out.of (cutD c l u) h3 := rfl
@[simp] theorem ev_noPart : noPart ρ h = .ok none h := rfl
@[simp] theorem ev_mt {f : List D → List D → Option D} {o : EM D} {a : EM (List D)} : mtM f o a ρ h = (o ρ h).bind fun o h1 => match o with
  | .tup dx => (a ρ h1).bind fun ds h2 => Out.of (f dx ds) h2
  | _ => .stuck := rfl
@[simp] theorem ev_seqI {m : EM D} : seqI m ρ h = (m ρ h).bind fun d h1 => Out.of (itemsD d) h1 := rfl
@[simp] theorem ev_ofI {f : List D → Option (List D)} {m : EM (List D)} : ofI f m ρ h = (m ρ h).bind fun d h1 => Out.of (f d) h1 := rfl
@[simp] theorem ev_enumI {m : EM D} : enumI m ρ h = (m ρ h).bind fun d h1 => Out.of ((itemsD d).map enumL) h1 := rfl
@[simp] theorem ev_zipI {a b : EM D} : zipI a b ρ h = (a ρ h).bind fun d h1 => (b ρ h1).bind fun e h2 => Out.of (zipD d e) h2 := rfl
@[simp] theorem ev_lc {mi : EM (List D)} {vs : List Nat} {gm : EG} {tt : EM Bool} {te : EM D} : lcM mi vs gm tt te ρ h = (mi ρ h).bind fun ds h1 => if sizeOk ds.length = true then (lcL gm tt te (wipeS ρ vs) ds h1).bind fun ys h2 => .ok (.lst ys) h2 else .stuck := rfl
@[simp] theorem ev_yes : yesM ρ h = .ok true h := rfl
end
/-! ### statements -/
section
variable {α : Type} {h h1 : List D} {ρ : SEnv} {d : D}
@[simp] theorem ev_oneok {a : α} {f : α → List D → SOut} : onE (.ok a h) ρ f = f a h := rfl
@[simp] theorem ev_oneerr {c : Exc} {f : α → List D → SOut} : onE (.err c h) ρ f = .err c ρ h := rfl
@[simp] theorem ev_full0 : full [] = [] := rfl
@[simp] theorem ev_fullc {s : SV} {r : SEnv} : full (s :: r) = s.full :: full r := rfl
@[simp] theorem ev_shr0 : shr [] = [] := rfl
@[simp] theorem ev_shrc {s : SV} {r : SEnv} : shr (s :: r) = s.shr :: shr r := rfl
@[simp] theorem ev_fu : SV.un.full = none := rfl
@[simp] theorem ev_fs : (SV.sh d).full = some d := rfl
@[simp] theorem ev_fo : (SV.own d).full = some d := rfl
@[simp] theorem ev_su : SV.un.shr = none := rfl
@[simp] theorem ev_ss : (SV.sh d).shr = some d := rfl
@[simp] theorem ev_so : (SV.own d).shr = none := rfl
@[simp] theorem ev_ret {m : EM D} : retM m ρ h = onE (m (full ρ) h) ρ fun d h1 => .ret d h1 := rfl
@[simp] theorem ev_retN : retNM ρ h = .ret .non h := rfl
@[simp] theorem ev_skip : skipM ρ h = .nx ρ h := rfl
@[simp] theorem ev_seq {a b : SM} : seqM a b ρ h = (a ρ h).bind b := rfl
@[simp] theorem ev_bnx {f : SM} : (SOut.nx ρ h).bind f = f ρ h := rfl
@[simp] theorem ev_bret {f : SM} : (SOut.ret d h).bind f = .ret d h := rfl
@[simp] theorem ev_ifS {c : EM Bool} {a b : SM} : ifSM c a b ρ h = onE (c (full ρ) h) ρ fun k h1 => if k = true then a ρ h1 else b ρ h1 := rfl
@[simp] theorem ev_set {gm : GM} {m : EM D} : setM gm m ρ h = onE (m (shr ρ) h) ρ fun d h1 => bindG gm d ρ h1 := rfl
@[simp] theorem ev_bindN {i : Nat} : bindG (gNm i) d ρ h = .nx (ρ.set i (.sh d)) h := rfl
@[simp] theorem ev_drop {m : EM D} : dropM m ρ h = onE (m (full ρ) h) ρ fun _ h1 => .nx ρ h1 := rfl
@[simp] theorem ev_setN {i : Nat} {m : EM D} : setNM i m ρ h = onE (m (shr ρ) h) ρ fun d h1 => .nx (ρ.set i (.own d)) h1 := rfl
@[simp] theorem ev_setS {i : Nat} {m : EM D} : setSM i m ρ h = onE (m (shr ρ) h) ρ fun d h1 => .nx (ρ.set i (.sh d)) h1 := rfl
@[simp] theorem ev_forM {gm : GM} {mi : EM (List D)} {b : SM} : forM gm mi b ρ h = onE (mi (shr ρ) h) ρ fun ds h1 => forL gm b ds ρ h1 := rfl
@[simp] theorem ev_forFM {gm : GM} {mi : EM (List D)} {b : SM} : forFM gm mi b ρ h = onE (mi (full ρ) h) ρ fun ds h1 => forL gm b ds ρ h1 := rfl
@[simp] theorem ev_par {n : Nat} {is : List Nat} {m : EM (List SV)} : parM n is m ρ h = onE (m (shr ρ) h) ρ fun ss h1 => if ss.length = n then .nx (setsS ρ is ss) h1 else .stuck := rfl
@[simp] theorem ev_disM {i : Nat} {m : SM} : disM i m ρ h = m (disE i ρ) h := rfl
end
section
variable {h : List D} {ρ : Sl} {d : D}
@[simp] theorem ev_pn : pnM ρ h = .ok [] h := rfl
@[simp] theorem ev_ps {a : EM D} {r : EM (List SV)} : psM a r ρ h = (a ρ h).bind fun d h1 => (r ρ h1).bind fun ss h2 => .ok (.sh d :: ss) h2 := rfl
@[simp] theorem ev_po {a : EM D} {r : EM (List SV)} : poM a r ρ h = (a ρ h).bind fun d h1 => (r ρ h1).bind fun ss h2 => .ok (.own d :: ss) h2 := rfl
end
theorem sizeOk_of {n : Nat} (h : n ≤ sizeLine) : sizeOk n = true := decide_eq_true h
theorem sl24 : sizeLine = 16777216 := rfl
theorem run_ret {N n : Nat} {m : SM} {ds h h1 : List D} {d : D} (e : m (startS N n ds) h = .ret d h1) : runF N n m ds h = .ok d h1 := by unfold runF; rw [e]
theorem run_nx {N n : Nat} {m : SM} {ds h h1 : List D} {ρ : SEnv} (e : m (startS N n ds) h = .nx ρ h1) : runF N n m ds h = .ok .non h1 := by unfold runF; rw [e]
/-! ### operators on ints -/
@[simp] theorem add_ii {a b : Int} : addD (.int a) (.int b) = some (.int (a + b)) := rfl
@[simp] theorem sub_ii {a b : Int} : subD (.int a) (.int b) = some (.int (a - b)) := rfl
theorem lt_p {a b : Int} : PySem.W.dataLt (.int a) (.int b) = decide (a < b) := PySem.W.dataLt_int a b
@[simp] theorem le_ii {a b : Int} : leD (.int a) (.int b) = some (.bl (decide (a ≤ b))) := by
  have e : leD (.int a) (.int b) = some (.bl (!PySem.W.dataLt (.int b) (.int a))) := rfl
  rw [e, lt_p]
  congr 2
  by_cases h : b < a <;> simp [h] <;> omega
@[simp] theorem ge_ii {a b : Int} : geD (.int a) (.int b) = some (.bl (decide (b ≤ a))) := by
  have e : geD (.int a) (.int b) = some (.bl (!PySem.W.dataLt (.int a) (.int b))) := rfl
  rw [e, lt_p]
  congr 2
  by_cases h : a < b <;> simp [h] <;> omega
@[simp] theorem lt_ii {a b : Int} : ltD (.int a) (.int b) = some (.bl (decide (a < b))) := by
  have e : ltD (.int a) (.int b) = some (.bl (PySem.W.dataLt (.int a) (.int b))) := rfl
  rw [e, lt_p]
@[simp] theorem gt_ii {a b : Int} : gtD (.int a) (.int b) = some (.bl (decide (b < a))) := by
  have e : gtD (.int a) (.int b) = some (.bl (PySem.W.dataLt (.int b) (.int a))) := rfl
  rw [e, lt_p]
@[simp] theorem eq_ii {a b : Int} : eqD (.int a) (.int b) = some (.bl (decide (a = b))) := by
  have e : eqD (.int a) (.int b) = some (.bl (a == b)) := rfl
  rw [e]; rfl
@[simp] theorem ne_ii {a b : Int} : neD (.int a) (.int b) = some (.bl (!decide (a = b))) := by
  have e : neD (.int a) (.int b) = some (.bl (!(a == b))) := rfl
  rw [e]; rfl
theorem mod_ii {a b : Int} (h : 0 < b) : modD (.int a) (.int b) = some (.int (a % b)) := by
  show (if decide (0 < b) = true then some (D.int (a % b)) else none) = _
  rw [if_pos (decide_eq_true h)]
theorem mul_ii {a b : Int} (h : mulOk a b = true) : mulI (.int a) (.int b) = some (.int (a * b)) := by
  show (if mulOk a b = true then some (D.int (a * b)) else none) = _
  rw [if_pos h]
theorem fdiv_ii {a b : Int} (h : fdivOk b = true) : fdivD (.int a) (.int b) = some (.int (a / b)) := by
  show (if fdivOk b = true then some (D.int (a / b)) else none) = _
  rw [if_pos h]
@[simp] theorem len_tup {xs : List D} : lenD [.tup xs] = some (.int xs.length) := rfl
@[simp] theorem len_lst {xs : List D} : lenD [.lst xs] = some (.int xs.length) := rfl
@[simp] theorem tuple_lst {xs : List D} : tupleD [.lst xs] = some (.tup xs) := rfl
@[simp] theorem tuple_tup {xs : List D} : tupleD [.tup xs] = some (.tup xs) := rfl
@[simp] theorem list_lst {xs : List D} : listD [.lst xs] = some (.lst xs) := rfl
@[simp] theorem list_tup {xs : List D} : listD [.tup xs] = some (.lst xs) := rfl
@[simp] theorem int_int {n : Int} : intD [.int n] = some (.int n) := rfl
@[simp] theorem items_tup {xs : List D} : itemsD (.tup xs) = some xs := rfl
@[simp] theorem items_lst {xs : List D} : itemsD (.lst xs) = some xs := rfl
@[simp] theorem cut_tup {xs : List D} {l u : Option Int} : cutD (.tup xs) l u = some (.tup (cutL xs l u)) := rfl
@[simp] theorem cut_lst {xs : List D} {l u : Option Int} : cutD (.lst xs) l u = some (.lst (cutL xs l u)) := rfl
@[simp] theorem ev_part {a : EM D} {ρ : Sl} {h : List D} : partM a ρ h = (a ρ h).bind fun d h1 => match d with
  | .int i => .ok (some i) h1
  | _ => .stuck := rfl
@[simp] theorem ev_chain {f g : D → D → Option D} {ma mb mc : EM D} {ρ : Sl} {h : List D} : chainM f g ma mb mc ρ h = (ma ρ h).bind fun a h1 => (mb ρ h1).bind fun b h2 => match f a b with
  | some (.bl true) => (mc ρ h2).bind fun c h3 => Out.of (g b c) h3
  | some (.bl false) => .ok (.bl false) h2
  | _ => .stuck := rfl
theorem max_ii {a b : Int} : max2D [.int a, .int b] = some (.int (max a b)) := by
  show some (D.int (if b > a then b else a)) = _
  congr 2
  omega
theorem min_ii {a b : Int} : min2D [.int a, .int b] = some (.int (min a b)) := by
  show some (D.int (if b < a then b else a)) = _
  congr 2
  omega
/-! ### comprehensions -/
section
variable {α : Type} {gm : EG} {tt : EM Bool} {te : EM D} {ρ : Sl} {enc : α → D}
theorem lcL_pure {h : List D} {p : α → Bool} {g : α → D} : ∀ {xs : List α}, (∀ x ∈ xs, ∃ ρ1, gm (enc x) ρ = some ρ1 ∧ tt ρ1 h = .ok (p x) h ∧ (p x = true → te ρ1 h = .ok (g x) h)) → lcL gm tt te ρ (xs.map enc) h = .ok ((xs.filter p).map g) h
  | [], _ => rfl
  | x :: xs, k => by
    obtain ⟨ρ1, e1, e2, e3⟩ := k x List.mem_cons_self
    have ih := lcL_pure (xs := xs) fun y hy => k y (List.mem_cons_of_mem _ hy)
    rw [List.map_cons]
    unfold lcL
    rw [e1]
    show noE (tt ρ1 h) _ = _
    rw [e2]
    show (if p x = true then _ else _) = _
    by_cases c : p x = true
    · rw [if_pos c, e3 c]
      show (lcL gm tt te ρ (xs.map enc) h).bind _ = _
      rw [ih, List.filter_cons_of_pos c]; rfl
    · rw [if_neg c, ih, List.filter_cons_of_neg c]
theorem lcL_all {h : List D} {g : α → D} {xs : List α} (k : ∀ x ∈ xs, ∃ ρ1, gm (enc x) ρ = some ρ1 ∧ te ρ1 h = .ok (g x) h) : lcL gm yesM te ρ (xs.map enc) h = .ok (xs.map g) h := by
  have := lcL_pure (gm := gm) (tt := yesM) (te := te) (ρ := ρ) (enc := enc) (h := h) (p := fun _ => true) (g := g) (xs := xs) fun x hx => by
    obtain ⟨ρ1, e1, e2⟩ := k x hx
    exact ⟨ρ1, e1, rfl, fun _ => e2⟩
  rw [this, List.filter_eq_self.mpr (fun _ _ => rfl)]
/-- where each turn may change the hand -/
theorem lcL_hand {S : List D → Prop} {P : D → Prop} : ∀ {ds : List D} {h : List D}, S h → (∀ d ∈ ds, ∀ h, S h → ∃ ρ1 y h1, gm d ρ = some ρ1 ∧ te ρ1 h = .ok y h1 ∧ P y ∧ S h1) → ∃ ys h1, lcL gm yesM te ρ ds h = .ok ys h1 ∧ S h1 ∧ ys.length = ds.length ∧ ∀ y ∈ ys, P y
  | [], h, s, _ => ⟨[], h, rfl, s, rfl, fun _ z => by cases z⟩
  | d :: ds, h, s, k => by
    obtain ⟨ρ1, y, h1, e1, e2, py, s1⟩ := k d List.mem_cons_self h s
    obtain ⟨ys, h2, e3, s2, l, pys⟩ := lcL_hand (ds := ds) s1 fun x hx => k x (List.mem_cons_of_mem _ hx)
    refine ⟨y :: ys, h2, ?_, s2, by rw [List.length_cons, List.length_cons, l], fun z hz => ?_⟩
    · unfold lcL
      rw [e1]
      show noE (te ρ1 h) _ = _
      rw [e2]
      show (lcL gm yesM te ρ ds h1).bind _ = _
      rw [e3]; rfl
    · rcases List.mem_cons.mp hz with e | e
      · rw [e]; exact py
      · exact pys z e
end
/-! ### loops -/
section
variable {α : Type} {gm : GM} {b : SM} {enc : α → D}
/-- R: what holds with the items to come -/
theorem forL_run {R : List α → SEnv → List D → Prop} (k : ∀ x xs ρ h, R (x :: xs) ρ h → ∃ ρ1 ρ2 h2, gm (enc x) ρ = some ρ1 ∧ b ρ1 h = .nx ρ2 h2 ∧ R xs ρ2 h2) : ∀ {xs : List α} {ρ : SEnv} {h : List D}, R xs ρ h → ∃ ρ1 h1, forL gm b (xs.map enc) ρ h = .nx ρ1 h1 ∧ R [] ρ1 h1
  | [], ρ, h, r => ⟨ρ, h, rfl, r⟩
  | x :: xs, ρ, h, r => by
    obtain ⟨ρ1, ρ2, h2, e1, e2, r2⟩ := k x xs ρ h r
    obtain ⟨ρ3, h3, e3, r3⟩ := forL_run k r2
    refine ⟨ρ3, h3, ?_, r3⟩
    rw [List.map_cons]
    unfold forL
    rw [e1]
    show (match b ρ1 h with
      | .nx ρ2 h2 => forL gm b (xs.map enc) ρ2 h2
      | .ct ρ2 h2 => forL gm b (xs.map enc) ρ2 h2
      | .brk ρ2 h2 => .nx ρ2 h2
      | o => o) = _
    rw [e2]
    exact e3
end
/-! ### lists of bools -/
theorem allBl_map {α : Type} (f : α → Bool) : ∀ xs : List α, allBl (xs.map fun x => D.bl (f x)) = some (xs.map f)
  | [] => rfl
  | x :: xs => by
    show (allBl (xs.map fun x => D.bl (f x))).map (f x :: ·) = _
    rw [allBl_map f xs]; rfl
theorem allD_map {α : Type} (f : α → Bool) (xs : List α) : allD [.lst (xs.map fun x => D.bl (f x))] = some (.bl (xs.all f)) := by
  show (allBl (xs.map fun x => D.bl (f x))).map (fun bs => D.bl (bs.all id)) = _
  rw [allBl_map, Option.map_some, List.all_map]; rfl
theorem anyD_map {α : Type} (f : α → Bool) (xs : List α) : anyD [.lst (xs.map fun x => D.bl (f x))] = some (.bl (xs.any f)) := by
  show (allBl (xs.map fun x => D.bl (f x))).map (fun bs => D.bl (bs.any id)) = _
  rw [allBl_map, Option.map_some, List.any_map]; rfl
/-- indices -/
theorem atI_nat' {α : Type} {xs : List α} {i : Nat} {x : α} (h : xs[i]? = some x) : L2.atI xs (i : Int) = some x := L2.atI_nat h
theorem intsD_len {ns : List Int} : (intsD ns).length = ns.length := by unfold intsD; rw [List.length_map]
theorem intsD_get {ns : List Int} {i : Nat} {x : Int} (h : ns[i]? = some x) : (intsD ns)[i]? = some (.int x) := by unfold intsD; rw [List.getElem?_map, h]; rfl
/-! ### slices, ranges, ints in lists -/
theorem cutL_from {α : Type} (xs : List α) (k : Nat) : cutL xs (some (k : Int)) none = xs.drop k := by
  unfold cutL
  rw [HT.sIx_nat xs.length 0 k, HT.sIx_none]
  by_cases c : k ≤ xs.length
  · rw [Nat.min_eq_left c, List.take_of_length_le (by rw [List.length_drop]; omega)]
  · rw [Nat.min_eq_right (by omega), List.drop_of_length_le (Nat.le_refl _), List.drop_of_length_le (by omega), List.take_nil]
theorem cutL_to {α : Type} (xs : List α) (k : Nat) : cutL xs none (some (k : Int)) = xs.take k := by
  unfold cutL
  rw [HT.sIx_nat xs.length xs.length k, HT.sIx_none, List.drop_zero, Nat.sub_zero]
  by_cases c : k ≤ xs.length
  · rw [Nat.min_eq_left c]
  · rw [Nat.min_eq_right (by omega), List.take_of_length_le (Nat.le_refl _), List.take_of_length_le (by omega)]
theorem r62_of {n : Int} (h1 : 0 ≤ n) (h2 : n ≤ 1000000000) : r62 n = true := decide_eq_true (by omega)
def natsD (ns : List Nat) : List D := ns.map fun (i : Nat) => D.int (i : Int)
theorem rg0 (n : Nat) : rg 0 n = (List.range n).map fun (i : Nat) => D.int (i : Int) := by unfold rg; simp
theorem rng1_nat {n : Nat} (h : n ≤ 1000000000) : rng1D [.int (n : Int)] = some ((List.range n).map fun (i : Nat) => D.int (i : Int)) := by
  show (if r62 (n : Int) = true then some (rg 0 ((n : Int)).toNat) else none) = _
  rw [if_pos (r62_of (by omega) (by omega)), Int.toNat_natCast, rg0]
theorem py_ints : ∀ ns : List Int, pyAll (intsD ns) = some (ns.map .int)
  | [] => rfl
  | n :: ns => by
    show (match (D.int n).py, pyAll (intsD ns) with
      | some a, some b => some (a :: b)
      | _, _ => none) = _
    rw [py_ints ns]; rfl
theorem natsD_ints (ns : List Nat) : natsD ns = intsD (ns.map fun (i : Nat) => (i : Int)) := by unfold natsD intsD; rw [List.map_map]; rfl
theorem mem_tup_ints (x : Int) (ns : List Int) : memD (.int x) (.tup (intsD ns)) = some (decide (x ∈ ns)) := by
  have e : (D.tup (intsD ns)).py = some (.tuple (ns.map .int)) := by unfold D.py; rw [py_ints]; rfl
  unfold memD
  rw [e]
  show some ((ns.map PyData.int).any fun y => PyData.eqv y (.int x)) = _
  rw [List.any_map]
  congr 1
  rw [Bool.eq_iff_iff, List.any_eq_true, decide_eq_true_iff]
  exact ⟨fun ⟨y, h1, h2⟩ => by have e := eq_of_beq (show (y == x) = true from h2); rw [← e]; exact h1, fun h => ⟨x, h, show (x == x) = true from beq_self_eq_true x⟩⟩
theorem mem_lst_ints (x : Int) (ns : List Int) : memD (.int x) (.lst (intsD ns)) = some (decide (x ∈ ns)) := by
  have e : (D.lst (intsD ns)).py = some (.list (ns.map .int)) := by unfold D.py; rw [py_ints]; rfl
  unfold memD
  rw [e]
  show some ((ns.map PyData.int).any fun y => PyData.eqv y (.int x)) = _
  rw [List.any_map]
  congr 1
  rw [Bool.eq_iff_iff, List.any_eq_true, decide_eq_true_iff]
  exact ⟨fun ⟨y, h1, h2⟩ => by have e := eq_of_beq (show (y == x) = true from h2); rw [← e]; exact h1, fun h => ⟨x, h, show (x == x) = true from beq_self_eq_true x⟩⟩
theorem in_tup_ints (x : Int) (ns : List Int) : inD (.int x) (.tup (intsD ns)) = some (.bl (decide (x ∈ ns))) := by unfold inD; rw [mem_tup_ints]; rfl
theorem in_lst_ints (x : Int) (ns : List Int) : inD (.int x) (.lst (intsD ns)) = some (.bl (decide (x ∈ ns))) := by unfold inD; rw [mem_lst_ints]; rfl
theorem notIn_tup_ints (x : Int) (ns : List Int) : notInD (.int x) (.tup (intsD ns)) = some (.bl (!decide (x ∈ ns))) := by unfold notInD; rw [mem_tup_ints]; rfl
theorem notIn_lst_ints (x : Int) (ns : List Int) : notInD (.int x) (.lst (intsD ns)) = some (.bl (!decide (x ∈ ns))) := by unfold notInD; rw [mem_lst_ints]; rfl
theorem nat_mem (i : Nat) (ns : List Nat) : ((i : Int) ∈ ns.map fun (j : Nat) => (j : Int)) ↔ i ∈ ns := by
  rw [List.mem_map]
  exact ⟨fun ⟨j, h1, h2⟩ => by have : j = i := by omega
                               rw [← this]; exact h1, fun h => ⟨i, h, rfl⟩⟩
theorem in_tup_nats (i : Nat) (ns : List Nat) : inD (.int i) (.tup (natsD ns)) = some (.bl (decide (i ∈ ns))) := by rw [natsD_ints, in_tup_ints]; simp only [nat_mem]
theorem in_lst_nats (i : Nat) (ns : List Nat) : inD (.int i) (.lst (natsD ns)) = some (.bl (decide (i ∈ ns))) := by rw [natsD_ints, in_lst_ints]; simp only [nat_mem]
theorem notIn_tup_nats (i : Nat) (ns : List Nat) : notInD (.int i) (.tup (natsD ns)) = some (.bl (!decide (i ∈ ns))) := by rw [natsD_ints, notIn_tup_ints]; simp only [nat_mem]
theorem notIn_lst_nats (i : Nat) (ns : List Nat) : notInD (.int i) (.lst (natsD ns)) = some (.bl (!decide (i ∈ ns))) := by rw [natsD_ints, notIn_lst_ints]; simp only [nat_mem]
theorem count_ints (x : Int) (ns : List Int) : countD (intsD ns) [.int x] = some (.int ((ns.count x : Nat) : Int)) := by
  unfold countD
  rw [py_ints]
  show some (D.int (((ns.map PyData.int).countP fun q => PyData.eqv q (.int x) : Nat) : Int)) = _
  rw [List.countP_map]
  rfl
theorem count_nats (x : Nat) (ns : List Nat) : countD (natsD ns) [.int x] = some (.int ((ns.count x : Nat) : Int)) := by
  rw [natsD_ints, count_ints]
  congr 3
  induction ns with
  | nil => rfl
  | cons a ns ih =>
    rw [List.map_cons, List.count_cons, List.count_cons, ih]
    congr 1
    by_cases c : a = x
    · subst c; simp
    · have : ¬ ((a : Int) = (x : Int)) := by omega
      simp [c, this]
theorem natsD_len {ns : List Nat} : (natsD ns).length = ns.length := by unfold natsD; rw [List.length_map]
theorem natsD_get {ns : List Nat} {i x : Nat} (h : ns[i]? = some x) : (natsD ns)[i]? = some (.int x) := by unfold natsD; rw [List.getElem?_map, h]; rfl
theorem idx_tup {hs : List D} {xs : List D} {i : Nat} {x : D} (h : xs[i]? = some x) : idxD hs (.tup xs) (.int i) = some x := atI_nat' h
theorem idx_lst {hs : List D} {xs : List D} {i : Nat} {x : D} (h : xs[i]? = some x) : idxD hs (.lst xs) (.int i) = some x := atI_nat' h
theorem idx_hand {hs : List D} {i : Nat} {x : D} (h : hs[i]? = some x) : idxD hs .hand (.int i) = some x := atI_nat' h
end VL

set_option Elab.async false
set_option linter.all false
set_option maxRecDepth 100000
set_option maxHeartbeats 4000000
namespace K49
open PySem PySem.Spec PyProof.Rows L2 VL
def topS (i : Nat) : Stmt := PySem.Challenge.pw_wavehouse_k49_whole_years_of_films_or_tr.main.body.getD i (.Pass ⟨0, 0, 0, 0⟩)
abbrev TP : PP := ⟨[], false⟩
structure Facts (K : PySem.W.Frag) (mg : Str → Option Value) where
  a_is_integer : Addr
  d_is_integer : FuncData
  F_is_integer : Fun K "is_integer" "is_integer" (topS 1) a_is_integer d_is_integer
  g_is_integer : mg "is_integer" = some (.ref a_is_integer)
  k_is_integer : PySem.W.keepIn K (.ref a_is_integer) = true
  b_is_integer : Binds K d_is_integer ["thing"] []
  a_is_within : Addr
  d_is_within : FuncData
  F_is_within : Fun K "is_within" "is_within" (topS 2) a_is_within d_is_within
  g_is_within : mg "is_within" = some (.ref a_is_within)
  k_is_within : PySem.W.keepIn K (.ref a_is_within) = true
  b_is_within : Binds K d_is_within ["thing", "low", "high"] []
  a_is_sized : Addr
  d_is_sized : FuncData
  F_is_sized : Fun K "is_sized" "is_sized" (topS 3) a_is_sized d_is_sized
  g_is_sized : mg "is_sized" = some (.ref a_is_sized)
  k_is_sized : PySem.W.keepIn K (.ref a_is_sized) = true
  b_is_sized : Binds K d_is_sized ["thing", "low", "high"] []
  a_is_film : Addr
  d_is_film : FuncData
  F_is_film : Fun K "is_film" "is_film" (topS 17) a_is_film d_is_film
  g_is_film : mg "is_film" = some (.ref a_is_film)
  k_is_film : PySem.W.keepIn K (.ref a_is_film) = true
  b_is_film : Binds K d_is_film ["thing"] []
  a_are_films : Addr
  d_are_films : FuncData
  F_are_films : Fun K "are_films" "are_films" (topS 18) a_are_films d_are_films
  g_are_films : mg "are_films" = some (.ref a_are_films)
  k_are_films : PySem.W.keepIn K (.ref a_are_films) = true
  b_are_films : Binds K d_are_films ["thing"] []
  a_check_films : Addr
  d_check_films : FuncData
  F_check_films : Fun K "check_films" "check_films" (topS 19) a_check_films d_check_films
  g_check_films : mg "check_films" = some (.ref a_check_films)
  k_check_films : PySem.W.keepIn K (.ref a_check_films) = true
  b_check_films : Binds K d_check_films ["films"] []
  a_check_year_days : Addr
  d_check_year_days : FuncData
  F_check_year_days : Fun K "check_year_days" "check_year_days" (topS 20) a_check_year_days d_check_year_days
  g_check_year_days : mg "check_year_days" = some (.ref a_check_year_days)
  k_check_year_days : PySem.W.keepIn K (.ref a_check_year_days) = true
  b_check_year_days : Binds K d_check_year_days ["films", "days"] []
  a_can_be_sent : Addr
  d_can_be_sent : FuncData
  F_can_be_sent : Fun K "can_be_sent" "can_be_sent" (topS 21) a_can_be_sent d_can_be_sent
  g_can_be_sent : mg "can_be_sent" = some (.ref a_can_be_sent)
  k_can_be_sent : PySem.W.keepIn K (.ref a_can_be_sent) = true
  b_can_be_sent : Binds K d_can_be_sent ["films", "sent", "film", "is_held"] []
  a_raw_free_films : Addr
  d_raw_free_films : FuncData
  F_raw_free_films : Fun K "raw_free_films" "raw_free_films" (topS 22) a_raw_free_films d_raw_free_films
  g_raw_free_films : mg "raw_free_films" = some (.ref a_raw_free_films)
  k_raw_free_films : PySem.W.keepIn K (.ref a_raw_free_films) = true
  b_raw_free_films : Binds K d_raw_free_films ["films", "sent", "is_held"] []
  a_is_sent_row : Addr
  d_is_sent_row : FuncData
  F_is_sent_row : Fun K "is_sent_row" "is_sent_row" (topS 23) a_is_sent_row d_is_sent_row
  g_is_sent_row : mg "is_sent_row" = some (.ref a_is_sent_row)
  k_is_sent_row : PySem.W.keepIn K (.ref a_is_sent_row) = true
  b_is_sent_row : Binds K d_is_sent_row ["films", "thing", "most", "is_held"] []
  a_is_year : Addr
  d_is_year : FuncData
  F_is_year : Fun K "is_year" "is_year" (topS 24) a_is_year d_is_year
  g_is_year : mg "is_year" = some (.ref a_is_year)
  k_is_year : PySem.W.keepIn K (.ref a_is_year) = true
  b_is_year : Binds K d_is_year ["films", "days", "thing"] []
  a_check_sent_films : Addr
  d_check_sent_films : FuncData
  F_check_sent_films : Fun K "check_sent_films" "check_sent_films" (topS 25) a_check_sent_films d_check_sent_films
  g_check_sent_films : mg "check_sent_films" = some (.ref a_check_sent_films)
  k_check_sent_films : PySem.W.keepIn K (.ref a_check_sent_films) = true
  b_check_sent_films : Binds K d_check_sent_films ["films", "sent"] []
  a_free_films : Addr
  d_free_films : FuncData
  F_free_films : Fun K "free_films" "free_films" (topS 26) a_free_films d_free_films
  g_free_films : mg "free_films" = some (.ref a_free_films)
  k_free_films : PySem.W.keepIn K (.ref a_free_films) = true
  b_free_films : Binds K d_free_films ["films", "sent"] []
  a_runs_left : Addr
  d_runs_left : FuncData
  F_runs_left : Fun K "runs_left" "runs_left" (topS 27) a_runs_left d_runs_left
  g_runs_left : mg "runs_left" = some (.ref a_runs_left)
  k_runs_left : PySem.W.keepIn K (.ref a_runs_left) = true
  b_runs_left : Binds K d_runs_left ["films", "sent"] []
  a_all_years : Addr
  d_all_years : FuncData
  F_all_years : Fun K "all_years" "all_years" (topS 28) a_all_years d_all_years
  g_all_years : mg "all_years" = some (.ref a_all_years)
  k_all_years : PySem.W.keepIn K (.ref a_all_years) = true
  b_all_years : Binds K d_all_years ["films", "days", "is_held"] []
  a_year_node : Addr
  d_year_node : FuncData
  F_year_node : Fun K "year_node" "year_node" (topS 29) a_year_node d_year_node
  g_year_node : mg "year_node" = some (.ref a_year_node)
  k_year_node : PySem.W.keepIn K (.ref a_year_node) = true
  b_year_node : Binds K d_year_node ["films", "days", "sent"] []
  a_year_told : Addr
  d_year_told : FuncData
  F_year_told : Fun K "year_told" "year_told" (topS 30) a_year_told d_year_told
  g_year_told : mg "year_told" = some (.ref a_year_told)
  k_year_told : PySem.W.keepIn K (.ref a_year_told) = true
  b_year_told : Binds K d_year_told ["films", "days"] []
  a_years_many : Addr
  d_years_many : FuncData
  F_years_many : Fun K "years_many" "years_many" (topS 31) a_years_many d_years_many
  g_years_many : mg "years_many" = some (.ref a_years_many)
  k_years_many : PySem.W.keepIn K (.ref a_years_many) = true
  b_years_many : Binds K d_years_many ["films", "days"] []
  a_sure_days : Addr
  d_sure_days : FuncData
  F_sure_days : Fun K "sure_days" "sure_days" (topS 32) a_sure_days d_sure_days
  g_sure_days : mg "sure_days" = some (.ref a_sure_days)
  k_sure_days : PySem.W.keepIn K (.ref a_sure_days) = true
  b_sure_days : Binds K d_sure_days ["films", "days"] []
  a__law_hand : Addr
  d__law_hand : FuncData
  F__law_hand : Fun K "_law_hand" "_law_hand" (topS 34) a__law_hand d__law_hand
  g__law_hand : mg "_law_hand" = some (.ref a__law_hand)
  k__law_hand : PySem.W.keepIn K (.ref a__law_hand) = true
  b__law_hand : Binds K d__law_hand ["script"] []
  a__law_draw : Addr
  d__law_draw : FuncData
  F__law_draw : Fun K "_law_draw" "_law_draw" (topS 35) a__law_draw d__law_draw
  g__law_draw : mg "_law_draw" = some (.ref a__law_draw)
  k__law_draw : PySem.W.keepIn K (.ref a__law_draw) = true
  b__law_draw : Binds K d__law_draw ["hand", "limit"] []
  a__law_some : Addr
  d__law_some : FuncData
  F__law_some : Fun K "_law_some" "_law_some" (topS 36) a__law_some d__law_some
  g__law_some : mg "_law_some" = some (.ref a__law_some)
  k__law_some : PySem.W.keepIn K (.ref a__law_some) = true
  b__law_some : Binds K d__law_some ["hand", "items"] []
  a__law_is : Addr
  d__law_is : FuncData
  F__law_is : Fun K "_law_is" "_law_is" (topS 37) a__law_is d__law_is
  g__law_is : mg "_law_is" = some (.ref a__law_is)
  k__law_is : PySem.W.keepIn K (.ref a__law_is) = true
  b__law_is : Binds K d__law_is ["thing", "due"] []
  a__law_films : Addr
  d__law_films : FuncData
  F__law_films : Fun K "_law_films" "_law_films" (topS 38) a__law_films d__law_films
  g__law_films : mg "_law_films" = some (.ref a__law_films)
  k__law_films : PySem.W.keepIn K (.ref a__law_films) = true
  b__law_films : Binds K d__law_films ["hand", "many", "days"] []
  a__law_can : Addr
  d__law_can : FuncData
  F__law_can : Fun K "_law_can" "_law_can" (topS 39) a__law_can d__law_can
  g__law_can : mg "_law_can" = some (.ref a__law_can)
  k__law_can : PySem.W.keepIn K (.ref a__law_can) = true
  b__law_can : Binds K d__law_can ["films", "sent", "film"] []
  a__law_years : Addr
  d__law_years : FuncData
  F__law_years : Fun K "_law_years" "_law_years" (topS 40) a__law_years d__law_years
  g__law_years : mg "_law_years" = some (.ref a__law_years)
  k__law_years : PySem.W.keepIn K (.ref a__law_years) = true
  b__law_years : Binds K d__law_years ["films", "days"] []
  a__law_node : Addr
  d__law_node : FuncData
  F__law_node : Fun K "_law_node" "_law_node" (topS 41) a__law_node d__law_node
  g__law_node : mg "_law_node" = some (.ref a__law_node)
  k__law_node : PySem.W.keepIn K (.ref a__law_node) = true
  b__law_node : Binds K d__law_node ["films", "days", "sent", "depth"] []
  a__law_world : Addr
  d__law_world : FuncData
  F__law_world : Fun K "_law_world" "_law_world" (topS 42) a__law_world d__law_world
  g__law_world : mg "_law_world" = some (.ref a__law_world)
  k__law_world : PySem.W.keepIn K (.ref a__law_world) = true
  b__law_world : Binds K d__law_world ["hand"] []
  a__law_is_sent_right : Addr
  d__law_is_sent_right : FuncData
  F__law_is_sent_right : Fun K "_law_is_sent_right" "_law_is_sent_right" (topS 43) a__law_is_sent_right d__law_is_sent_right
  g__law_is_sent_right : mg "_law_is_sent_right" = some (.ref a__law_is_sent_right)
  k__law_is_sent_right : PySem.W.keepIn K (.ref a__law_is_sent_right) = true
  b__law_is_sent_right : Binds K d__law_is_sent_right ["hand", "films", "rows", "days"] []
  a__law_is_right : Addr
  d__law_is_right : FuncData
  F__law_is_right : Fun K "_law_is_right" "_law_is_right" (topS 44) a__law_is_right d__law_is_right
  g__law_is_right : mg "_law_is_right" = some (.ref a__law_is_right)
  k__law_is_right : PySem.W.keepIn K (.ref a__law_is_right) = true
  b__law_is_right : Binds K d__law_is_right ["hand"] []
  a_law : Addr
  d_law : FuncData
  F_law : Fun K "law" "law" (topS 45) a_law d_law
  g_law : mg "law" = some (.ref a_law)
  k_law : PySem.W.keepIn K (.ref a_law) = true
  b_law : Binds K d_law ["script"] []
  n_abs : mg "abs" = none
  n_all : mg "all" = none
  n_any : mg "any" = none
  n_bool : mg "bool" = none
  n_dict : mg "dict" = none
  n_enumerate : mg "enumerate" = none
  n_int : mg "int" = none
  n_isinstance : mg "isinstance" = none
  n_len : mg "len" = none
  n_list : mg "list" = none
  n_max : mg "max" = none
  n_min : mg "min" = none
  n_range : mg "range" = none
  n_str : mg "str" = none
  n_tuple : mg "tuple" = none
  n_zip : mg "zip" = none
  c_MOST_FILMS : ∃ t, mg "MOST_FILMS" = some (.int 4 t)
  c_MOST_FILM_DAY : ∃ t, mg "MOST_FILM_DAY" = some (.int 20 t)
  c_MOST_HOLD : ∃ t, mg "MOST_HOLD" = some (.int 4 t)
  c_MOST_RUNS : ∃ t, mg "MOST_RUNS" = some (.int 4 t)
  c_MOST_YEAR : ∃ t, mg "MOST_YEAR" = some (.int 6 t)
  c_YEAR_FOUND : ∃ t, mg "YEAR_FOUND" = some (.str "year" t)
  c_YEAR_TREE : ∃ t, mg "YEAR_TREE" = some (.str "tree" t)
section
variable {P : Program} {w : World} {K : PySem.W.Frag} {mg : Str → Option Value} {base : Heap}
/-! ### is_integer -/
noncomputable def m_is_integer : SM := retM (andVM (isiM "int" (vM 0)) (notVM (isiM "bool" (vM 0))))
noncomputable def f_is_integer : FM := runF 1 1 m_is_integer
theorem sc_is_integer : FnScope ["thing"] ["thing"] (defScope (topS 1)) := ⟨rfl, rfl, rfl, by decide +kernel, rfl, by decide +kernel, by decide +kernel⟩
theorem ok_is_integer (F : Facts K mg) : FnOk P w K mg base (L2.CX P w) 1 F.a_is_integer F.d_is_integer ["thing"] (spV TP K mg 1 f_is_integer) := vl_fn (T := TP) F.F_is_integer sc_is_integer fun cdv A outer s H E hr0 => by
    have hr : Room 0 (cxOf (L2.CX P w) P w K mg base ["thing"] "is_integer" (defScope (topS 1)) F.a_is_integer cdv A outer s H E).A := hr0
    have hu := huOf hr
    have tk : Takes (cxOf (L2.CX P w) P w K mg base ["thing"] "is_integer" (defScope (topS 1)) F.a_is_integer cdv A outer s H E) (fun cls d _ H => E cls d H) := takes_of rfl rfl rfl rfl
    have S := sc_is_integer
    exact vss_one (vs_ret (ve_and (ve_isi (c := "int") (by decide) (by rfl) F.n_isinstance rfl (by rfl) F.n_int bt_int (vv 0)) (ve_one (ve_not (ve_isi (c := "bool") (by decide) (by rfl) F.n_isinstance rfl (by rfl) F.n_bool bt_bool (vv 0))))))
/-! ### is_within -/
noncomputable def m_is_within : SM := retM (andVM (callF 1 (acM (vM 0) (anM)) f_is_integer) (chainM leD leD (vM 1) (vM 0) (vM 2)))
noncomputable def f_is_within : FM := runF 3 3 m_is_within
theorem sc_is_within : FnScope ["thing", "low", "high"] ["thing", "low", "high"] (defScope (topS 2)) := ⟨rfl, rfl, rfl, by decide +kernel, rfl, by decide +kernel, by decide +kernel⟩
theorem ok_is_within (F : Facts K mg) : FnOk P w K mg base (L2.CX P w) 2 F.a_is_within F.d_is_within ["thing", "low", "high"] (spV TP K mg 3 f_is_within) := vl_fn (T := TP) F.F_is_within sc_is_within fun cdv A outer s H E hr0 => by
    have hr : Room 1 (cxOf (L2.CX P w) P w K mg base ["thing", "low", "high"] "is_within" (defScope (topS 2)) F.a_is_within cdv A outer s H E).A := hr0
    have hu := huOf hr
    have tk : Takes (cxOf (L2.CX P w) P w K mg base ["thing", "low", "high"] "is_within" (defScope (topS 2)) F.a_is_within cdv A outer s H E) (fun cls d _ H => E cls d H) := takes_of rfl rfl rfl rfl
    have S := sc_is_within
    exact vss_one (vs_ret (ve_and (ve_call (ok_is_integer F) (hr.mono (by omega)) F.g_is_integer F.k_is_integer F.b_is_integer (passW tk) (by rfl) (va_cons (vv 0) (va_nil))) (ve_one (ve_chain (ov_le hu) (ov_le hu) (vv 1) (vv 0) (vv 2)))))
/-! ### is_sized -/
noncomputable def m_is_sized : SM := retM (andVM (isiM "tuple" (vM 0)) (chainM leD leD (vM 1) (callM lenD (acM (vM 0) (anM))) (vM 2)))
noncomputable def f_is_sized : FM := runF 3 3 m_is_sized
theorem sc_is_sized : FnScope ["thing", "low", "high"] ["thing", "low", "high"] (defScope (topS 3)) := ⟨rfl, rfl, rfl, by decide +kernel, rfl, by decide +kernel, by decide +kernel⟩
theorem ok_is_sized (F : Facts K mg) : FnOk P w K mg base (L2.CX P w) 1 F.a_is_sized F.d_is_sized ["thing", "low", "high"] (spV TP K mg 3 f_is_sized) := vl_fn (T := TP) F.F_is_sized sc_is_sized fun cdv A outer s H E hr0 => by
    have hr : Room 0 (cxOf (L2.CX P w) P w K mg base ["thing", "low", "high"] "is_sized" (defScope (topS 3)) F.a_is_sized cdv A outer s H E).A := hr0
    have hu := huOf hr
    have tk : Takes (cxOf (L2.CX P w) P w K mg base ["thing", "low", "high"] "is_sized" (defScope (topS 3)) F.a_is_sized cdv A outer s H E) (fun cls d _ H => E cls d H) := takes_of rfl rfl rfl rfl
    have S := sc_is_sized
    exact vss_one (vs_ret (ve_and (ve_isi (c := "tuple") (by decide) (by rfl) F.n_isinstance rfl (by rfl) F.n_tuple bt_tuple (vv 0)) (ve_one (ve_chain (ov_le hu) (ov_le hu) (vv 1) (ve_callB cv_len (by rfl) F.n_len bt_len (va_cons (vv 0) (va_nil))) (vv 2)))))
/-! ### is_film -/
noncomputable def m_is_film : SM := seqM (ifSM (orM (notM (tst (callF 3 (acM (vM 0) (acM (cM (.int 4)) (acM (cM (.int 4)) (anM)))) f_is_sized))) (orM (notM (tst (callF 3 (acM (idxM (vM 0) (cM (.int 1))) (acM (cM (.int 0)) (acM (cM (.int 20)) (anM)))) f_is_within))) (notM (tst (callF 3 (acM (idxM (vM 0) (cM (.int 0))) (acM (cM (.int 0)) (acM (idxM (vM 0) (cM (.int 1))) (anM)))) f_is_within))))) (retM (cM (.bl false))) (skipM)) (retM (andVM (callF 3 (acM (idxM (vM 0) (cM (.int 2))) (acM (cM (.int 1)) (acM (cM (.int 4)) (anM)))) f_is_within) (callF 3 (acM (idxM (vM 0) (cM (.int 3))) (acM (cM (.int 0)) (acM (cM (.int 4)) (anM)))) f_is_within)))
noncomputable def f_is_film : FM := runF 1 1 m_is_film
theorem sc_is_film : FnScope ["thing"] ["thing"] (defScope (topS 17)) := ⟨rfl, rfl, rfl, by decide +kernel, rfl, by decide +kernel, by decide +kernel⟩
theorem ok_is_film (F : Facts K mg) : FnOk P w K mg base (L2.CX P w) 3 F.a_is_film F.d_is_film ["thing"] (spV TP K mg 1 f_is_film) := vl_fn (T := TP) F.F_is_film sc_is_film fun cdv A outer s H E hr0 => by
    have hr : Room 2 (cxOf (L2.CX P w) P w K mg base ["thing"] "is_film" (defScope (topS 17)) F.a_is_film cdv A outer s H E).A := hr0
    have hu := huOf hr
    have tk : Takes (cxOf (L2.CX P w) P w K mg base ["thing"] "is_film" (defScope (topS 17)) F.a_is_film cdv A outer s H E) (fun cls d _ H => E cls d H) := takes_of rfl rfl rfl rfl
    have S := sc_is_film
    exact vss_cons (vs_if (VW.vt (vw_or (vt_not (vt_val (ve_call (ok_is_sized F) (hr.mono (by omega)) F.g_is_sized F.k_is_sized F.b_is_sized (passW tk) (by rfl) (va_cons (vv 0) (va_cons (ve_int) (va_cons (ve_int) (va_nil))))))) (vw_or (vt_not (vt_val (ve_call (ok_is_within F) (hr.mono (by omega)) F.g_is_within F.k_is_within F.b_is_within (passW tk) (by rfl) (va_cons (ve_ix rfl hu (vv 0) (ve_int)) (va_cons (ve_int) (va_cons (ve_gint (by rfl) F.c_MOST_FILM_DAY) (va_nil))))))) (vw_or1 (vt_not (vt_val (ve_call (ok_is_within F) (hr.mono (by omega)) F.g_is_within F.k_is_within F.b_is_within (passW tk) (by rfl) (va_cons (ve_ix rfl hu (vv 0) (ve_int)) (va_cons (ve_int) (va_cons (ve_ix rfl hu (vv 0) (ve_int)) (va_nil))))))))))) (vss_one (vs_ret (ve_bl))) (vss_nil))
        (vss_one (vs_ret (ve_and (ve_call (ok_is_within F) (hr.mono (by omega)) F.g_is_within F.k_is_within F.b_is_within (passW tk) (by rfl) (va_cons (ve_ix rfl hu (vv 0) (ve_int)) (va_cons (ve_int) (va_cons (ve_gint (by rfl) F.c_MOST_RUNS) (va_nil))))) (ve_one (ve_call (ok_is_within F) (hr.mono (by omega)) F.g_is_within F.k_is_within F.b_is_within (passW tk) (by rfl) (va_cons (ve_ix rfl hu (vv 0) (ve_int)) (va_cons (ve_int) (va_cons (ve_gint (by rfl) F.c_MOST_HOLD) (va_nil)))))))))
/-! ### are_films -/
noncomputable def are_films_e1 : EM D := callF 1 (acM (vM 1) (anM)) f_is_film
noncomputable def m_are_films : SM := retM (andVM (callF 3 (acM (vM 0) (acM (cM (.int 1)) (acM (cM (.int 4)) (anM)))) f_is_sized) (callM allD (acM (lcM (seqI (vM 0)) [1] (eNm 1) (yesM) (are_films_e1)) (anM))))
noncomputable def f_are_films : FM := runF 2 1 m_are_films
theorem sc_are_films : FnScope ["thing", "film"] ["thing"] (defScope (topS 18)) := ⟨rfl, rfl, rfl, by decide +kernel, rfl, by decide +kernel, by decide +kernel⟩
theorem ok_are_films (F : Facts K mg) : FnOk P w K mg base (L2.CX P w) 4 F.a_are_films F.d_are_films ["thing"] (spV TP K mg 1 f_are_films) := vl_fn (T := TP) F.F_are_films sc_are_films fun cdv A outer s H E hr0 => by
    have hr : Room 3 (cxOf (L2.CX P w) P w K mg base ["thing", "film"] "are_films" (defScope (topS 18)) F.a_are_films cdv A outer s H E).A := hr0
    have hu := huOf hr
    have tk : Takes (cxOf (L2.CX P w) P w K mg base ["thing", "film"] "are_films" (defScope (topS 18)) F.a_are_films cdv A outer s H E) (fun cls d _ H => E cls d H) := takes_of rfl rfl rfl rfl
    have S := sc_are_films
    exact vss_one (vs_ret (ve_and (ve_call (ok_is_sized F) (hr.mono (by omega)) F.g_is_sized F.k_is_sized F.b_is_sized (passW tk) (by rfl) (va_cons (vv 0) (va_cons (ve_int) (va_cons (ve_gint (by rfl) F.c_MOST_FILMS) (va_nil))))) (ve_one (ve_callB (cv_all rfl) (by rfl) F.n_all bt_all (va_cons (VN.ve (vn_lc (own := [("film", 1)]) (LcOk.mk (own := [("film", 1)]) rfl S.nd (vi_seq (vv 0)) (blkOk_by rfl) (fun _ _ _ _ _ => vge_name (i := 1) (by decide) S.nd rfl (by first | exact .inl rfl | exact .inr rfl)) (fun _ _ _ _ _ => vts_nil) (fun _ _ _ _ _ => ve_call (ok_is_film F) (hr.mono (by omega)) F.g_is_film F.k_is_film F.b_is_film passF (by rfl) (va_cons (vv 1) (va_nil)))))) (va_nil))))))
/-! ### check_films -/
noncomputable def m_check_films : SM := ifSM (notM (tst (callF 1 (acM (vM 0) (anM)) f_are_films))) (stuckM) (skipM)
noncomputable def f_check_films : FM := runF 1 1 m_check_films
theorem sc_check_films : FnScope ["films"] ["films"] (defScope (topS 19)) := ⟨rfl, rfl, rfl, by decide +kernel, rfl, by decide +kernel, by decide +kernel⟩
theorem ok_check_films (F : Facts K mg) : FnOk P w K mg base (L2.CX P w) 5 F.a_check_films F.d_check_films ["films"] (spV TP K mg 1 f_check_films) := vl_fn (T := TP) F.F_check_films sc_check_films fun cdv A outer s H E hr0 => by
    have hr : Room 4 (cxOf (L2.CX P w) P w K mg base ["films"] "check_films" (defScope (topS 19)) F.a_check_films cdv A outer s H E).A := hr0
    have hu := huOf hr
    have tk : Takes (cxOf (L2.CX P w) P w K mg base ["films"] "check_films" (defScope (topS 19)) F.a_check_films cdv A outer s H E) (fun cls d _ H => E cls d H) := takes_of rfl rfl rfl rfl
    have S := sc_check_films
    exact vss_one (vs_if (vt_not (vt_val (ve_call (ok_are_films F) (hr.mono (by omega)) F.g_are_films F.k_are_films F.b_are_films (passW tk) (by rfl) (va_cons (vv 0) (va_nil))))) (vss_one (vs_never)) (vss_nil))
/-! ### check_year_days -/
noncomputable def m_check_year_days : SM := seqM (dropM (callF 1 (acM (vM 0) (anM)) f_check_films)) (ifSM (notM (tst (callF 3 (acM (vM 1) (acM (cM (.int 1)) (acM (cM (.int 6)) (anM)))) f_is_within))) (stuckM) (skipM))
noncomputable def f_check_year_days : FM := runF 2 2 m_check_year_days
theorem sc_check_year_days : FnScope ["films", "days"] ["films", "days"] (defScope (topS 20)) := ⟨rfl, rfl, rfl, by decide +kernel, rfl, by decide +kernel, by decide +kernel⟩
theorem ok_check_year_days (F : Facts K mg) : FnOk P w K mg base (L2.CX P w) 6 F.a_check_year_days F.d_check_year_days ["films", "days"] (spV TP K mg 2 f_check_year_days) := vl_fn (T := TP) F.F_check_year_days sc_check_year_days fun cdv A outer s H E hr0 => by
    have hr : Room 5 (cxOf (L2.CX P w) P w K mg base ["films", "days"] "check_year_days" (defScope (topS 20)) F.a_check_year_days cdv A outer s H E).A := hr0
    have hu := huOf hr
    have tk : Takes (cxOf (L2.CX P w) P w K mg base ["films", "days"] "check_year_days" (defScope (topS 20)) F.a_check_year_days cdv A outer s H E) (fun cls d _ H => E cls d H) := takes_of rfl rfl rfl rfl
    have S := sc_check_year_days
    exact vss_cons (vs_expr (ve_call (ok_check_films F) (hr.mono (by omega)) F.g_check_films F.k_check_films F.b_check_films (passW tk) (by rfl) (va_cons (vv 0) (va_nil))))
        (vss_one (vs_if (vt_not (vt_val (ve_call (ok_is_within F) (hr.mono (by omega)) F.g_is_within F.k_is_within F.b_is_within (passW tk) (by rfl) (va_cons (vv 1) (va_cons (ve_int) (va_cons (ve_gint (by rfl) F.c_MOST_YEAR) (va_nil))))))) (vss_one (vs_never)) (vss_nil)))
/-! ### can_be_sent -/
noncomputable def can_be_sent_e1 : EM D := vM 8
noncomputable def can_be_sent_t1 : EM Bool := tst (bin2 eqD (vM 8) (vM 2))
noncomputable def m_can_be_sent : SM := seqM (setM (gTu 4 (gsC (gNm 4) (gsC (gNm 5) (gsC (gNm 6) (gsC (gNm 7) (gsN)))))) (idxM (vM 0) (vM 2))) (seqM (ifSM (orM (notM (tst (chainM leD leD (vM 4) (callM lenD (acM (vM 1) (anM))) (vM 5)))) (tst (bin2 geD (callM lenD (acM (lcM (seqI (vM 1)) [8] (eNm 8) (can_be_sent_t1) (can_be_sent_e1)) (anM))) (vM 6)))) (retM (cM (.bl false))) (skipM)) (retM (orVM (notVM (vM 3)) (orVM (bin2 eqD (vM 7) (cM (.int 0))) (bin2 notInD (vM 2) (cutM (vM 1) (partM (callM max2D (acM (cM (.int 0)) (acM (bin2 subD (callM lenD (acM (vM 1) (anM))) (vM 7)) (anM))))) (noPart)))))))
noncomputable def f_can_be_sent : FM := runF 9 4 m_can_be_sent
theorem sc_can_be_sent : FnScope ["films", "sent", "film", "is_held", "first", "last", "runs", "hold", "one"] ["films", "sent", "film", "is_held"] (defScope (topS 21)) := ⟨rfl, rfl, rfl, by decide +kernel, rfl, by decide +kernel, by decide +kernel⟩
theorem ok_can_be_sent (F : Facts K mg) : FnOk P w K mg base (L2.CX P w) 1 F.a_can_be_sent F.d_can_be_sent ["films", "sent", "film", "is_held"] (spV TP K mg 4 f_can_be_sent) := vl_fn (T := TP) F.F_can_be_sent sc_can_be_sent fun cdv A outer s H E hr0 => by
    have hr : Room 0 (cxOf (L2.CX P w) P w K mg base ["films", "sent", "film", "is_held", "first", "last", "runs", "hold", "one"] "can_be_sent" (defScope (topS 21)) F.a_can_be_sent cdv A outer s H E).A := hr0
    have hu := huOf hr
    have tk : Takes (cxOf (L2.CX P w) P w K mg base ["films", "sent", "film", "is_held", "first", "last", "runs", "hold", "one"] "can_be_sent" (defScope (topS 21)) F.a_can_be_sent cdv A outer s H E) (fun cls d _ H => E cls d H) := takes_of rfl rfl rfl rfl
    have S := sc_can_be_sent
    exact vss_cons (vs_set (vg_tup rfl (vgs_cons (vg_name (i := 4) S.nd rfl (by first | exact .inl rfl | exact .inr rfl)) (vgs_cons (vg_name (i := 5) S.nd rfl (by first | exact .inl rfl | exact .inr rfl)) (vgs_cons (vg_name (i := 6) S.nd rfl (by first | exact .inl rfl | exact .inr rfl)) (vgs_cons (vg_name (i := 7) S.nd rfl (by first | exact .inl rfl | exact .inr rfl)) (vgs_nil)))))) (ve_ix rfl hu (vv 0) (vv 2)))
        (vss_cons (vs_if (VW.vt (vw_or (vt_not (vt_chain (ov_le hu) (ov_le hu) (vv 4) (ve_callB cv_len (by rfl) F.n_len bt_len (va_cons (vv 1) (va_nil))) (vv 5))) (vw_or1 (vt_cmp (ov_ge hu) (ve_callB cv_len (by rfl) F.n_len bt_len (va_cons (VN.ve (vn_lc (own := [("one", 8)]) (LcOk.mk (own := [("one", 8)]) rfl S.nd (vi_seq (vv 1)) (blkOk_by rfl) (fun _ _ _ _ _ => vge_name (i := 8) (by decide) S.nd rfl (by first | exact .inl rfl | exact .inr rfl)) (fun _ _ _ _ _ => vts_one (vt_cmp (ov_eq hu) (vv 8) (vv 2) (nomark _))) (fun _ _ _ _ _ => vv 8)))) (va_nil))) (vv 6) (nomark _))))) (vss_one (vs_ret (ve_bl))) (vss_nil))
        (vss_one (vs_ret (ve_or (ve_not (vv 3)) (ve_or (ve_cmp (ov_eq hu) (vv 7) (ve_int) (nomark _)) (ve_one (ve_cmp (ov_notIn hu) (vv 2) (ve_cut (vv 1) (vo_some (ve_callB (cv_max2 rfl) (by rfl) F.n_max bt_max (va_cons (ve_int) (va_cons (ve_op ov_sub (ve_callB cv_len (by rfl) F.n_len bt_len (va_cons (vv 1) (va_nil))) (vv 7)) (va_nil))))) (vo_none)) (by rfl))))))))
/-! ### raw_free_films -/
noncomputable def raw_free_films_e1 : EM D := vM 3
noncomputable def raw_free_films_t1 : EM Bool := tst (callF 4 (acM (vM 0) (acM (vM 1) (acM (vM 3) (acM (vM 2) (anM))))) f_can_be_sent)
noncomputable def m_raw_free_films : SM := retM (lcM (ofI rng1D (acM (callM lenD (acM (vM 0) (anM))) (anM))) [3] (eNm 3) (raw_free_films_t1) (raw_free_films_e1))
noncomputable def f_raw_free_films : FM := runF 4 3 m_raw_free_films
theorem sc_raw_free_films : FnScope ["films", "sent", "is_held", "film"] ["films", "sent", "is_held"] (defScope (topS 22)) := ⟨rfl, rfl, rfl, by decide +kernel, rfl, by decide +kernel, by decide +kernel⟩
theorem ok_raw_free_films (F : Facts K mg) : FnOk P w K mg base (L2.CX P w) 2 F.a_raw_free_films F.d_raw_free_films ["films", "sent", "is_held"] (spV TP K mg 3 f_raw_free_films) := vl_fn (T := TP) F.F_raw_free_films sc_raw_free_films fun cdv A outer s H E hr0 => by
    have hr : Room 1 (cxOf (L2.CX P w) P w K mg base ["films", "sent", "is_held", "film"] "raw_free_films" (defScope (topS 22)) F.a_raw_free_films cdv A outer s H E).A := hr0
    have hu := huOf hr
    have tk : Takes (cxOf (L2.CX P w) P w K mg base ["films", "sent", "is_held", "film"] "raw_free_films" (defScope (topS 22)) F.a_raw_free_films cdv A outer s H E) (fun cls d _ H => E cls d H) := takes_of rfl rfl rfl rfl
    have S := sc_raw_free_films
    exact vss_one (vs_ret (VN.ve (vn_lc (own := [("film", 3)]) (LcOk.mk (own := [("film", 3)]) rfl S.nd (VIf.vi (vif_range1 (by rfl) F.n_range (va_cons (ve_callB cv_len (by rfl) F.n_len bt_len (va_cons (vv 0) (va_nil))) (va_nil)))) (blkOk_by rfl) (fun _ _ _ _ _ => vge_name (i := 3) (by decide) S.nd rfl (by first | exact .inl rfl | exact .inr rfl)) (fun _ _ _ _ _ => vts_one (vt_val (ve_call (ok_can_be_sent F) (hr.mono (by omega)) F.g_can_be_sent F.k_can_be_sent F.b_can_be_sent passF (by rfl) (va_cons (vv 0) (va_cons (vv 1) (va_cons (vv 3) (va_cons (vv 2) (va_nil)))))))) (fun _ _ _ _ _ => vv 3)))))
/-! ### is_sent_row -/
noncomputable def is_sent_row_e1 : EM D := callF 3 (acM (vM 4) (acM (cM (.int 0)) (acM (bin2 subD (callM lenD (acM (vM 0) (anM))) (cM (.int 1))) (anM)))) f_is_within
noncomputable def is_sent_row_e2 : EM D := callF 4 (acM (vM 0) (acM (cutM (vM 1) (noPart) (partM (vM 5))) (acM (vM 4) (acM (vM 3) (anM))))) f_can_be_sent
noncomputable def m_is_sent_row : SM := seqM (ifSM (orM (notM (tst (callF 3 (acM (vM 1) (acM (cM (.int 0)) (acM (vM 2) (anM)))) f_is_sized))) (notM (tst (callM allD (acM (lcM (seqI (vM 1)) [4] (eNm 4) (yesM) (is_sent_row_e1)) (anM)))))) (retM (cM (.bl false))) (skipM)) (retM (callM allD (acM (lcM (enumI (vM 1)) [5, 4] (eTu 2 (esC (eNm 5) (esC (eNm 4) (esN)))) (yesM) (is_sent_row_e2)) (anM))))
noncomputable def f_is_sent_row : FM := runF 6 4 m_is_sent_row
theorem sc_is_sent_row : FnScope ["films", "thing", "most", "is_held", "film", "day"] ["films", "thing", "most", "is_held"] (defScope (topS 23)) := ⟨rfl, rfl, rfl, by decide +kernel, rfl, by decide +kernel, by decide +kernel⟩
theorem ok_is_sent_row (F : Facts K mg) : FnOk P w K mg base (L2.CX P w) 3 F.a_is_sent_row F.d_is_sent_row ["films", "thing", "most", "is_held"] (spV TP K mg 4 f_is_sent_row) := vl_fn (T := TP) F.F_is_sent_row sc_is_sent_row fun cdv A outer s H E hr0 => by
    have hr : Room 2 (cxOf (L2.CX P w) P w K mg base ["films", "thing", "most", "is_held", "film", "day"] "is_sent_row" (defScope (topS 23)) F.a_is_sent_row cdv A outer s H E).A := hr0
    have hu := huOf hr
    have tk : Takes (cxOf (L2.CX P w) P w K mg base ["films", "thing", "most", "is_held", "film", "day"] "is_sent_row" (defScope (topS 23)) F.a_is_sent_row cdv A outer s H E) (fun cls d _ H => E cls d H) := takes_of rfl rfl rfl rfl
    have S := sc_is_sent_row
    exact vss_cons (vs_if (VW.vt (vw_or (vt_not (vt_val (ve_call (ok_is_sized F) (hr.mono (by omega)) F.g_is_sized F.k_is_sized F.b_is_sized (passW tk) (by rfl) (va_cons (vv 1) (va_cons (ve_int) (va_cons (vv 2) (va_nil))))))) (vw_or1 (vt_not (vt_val (ve_callB (cv_all rfl) (by rfl) F.n_all bt_all (va_cons (VN.ve (vn_lc (own := [("film", 4)]) (LcOk.mk (own := [("film", 4)]) rfl S.nd (vi_seq (vv 1)) (blkOk_by rfl) (fun _ _ _ _ _ => vge_name (i := 4) (by decide) S.nd rfl (by first | exact .inl rfl | exact .inr rfl)) (fun _ _ _ _ _ => vts_nil) (fun _ _ _ _ _ => ve_call (ok_is_within F) (hr.mono (by omega)) F.g_is_within F.k_is_within F.b_is_within passF (by rfl) (va_cons (vv 4) (va_cons (ve_int) (va_cons (ve_op ov_sub (ve_callB cv_len (by rfl) F.n_len bt_len (va_cons (vv 0) (va_nil))) (ve_int)) (va_nil)))))))) (va_nil)))))))) (vss_one (vs_ret (ve_bl))) (vss_nil))
        (vss_one (vs_ret (ve_callB (cv_all rfl) (by rfl) F.n_all bt_all (va_cons (VN.ve (vn_lc (own := [("day", 5), ("film", 4)]) (LcOk.mk (own := [("day", 5), ("film", 4)]) rfl S.nd (vi_enum (by rfl) F.n_enumerate (vv 1)) (blkOk_by rfl) (fun _ _ _ _ _ => vge_tup rfl (vgse_cons (vge_name (i := 5) (by decide) S.nd rfl (by first | exact .inl rfl | exact .inr rfl)) (vgse_cons (vge_name (i := 4) (by decide) S.nd rfl (by first | exact .inl rfl | exact .inr rfl)) (vgse_nil)))) (fun _ _ _ _ _ => vts_nil) (fun _ _ _ _ _ => ve_call (ok_can_be_sent F) (hr.mono (by omega)) F.g_can_be_sent F.k_can_be_sent F.b_can_be_sent passF (by rfl) (va_cons (vv 0) (va_cons (ve_cut (vv 1) (vo_none) (vo_some (vv 5))) (va_cons (vv 4) (va_cons (vv 3) (va_nil))))))))) (va_nil)))))
/-! ### is_year -/
noncomputable def m_is_year : SM := seqM (dropM (callF 2 (acM (vM 0) (acM (vM 1) (anM))) f_check_year_days)) (retM (andVM (callF 4 (acM (vM 0) (acM (vM 2) (acM (vM 1) (acM (cM (.bl true)) (anM))))) f_is_sent_row) (bin2 eqD (callM lenD (acM (vM 2) (anM))) (vM 1))))
noncomputable def f_is_year : FM := runF 3 3 m_is_year
theorem sc_is_year : FnScope ["films", "days", "thing"] ["films", "days", "thing"] (defScope (topS 24)) := ⟨rfl, rfl, rfl, by decide +kernel, rfl, by decide +kernel, by decide +kernel⟩
theorem ok_is_year (F : Facts K mg) : FnOk P w K mg base (L2.CX P w) 7 F.a_is_year F.d_is_year ["films", "days", "thing"] (spV TP K mg 3 f_is_year) := vl_fn (T := TP) F.F_is_year sc_is_year fun cdv A outer s H E hr0 => by
    have hr : Room 6 (cxOf (L2.CX P w) P w K mg base ["films", "days", "thing"] "is_year" (defScope (topS 24)) F.a_is_year cdv A outer s H E).A := hr0
    have hu := huOf hr
    have tk : Takes (cxOf (L2.CX P w) P w K mg base ["films", "days", "thing"] "is_year" (defScope (topS 24)) F.a_is_year cdv A outer s H E) (fun cls d _ H => E cls d H) := takes_of rfl rfl rfl rfl
    have S := sc_is_year
    exact vss_cons (vs_expr (ve_call (ok_check_year_days F) (hr.mono (by omega)) F.g_check_year_days F.k_check_year_days F.b_check_year_days (passW tk) (by rfl) (va_cons (vv 0) (va_cons (vv 1) (va_nil)))))
        (vss_one (vs_ret (ve_and (ve_call (ok_is_sent_row F) (hr.mono (by omega)) F.g_is_sent_row F.k_is_sent_row F.b_is_sent_row (passW tk) (by rfl) (va_cons (vv 0) (va_cons (vv 2) (va_cons (vv 1) (va_cons (ve_bl) (va_nil)))))) (ve_one (ve_cmp (ov_eq hu) (ve_callB cv_len (by rfl) F.n_len bt_len (va_cons (vv 2) (va_nil))) (vv 1) (nomark _))))))
/-! ### check_sent_films -/
noncomputable def m_check_sent_films : SM := seqM (dropM (callF 1 (acM (vM 0) (anM)) f_check_films)) (ifSM (notM (tst (callF 4 (acM (vM 0) (acM (vM 1) (acM (cM (.int 20)) (acM (cM (.bl true)) (anM))))) f_is_sent_row))) (stuckM) (skipM))
noncomputable def f_check_sent_films : FM := runF 2 2 m_check_sent_films
theorem sc_check_sent_films : FnScope ["films", "sent"] ["films", "sent"] (defScope (topS 25)) := ⟨rfl, rfl, rfl, by decide +kernel, rfl, by decide +kernel, by decide +kernel⟩
theorem ok_check_sent_films (F : Facts K mg) : FnOk P w K mg base (L2.CX P w) 6 F.a_check_sent_films F.d_check_sent_films ["films", "sent"] (spV TP K mg 2 f_check_sent_films) := vl_fn (T := TP) F.F_check_sent_films sc_check_sent_films fun cdv A outer s H E hr0 => by
    have hr : Room 5 (cxOf (L2.CX P w) P w K mg base ["films", "sent"] "check_sent_films" (defScope (topS 25)) F.a_check_sent_films cdv A outer s H E).A := hr0
    have hu := huOf hr
    have tk : Takes (cxOf (L2.CX P w) P w K mg base ["films", "sent"] "check_sent_films" (defScope (topS 25)) F.a_check_sent_films cdv A outer s H E) (fun cls d _ H => E cls d H) := takes_of rfl rfl rfl rfl
    have S := sc_check_sent_films
    exact vss_cons (vs_expr (ve_call (ok_check_films F) (hr.mono (by omega)) F.g_check_films F.k_check_films F.b_check_films (passW tk) (by rfl) (va_cons (vv 0) (va_nil))))
        (vss_one (vs_if (vt_not (vt_val (ve_call (ok_is_sent_row F) (hr.mono (by omega)) F.g_is_sent_row F.k_is_sent_row F.b_is_sent_row (passW tk) (by rfl) (va_cons (vv 0) (va_cons (vv 1) (va_cons (ve_gint (by rfl) F.c_MOST_FILM_DAY) (va_cons (ve_bl) (va_nil)))))))) (vss_one (vs_never)) (vss_nil)))
/-! ### free_films -/
noncomputable def m_free_films : SM := seqM (dropM (callF 2 (acM (vM 0) (acM (vM 1) (anM))) f_check_sent_films)) (retM (callM tupleD (acM (callF 3 (acM (vM 0) (acM (vM 1) (acM (cM (.bl true)) (anM)))) f_raw_free_films) (anM))))
noncomputable def f_free_films : FM := runF 2 2 m_free_films
theorem sc_free_films : FnScope ["films", "sent"] ["films", "sent"] (defScope (topS 26)) := ⟨rfl, rfl, rfl, by decide +kernel, rfl, by decide +kernel, by decide +kernel⟩
theorem ok_free_films (F : Facts K mg) : FnOk P w K mg base (L2.CX P w) 7 F.a_free_films F.d_free_films ["films", "sent"] (spV TP K mg 2 f_free_films) := vl_fn (T := TP) F.F_free_films sc_free_films fun cdv A outer s H E hr0 => by
    have hr : Room 6 (cxOf (L2.CX P w) P w K mg base ["films", "sent"] "free_films" (defScope (topS 26)) F.a_free_films cdv A outer s H E).A := hr0
    have hu := huOf hr
    have tk : Takes (cxOf (L2.CX P w) P w K mg base ["films", "sent"] "free_films" (defScope (topS 26)) F.a_free_films cdv A outer s H E) (fun cls d _ H => E cls d H) := takes_of rfl rfl rfl rfl
    have S := sc_free_films
    exact vss_cons (vs_expr (ve_call (ok_check_sent_films F) (hr.mono (by omega)) F.g_check_sent_films F.k_check_sent_films F.b_check_sent_films (passW tk) (by rfl) (va_cons (vv 0) (va_cons (vv 1) (va_nil)))))
        (vss_one (vs_ret (ve_callTy cv_tuple (by rfl) F.n_tuple bt_tuple (va_cons (ve_call (ok_raw_free_films F) (hr.mono (by omega)) F.g_raw_free_films F.k_raw_free_films F.b_raw_free_films (passW tk) (by rfl) (va_cons (vv 0) (va_cons (vv 1) (va_cons (ve_bl) (va_nil))))) (va_nil)))))
/-! ### runs_left -/
noncomputable def runs_left_e1 : EM D := vM 4
noncomputable def runs_left_t1 : EM Bool := tst (bin2 eqD (vM 4) (vM 2))
noncomputable def runs_left_e2 : EM D := bin2 subD (idxM (vM 3) (cM (.int 2))) (callM lenD (acM (lcM (seqI (vM 1)) [4] (eNm 4) (runs_left_t1) (runs_left_e1)) (anM)))
noncomputable def m_runs_left : SM := seqM (dropM (callF 2 (acM (vM 0) (acM (vM 1) (anM))) f_check_sent_films)) (retM (callM tupleD (acM (lcM (enumI (vM 0)) [2, 3] (eTu 2 (esC (eNm 2) (esC (eNm 3) (esN)))) (yesM) (runs_left_e2)) (anM))))
noncomputable def f_runs_left : FM := runF 5 2 m_runs_left
theorem sc_runs_left : FnScope ["films", "sent", "at", "film", "one"] ["films", "sent"] (defScope (topS 27)) := ⟨rfl, rfl, rfl, by decide +kernel, rfl, by decide +kernel, by decide +kernel⟩
theorem ok_runs_left (F : Facts K mg) : FnOk P w K mg base (L2.CX P w) 7 F.a_runs_left F.d_runs_left ["films", "sent"] (spV TP K mg 2 f_runs_left) := vl_fn (T := TP) F.F_runs_left sc_runs_left fun cdv A outer s H E hr0 => by
    have hr : Room 6 (cxOf (L2.CX P w) P w K mg base ["films", "sent", "at", "film", "one"] "runs_left" (defScope (topS 27)) F.a_runs_left cdv A outer s H E).A := hr0
    have hu := huOf hr
    have tk : Takes (cxOf (L2.CX P w) P w K mg base ["films", "sent", "at", "film", "one"] "runs_left" (defScope (topS 27)) F.a_runs_left cdv A outer s H E) (fun cls d _ H => E cls d H) := takes_of rfl rfl rfl rfl
    have S := sc_runs_left
    exact vss_cons (vs_expr (ve_call (ok_check_sent_films F) (hr.mono (by omega)) F.g_check_sent_films F.k_check_sent_films F.b_check_sent_films (passW tk) (by rfl) (va_cons (vv 0) (va_cons (vv 1) (va_nil)))))
        (vss_one (vs_ret (ve_callTy cv_tuple (by rfl) F.n_tuple bt_tuple (va_cons (VN.ve (vn_lc (own := [("at", 2), ("film", 3)]) (LcOk.mk (own := [("at", 2), ("film", 3)]) rfl S.nd (vi_enum (by rfl) F.n_enumerate (vv 0)) (blkOk_by rfl) (fun _ _ _ _ _ => vge_tup rfl (vgse_cons (vge_name (i := 2) (by decide) S.nd rfl (by first | exact .inl rfl | exact .inr rfl)) (vgse_cons (vge_name (i := 3) (by decide) S.nd rfl (by first | exact .inl rfl | exact .inr rfl)) (vgse_nil)))) (fun _ _ _ _ _ => vts_nil) (fun _ _ _ _ _ => ve_op ov_sub (ve_ix rfl hu (vv 3) (ve_int)) (ve_callB cv_len (by rfl) F.n_len bt_len (va_cons (VN.ve (vn_lc (own := [("one", 4)]) (LcOk.mk (own := [("one", 4)]) rfl S.nd (vi_seq (vv 1)) (blkOk_by rfl) (fun _ _ _ _ _ => vge_name (i := 4) (by decide) S.nd rfl (by first | exact .inl rfl | exact .inr rfl)) (fun _ _ _ _ _ => vts_one (vt_cmp (ov_eq hu) (vv 4) (vv 2) (nomark _))) (fun _ _ _ _ _ => vv 4)))) (va_nil))))))) (va_nil)))))
/-! ### all_years -/
noncomputable def all_years_e1 : EM D := bin2 addD (vM 6) (tupM (acM (vM 7) (anM)))
noncomputable def all_years_for1 : SM := owM "list" 5 extF (acM (lcM (seqI (callF 3 (acM (vM 0) (acM (vM 6) (acM (vM 2) (anM)))) f_raw_free_films)) [7] (eNm 7) (yesM) (all_years_e1)) (anM)) kDrop
noncomputable def all_years_for2 : SM := seqM (setNM 5 (lstM (anM))) (seqM (forM (gNm 6) (seqI (vM 3)) (all_years_for1)) (disM 5 (setM (gNm 3) (vM 5))))
noncomputable def m_all_years : SM := seqM (setSM 3 (lstM (acM (tupM (anM)) (anM)))) (seqM (forFM (gNm 4) (ofI rng1D (acM (vM 1) (anM))) (all_years_for2)) (retM (vM 3)))
noncomputable def f_all_years : FM := runF 8 3 m_all_years
theorem sc_all_years : FnScope ["films", "days", "is_held", "found", "day", "longer", "sent", "film"] ["films", "days", "is_held"] (defScope (topS 28)) := ⟨rfl, rfl, rfl, by decide +kernel, rfl, by decide +kernel, by decide +kernel⟩
theorem ok_all_years (F : Facts K mg) : FnOk P w K mg base (L2.CX P w) 3 F.a_all_years F.d_all_years ["films", "days", "is_held"] (spV TP K mg 3 f_all_years) := vl_fn (T := TP) F.F_all_years sc_all_years fun cdv A outer s H E hr0 => by
    have hr : Room 2 (cxOf (L2.CX P w) P w K mg base ["films", "days", "is_held", "found", "day", "longer", "sent", "film"] "all_years" (defScope (topS 28)) F.a_all_years cdv A outer s H E).A := hr0
    have hu := huOf hr
    have tk : Takes (cxOf (L2.CX P w) P w K mg base ["films", "days", "is_held", "found", "day", "longer", "sent", "film"] "all_years" (defScope (topS 28)) F.a_all_years cdv A outer s H E) (fun cls d _ H => E cls d H) := takes_of rfl rfl rfl rfl
    have S := sc_all_years
    exact vss_cons (VSN.shr (vsn_of (i := 3) S.nd rfl (by first | exact .inl rfl | exact .inr rfl) (vn_lst (va_cons (ve_tup (va_nil)) (va_nil)))))
        (vss_cons (vs_forF (passes_of rfl) rfl (vif_range1 (by rfl) F.n_range (va_cons (vv 1) (va_nil))) (vg_name (i := 4) S.nd rfl (by first | exact .inl rfl | exact .inr rfl)) (vss_cons (VSN.own (vsn_of (i := 5) S.nd rfl (by first | exact .inl rfl | exact .inr rfl) (vn_lst (va_nil))))
        (vss_cons (vs_for (passes_of rfl) rfl (vi_seq (vv 3)) (vg_name (i := 6) S.nd rfl (by first | exact .inl rfl | exact .inr rfl)) (vss_one (vs_owS (.inl rfl) of_extend (fun r ta mr pa => pe_bm PySem.F.plainAttrs_list PySem.F.slot_list_extend PySem.F.type_list_extend mr (pv 5) pa) (va_cons (VN.ve (vn_lc (own := [("film", 7)]) (LcOk.mk (own := [("film", 7)]) rfl S.nd (vi_seq (ve_call (ok_raw_free_films F) (hr.mono (by omega)) F.g_raw_free_films F.k_raw_free_films F.b_raw_free_films (passW tk) (by rfl) (va_cons (vv 0) (va_cons (vv 6) (va_cons (vv 2) (va_nil)))))) (blkOk_by rfl) (fun _ _ _ _ _ => vge_name (i := 7) (by decide) S.nd rfl (by first | exact .inl rfl | exact .inr rfl)) (fun _ _ _ _ _ => vts_nil) (fun _ _ _ _ _ => ve_op ov_add (vv 6) (ve_tup (va_cons (vv 7) (va_nil))))))) (va_nil)))))
        (vss_one (VS.dis 5 (vs_set (vg_name (i := 3) S.nd rfl (by first | exact .inl rfl | exact .inr rfl)) (vv 5)))))))
        (vss_one (vs_ret (vv 3))))
/-! ### year_node -/
noncomputable def year_node_for1 (self : FM) : SM := owM "list" 4 appF (acM (ifM (tst (bin2 inD (vM 5) (vM 3))) (callF 3 (acM (vM 0) (acM (vM 1) (acM (bin2 addD (vM 2) (tupM (acM (vM 5) (anM)))) (anM)))) self) (cM .non)) (anM)) kDrop
noncomputable def m_year_node (self : FM) : SM := seqM (parM 2 [3, 4] (psM (callF 3 (acM (vM 0) (acM (vM 2) (acM (cM (.bl true)) (anM)))) f_raw_free_films) (poM (lstM (anM)) (pnM)))) (seqM (forFM (gNm 5) (ofI rng1D (acM (callM lenD (acM (vM 0) (anM))) (anM))) (year_node_for1 self)) (retM (callM tupleD (acM (vM 4) (anM)))))
noncomputable def f_year_node : Nat → FM
  | 0 => fun _ _ => .stuck
  | k + 1 => runF 6 3 (m_year_node (f_year_node k))
theorem sc_year_node : FnScope ["films", "days", "sent", "free", "found", "film"] ["films", "days", "sent"] (defScope (topS 29)) := ⟨rfl, rfl, rfl, by decide +kernel, rfl, by decide +kernel, by decide +kernel⟩
theorem ok_year_node (F : Facts K mg) : ∀ j : Nat, FnOk P w K mg base (L2.CX P w) (j + 3) F.a_year_node F.d_year_node ["films", "days", "sent"] (spV TP K mg 3 (f_year_node j))
  | 0 => vl_fn0
  | j + 1 => vl_fn (T := TP) F.F_year_node sc_year_node fun cdv A outer s H E hr0 => by
    have hr : Room (j + 3) (cxOf (L2.CX P w) P w K mg base ["films", "days", "sent", "free", "found", "film"] "year_node" (defScope (topS 29)) F.a_year_node cdv A outer s H E).A := hr0
    have hu := huOf hr
    have tk : Takes (cxOf (L2.CX P w) P w K mg base ["films", "days", "sent", "free", "found", "film"] "year_node" (defScope (topS 29)) F.a_year_node cdv A outer s H E) (fun cls d _ H => E cls d H) := takes_of rfl rfl rfl rfl
    have S := sc_year_node
    have FS := ok_year_node F j
    exact vss_cons (vs_par2S rfl S.nd rfl rfl (by decide) rfl rfl (vam_sh (ve_call (ok_raw_free_films F) (hr.mono (by omega)) F.g_raw_free_films F.k_raw_free_films F.b_raw_free_films (passW tk) (by rfl) (va_cons (vv 0) (va_cons (vv 2) (va_cons (ve_bl) (va_nil))))) (vam_ow (vn_lst (va_nil)) (vam_nil))) (by rfl))
        (vss_cons (vs_forF (passes_of rfl) rfl (vif_range1 (by rfl) F.n_range (va_cons (ve_callB cv_len (by rfl) F.n_len bt_len (va_cons (vv 0) (va_nil))) (va_nil))) (vg_name (i := 5) S.nd rfl (by first | exact .inl rfl | exact .inr rfl)) (vss_one (vs_owS (.inl rfl) of_append (fun r ta mr pa => pe_bm PySem.F.plainAttrs_list PySem.F.slot_list_append PySem.F.type_list_append mr (pv 4) pa) (va_cons (ve_if (vt_cmp (ov_in hu) (vv 5) (vv 3) (by rfl)) (ve_call FS (hr.mono (by omega)) F.g_year_node F.k_year_node F.b_year_node (passW tk) (by rfl) (va_cons (vv 0) (va_cons (vv 1) (va_cons (ve_op ov_add (vv 2) (ve_tup (va_cons (vv 5) (va_nil)))) (va_nil))))) (ve_non)) (va_nil)))))
        (vss_one (vs_ret (ve_callTy cv_tuple (by rfl) F.n_tuple bt_tuple (va_cons (vv 4) (va_nil))))))
/-! ### year_told -/
noncomputable def m_year_told : SM := seqM (dropM (callF 2 (acM (vM 0) (acM (vM 1) (anM))) f_check_year_days)) (seqM (setM (gNm 2) (callF 3 (acM (vM 0) (acM (vM 1) (acM (cM (.bl true)) (anM)))) f_all_years)) (retM (ifM (tst (bin2 gtD (callM lenD (acM (vM 2) (anM))) (cM (.int 0)))) (tupM (acM (cM (.str "year")) (acM (idxM (vM 2) (cM (.int 0))) (anM)))) (tupM (acM (cM (.str "tree")) (acM (callF 3 (acM (vM 0) (acM (vM 1) (acM (tupM (anM)) (anM)))) (f_year_node 10)) (anM)))))))
noncomputable def f_year_told : FM := runF 3 2 m_year_told
theorem sc_year_told : FnScope ["films", "days", "some"] ["films", "days"] (defScope (topS 30)) := ⟨rfl, rfl, rfl, by decide +kernel, rfl, by decide +kernel, by decide +kernel⟩
theorem ok_year_told (F : Facts K mg) : FnOk P w K mg base (L2.CX P w) 14 F.a_year_told F.d_year_told ["films", "days"] (spV TP K mg 2 f_year_told) := vl_fn (T := TP) F.F_year_told sc_year_told fun cdv A outer s H E hr0 => by
    have hr : Room 13 (cxOf (L2.CX P w) P w K mg base ["films", "days", "some"] "year_told" (defScope (topS 30)) F.a_year_told cdv A outer s H E).A := hr0
    have hu := huOf hr
    have tk : Takes (cxOf (L2.CX P w) P w K mg base ["films", "days", "some"] "year_told" (defScope (topS 30)) F.a_year_told cdv A outer s H E) (fun cls d _ H => E cls d H) := takes_of rfl rfl rfl rfl
    have S := sc_year_told
    exact vss_cons (vs_expr (ve_call (ok_check_year_days F) (hr.mono (by omega)) F.g_check_year_days F.k_check_year_days F.b_check_year_days (passW tk) (by rfl) (va_cons (vv 0) (va_cons (vv 1) (va_nil)))))
        (vss_cons (vs_set (vg_name (i := 2) S.nd rfl (by first | exact .inl rfl | exact .inr rfl)) (ve_call (ok_all_years F) (hr.mono (by omega)) F.g_all_years F.k_all_years F.b_all_years (passW tk) (by rfl) (va_cons (vv 0) (va_cons (vv 1) (va_cons (ve_bl) (va_nil))))))
        (vss_one (vs_ret (ve_if (vt_cmp (ov_gt hu) (ve_callB cv_len (by rfl) F.n_len bt_len (va_cons (vv 2) (va_nil))) (ve_int) (nomark _)) (ve_tup (va_cons (ve_gstr (by rfl) F.c_YEAR_FOUND) (va_cons (ve_ix rfl hu (vv 2) (ve_int)) (va_nil)))) (ve_tup (va_cons (ve_gstr (by rfl) F.c_YEAR_TREE) (va_cons (ve_call (ok_year_node F 10) (hr.mono (by omega)) F.g_year_node F.k_year_node F.b_year_node (passW tk) (by rfl) (va_cons (vv 0) (va_cons (vv 1) (va_cons (ve_tup (va_nil)) (va_nil))))) (va_nil))))))))
/-! ### years_many -/
noncomputable def m_years_many : SM := seqM (dropM (callF 2 (acM (vM 0) (acM (vM 1) (anM))) f_check_year_days)) (retM (callM lenD (acM (callF 3 (acM (vM 0) (acM (vM 1) (acM (cM (.bl true)) (anM)))) f_all_years) (anM))))
noncomputable def f_years_many : FM := runF 2 2 m_years_many
theorem sc_years_many : FnScope ["films", "days"] ["films", "days"] (defScope (topS 31)) := ⟨rfl, rfl, rfl, by decide +kernel, rfl, by decide +kernel, by decide +kernel⟩
theorem ok_years_many (F : Facts K mg) : FnOk P w K mg base (L2.CX P w) 7 F.a_years_many F.d_years_many ["films", "days"] (spV TP K mg 2 f_years_many) := vl_fn (T := TP) F.F_years_many sc_years_many fun cdv A outer s H E hr0 => by
    have hr : Room 6 (cxOf (L2.CX P w) P w K mg base ["films", "days"] "years_many" (defScope (topS 31)) F.a_years_many cdv A outer s H E).A := hr0
    have hu := huOf hr
    have tk : Takes (cxOf (L2.CX P w) P w K mg base ["films", "days"] "years_many" (defScope (topS 31)) F.a_years_many cdv A outer s H E) (fun cls d _ H => E cls d H) := takes_of rfl rfl rfl rfl
    have S := sc_years_many
    exact vss_cons (vs_expr (ve_call (ok_check_year_days F) (hr.mono (by omega)) F.g_check_year_days F.k_check_year_days F.b_check_year_days (passW tk) (by rfl) (va_cons (vv 0) (va_cons (vv 1) (va_nil)))))
        (vss_one (vs_ret (ve_callB cv_len (by rfl) F.n_len bt_len (va_cons (ve_call (ok_all_years F) (hr.mono (by omega)) F.g_all_years F.k_all_years F.b_all_years (passW tk) (by rfl) (va_cons (vv 0) (va_cons (vv 1) (va_cons (ve_bl) (va_nil))))) (va_nil)))))
/-! ### sure_days -/
noncomputable def sure_days_e1 : EM D := bin2 eqD (idxM (vM 4) (vM 3)) (idxM (idxM (vM 2) (cM (.int 0))) (vM 3))
noncomputable def sure_days_e2 : EM D := tupM (acM (vM 3) (acM (idxM (idxM (vM 2) (cM (.int 0))) (vM 3)) (anM)))
noncomputable def sure_days_t1 : EM Bool := tst (callM allD (acM (lcM (seqI (vM 2)) [4] (eNm 4) (yesM) (sure_days_e1)) (anM)))
noncomputable def m_sure_days : SM := seqM (dropM (callF 2 (acM (vM 0) (acM (vM 1) (anM))) f_check_year_days)) (seqM (setM (gNm 2) (callF 3 (acM (vM 0) (acM (vM 1) (acM (cM (.bl true)) (anM)))) f_all_years)) (seqM (ifSM (tst (bin2 eqD (callM lenD (acM (vM 2) (anM))) (cM (.int 0)))) (retM (cM .non)) (skipM)) (retM (callM tupleD (acM (lcM (ofI rng1D (acM (vM 1) (anM))) [3] (eNm 3) (sure_days_t1) (sure_days_e2)) (anM))))))
noncomputable def f_sure_days : FM := runF 5 2 m_sure_days
theorem sc_sure_days : FnScope ["films", "days", "some", "day", "one"] ["films", "days"] (defScope (topS 32)) := ⟨rfl, rfl, rfl, by decide +kernel, rfl, by decide +kernel, by decide +kernel⟩
theorem ok_sure_days (F : Facts K mg) : FnOk P w K mg base (L2.CX P w) 7 F.a_sure_days F.d_sure_days ["films", "days"] (spV TP K mg 2 f_sure_days) := vl_fn (T := TP) F.F_sure_days sc_sure_days fun cdv A outer s H E hr0 => by
    have hr : Room 6 (cxOf (L2.CX P w) P w K mg base ["films", "days", "some", "day", "one"] "sure_days" (defScope (topS 32)) F.a_sure_days cdv A outer s H E).A := hr0
    have hu := huOf hr
    have tk : Takes (cxOf (L2.CX P w) P w K mg base ["films", "days", "some", "day", "one"] "sure_days" (defScope (topS 32)) F.a_sure_days cdv A outer s H E) (fun cls d _ H => E cls d H) := takes_of rfl rfl rfl rfl
    have S := sc_sure_days
    exact vss_cons (vs_expr (ve_call (ok_check_year_days F) (hr.mono (by omega)) F.g_check_year_days F.k_check_year_days F.b_check_year_days (passW tk) (by rfl) (va_cons (vv 0) (va_cons (vv 1) (va_nil)))))
        (vss_cons (vs_set (vg_name (i := 2) S.nd rfl (by first | exact .inl rfl | exact .inr rfl)) (ve_call (ok_all_years F) (hr.mono (by omega)) F.g_all_years F.k_all_years F.b_all_years (passW tk) (by rfl) (va_cons (vv 0) (va_cons (vv 1) (va_cons (ve_bl) (va_nil))))))
        (vss_cons (vs_if (vt_cmp (ov_eq hu) (ve_callB cv_len (by rfl) F.n_len bt_len (va_cons (vv 2) (va_nil))) (ve_int) (nomark _)) (vss_one (vs_ret (ve_non))) (vss_nil))
        (vss_one (vs_ret (ve_callTy cv_tuple (by rfl) F.n_tuple bt_tuple (va_cons (VN.ve (vn_lc (own := [("day", 3)]) (LcOk.mk (own := [("day", 3)]) rfl S.nd (VIf.vi (vif_range1 (by rfl) F.n_range (va_cons (vv 1) (va_nil)))) (blkOk_by rfl) (fun _ _ _ _ _ => vge_name (i := 3) (by decide) S.nd rfl (by first | exact .inl rfl | exact .inr rfl)) (fun _ _ _ _ _ => vts_one (vt_val (ve_callB (cv_all rfl) (by rfl) F.n_all bt_all (va_cons (VN.ve (vn_lc (own := [("one", 4)]) (LcOk.mk (own := [("one", 4)]) rfl S.nd (vi_seq (vv 2)) (blkOk_by rfl) (fun _ _ _ _ _ => vge_name (i := 4) (by decide) S.nd rfl (by first | exact .inl rfl | exact .inr rfl)) (fun _ _ _ _ _ => vts_nil) (fun _ _ _ _ _ => ve_cmp (ov_eq hu) (ve_ix rfl hu (vv 4) (vv 3)) (ve_ix rfl hu (ve_ix rfl hu (vv 2) (ve_int)) (vv 3)) (nomark _))))) (va_nil))))) (fun _ _ _ _ _ => ve_tup (va_cons (vv 3) (va_cons (ve_ix rfl hu (ve_ix rfl hu (vv 2) (ve_int)) (vv 3)) (va_nil))))))) (va_nil)))))))
/-! ### _law_hand -/
noncomputable def law_hand_e1 : EM D := callM absD (acM (callM intD (acM (vM 2) (anM))) (anM))
noncomputable def m__law_hand : SM := seqM (setSM 1 (lcM (seqI (cutM (vM 0) (noPart) (partM (cM (.int 63))))) [2] (eNm 2) (yesM) (law_hand_e1))) (retM (lstM (acM (vM 1) (acM (cM (.int 0)) (acM (cM (.int 0)) (acM (bin2 addD (cM (.int 373)) (callM lenD (acM (vM 1) (anM)))) (acM (cM (.int 0)) (anM))))))))
noncomputable def f__law_hand : FM := runF 3 1 m__law_hand
theorem sc__law_hand : FnScope ["script", "cells", "cell"] ["script"] (defScope (topS 34)) := ⟨rfl, rfl, rfl, by decide +kernel, rfl, by decide +kernel, by decide +kernel⟩
theorem ok__law_hand (F : Facts K mg) : FnOk P w K mg base (L2.CX P w) 1 F.a__law_hand F.d__law_hand ["script"] (spV TP K mg 1 f__law_hand) := vl_fn (T := TP) F.F__law_hand sc__law_hand fun cdv A outer s H E hr0 => by
    have hr : Room 0 (cxOf (L2.CX P w) P w K mg base ["script", "cells", "cell"] "_law_hand" (defScope (topS 34)) F.a__law_hand cdv A outer s H E).A := hr0
    have hu := huOf hr
    have tk : Takes (cxOf (L2.CX P w) P w K mg base ["script", "cells", "cell"] "_law_hand" (defScope (topS 34)) F.a__law_hand cdv A outer s H E) (fun cls d _ H => E cls d H) := takes_of rfl rfl rfl rfl
    have S := sc__law_hand
    exact vss_cons (VSN.shr (vsn_lc (i := 1) (own := [("cell", 2)]) (LcOk.mk (own := [("cell", 2)]) rfl S.nd (vi_seq (ve_cut (vv 0) (vo_none) (vo_some (ve_int)))) (blkOk_by rfl) (fun _ _ _ _ _ => vge_name (i := 2) (by decide) S.nd rfl (by first | exact .inl rfl | exact .inr rfl)) (fun _ _ _ _ _ => vts_nil) (fun _ _ _ _ _ => ve_callB cv_abs (by rfl) F.n_abs bt_abs (va_cons (ve_callTy cv_int (by rfl) F.n_int bt_int (va_cons (vv 2) (va_nil))) (va_nil)))) rfl rfl rfl rfl (by decide)))
        (vss_one (vs_ret (VN.ve (vn_lst (va_cons (vv 1) (va_cons (ve_int) (va_cons (ve_int) (va_cons (ve_op ov_add (ve_int) (ve_callB cv_len (by rfl) F.n_len bt_len (va_cons (vv 1) (va_nil)))) (va_cons (ve_int) (va_nil))))))))))
/-! ### _law_draw -/
noncomputable def m__law_draw : SM := seqM (ifSM (andM (tst (bin2 eqD (idxM (vM 0) (cM (.int 2))) (cM (.int 0)))) (tst (bin2 ltD (idxM (vM 0) (cM (.int 1))) (callM lenD (acM (idxM (vM 0) (cM (.int 0))) (anM)))))) (seqM (setM (gNm 2) (idxM (idxM (vM 0) (cM (.int 0))) (idxM (vM 0) (cM (.int 1))))) (seqM (setHM 0 (cM (.int 1)) (bin2 addD (idxM (vM 0) (cM (.int 1))) (cM (.int 1)))) (seqM (setHM 0 (cM (.int 3)) (bin2 modD (callM intD (acM (bin2 addD (bin2 addD (bin2 mulI (idxM (vM 0) (cM (.int 3))) (cM (.int 69621))) (vM 2)) (cM (.int 463))) (anM))) (cM (.int 2147483629)))) (ifSM (tst (bin2 geD (vM 2) (bin2 powD (cM (.int 10)) (cM (.int 18))))) (setHM 0 (cM (.int 2)) (vM 2)) (skipM))))) (skipM)) (seqM (ifSM (tst (bin2 gtD (idxM (vM 0) (cM (.int 2))) (cM (.int 0)))) (seqM (setM (gNm 3) (bin2 modD (callM intD (acM (idxM (vM 0) (cM (.int 2))) (anM))) (vM 1))) (seqM (setHM 0 (cM (.int 2)) (bin2 fdivD (idxM (vM 0) (cM (.int 2))) (vM 1))) (retM (vM 3)))) (skipM)) (seqM (setHM 0 (cM (.int 4)) (bin2 addD (idxM (vM 0) (cM (.int 4))) (cM (.int 1)))) (seqM (setM (gNm 4) (bin2 modD (callM intD (acM (bin2 mulI (callM intD (acM (bin2 addD (idxM (vM 0) (cM (.int 3))) (bin2 mulI (cM (.int 7919)) (idxM (vM 0) (cM (.int 4))))) (anM))) (cM (.int 48271))) (anM))) (cM (.int 2147483647)))) (seqM (setM (gNm 4) (bin2 modD (callM intD (acM (bin2 mulI (vM 4) (bin2 addD (bin2 fdivD (vM 4) (cM (.int 1009))) (cM (.int 69621)))) (anM))) (cM (.int 2147483647)))) (seqM (setM (gNm 4) (bin2 modD (callM intD (acM (bin2 mulI (vM 4) (bin2 addD (bin2 fdivD (vM 4) (cM (.int 2003))) (cM (.int 40692)))) (anM))) (cM (.int 2147483399)))) (retM (bin2 modD (callM intD (acM (bin2 fdivD (vM 4) (cM (.int 16))) (anM))) (vM 1))))))))
noncomputable def f__law_draw : FM := runF 5 2 m__law_draw
theorem sc__law_draw : FnScope ["hand", "limit", "cell", "digit", "number"] ["hand", "limit"] (defScope (topS 35)) := ⟨rfl, rfl, rfl, by decide +kernel, rfl, by decide +kernel, by decide +kernel⟩
theorem ok__law_draw (F : Facts K mg) : FnOk P w K mg base (L2.CX P w) 1 F.a__law_draw F.d__law_draw ["hand", "limit"] (spV TP K mg 2 f__law_draw) := vl_fn (T := TP) F.F__law_draw sc__law_draw fun cdv A outer s H E hr0 => by
    have hr : Room 0 (cxOf (L2.CX P w) P w K mg base ["hand", "limit", "cell", "digit", "number"] "_law_draw" (defScope (topS 35)) F.a__law_draw cdv A outer s H E).A := hr0
    have hu := huOf hr
    have tk : Takes (cxOf (L2.CX P w) P w K mg base ["hand", "limit", "cell", "digit", "number"] "_law_draw" (defScope (topS 35)) F.a__law_draw cdv A outer s H E) (fun cls d _ H => E cls d H) := takes_of rfl rfl rfl rfl
    have S := sc__law_draw
    exact vss_cons (vs_if (VW.vt (vw_and (vt_cmp (ov_eq hu) (ve_ix rfl hu (vv 0) (ve_int)) (ve_int) (nomark _)) (vw_and1 (vt_cmp (ov_lt hu) (ve_ix rfl hu (vv 0) (ve_int)) (ve_callB cv_len (by rfl) F.n_len bt_len (va_cons (ve_ix rfl hu (vv 0) (ve_int)) (va_nil))) (nomark _))))) (vss_cons (vs_set (vg_name (i := 2) S.nd rfl (by first | exact .inl rfl | exact .inr rfl)) (ve_ix rfl hu (ve_ix rfl hu (vv 0) (ve_int)) (ve_ix rfl hu (vv 0) (ve_int))))
        (vss_cons (vs_setH (pv 0) (ve_int) (ve_op ov_add (ve_ix rfl hu (vv 0) (ve_int)) (ve_int)))
        (vss_cons (vs_setH (pv 0) (ve_int) (ve_op ov_mod (ve_callTy cv_int (by rfl) F.n_int bt_int (va_cons (ve_op ov_add (ve_op ov_add (ve_op ov_mulI (ve_ix rfl hu (vv 0) (ve_int)) (ve_int)) (vv 2)) (ve_int)) (va_nil))) (ve_int)))
        (vss_one (vs_if (vt_cmp (ov_ge hu) (vv 2) (ve_op ov_pow (ve_int) (ve_int)) (nomark _)) (vss_one (vs_setH (pv 0) (ve_int) (vv 2))) (vss_nil)))))) (vss_nil))
        (vss_cons (vs_if (vt_cmp (ov_gt hu) (ve_ix rfl hu (vv 0) (ve_int)) (ve_int) (nomark _)) (vss_cons (vs_set (vg_name (i := 3) S.nd rfl (by first | exact .inl rfl | exact .inr rfl)) (ve_op ov_mod (ve_callTy cv_int (by rfl) F.n_int bt_int (va_cons (ve_ix rfl hu (vv 0) (ve_int)) (va_nil))) (vv 1)))
        (vss_cons (vs_setH (pv 0) (ve_int) (ve_op ov_fdiv (ve_ix rfl hu (vv 0) (ve_int)) (vv 1)))
        (vss_one (vs_ret (vv 3))))) (vss_nil))
        (vss_cons (vs_setH (pv 0) (ve_int) (ve_op ov_add (ve_ix rfl hu (vv 0) (ve_int)) (ve_int)))
        (vss_cons (vs_set (vg_name (i := 4) S.nd rfl (by first | exact .inl rfl | exact .inr rfl)) (ve_op ov_mod (ve_callTy cv_int (by rfl) F.n_int bt_int (va_cons (ve_op ov_mulI (ve_callTy cv_int (by rfl) F.n_int bt_int (va_cons (ve_op ov_add (ve_ix rfl hu (vv 0) (ve_int)) (ve_op ov_mulI (ve_int) (ve_ix rfl hu (vv 0) (ve_int)))) (va_nil))) (ve_int)) (va_nil))) (ve_int)))
        (vss_cons (vs_set (vg_name (i := 4) S.nd rfl (by first | exact .inl rfl | exact .inr rfl)) (ve_op ov_mod (ve_callTy cv_int (by rfl) F.n_int bt_int (va_cons (ve_op ov_mulI (vv 4) (ve_op ov_add (ve_op ov_fdiv (vv 4) (ve_int)) (ve_int))) (va_nil))) (ve_int)))
        (vss_cons (vs_set (vg_name (i := 4) S.nd rfl (by first | exact .inl rfl | exact .inr rfl)) (ve_op ov_mod (ve_callTy cv_int (by rfl) F.n_int bt_int (va_cons (ve_op ov_mulI (vv 4) (ve_op ov_add (ve_op ov_fdiv (vv 4) (ve_int)) (ve_int))) (va_nil))) (ve_int)))
        (vss_one (vs_ret (ve_op ov_mod (ve_callTy cv_int (by rfl) F.n_int bt_int (va_cons (ve_op ov_fdiv (vv 4) (ve_int)) (va_nil))) (vv 1)))))))))
/-! ### _law_some -/
noncomputable def m__law_some : SM := retM (idxM (vM 1) (callF 2 (acM (vM 0) (acM (callM lenD (acM (vM 1) (anM))) (anM))) f__law_draw))
noncomputable def f__law_some : FM := runF 2 2 m__law_some
theorem sc__law_some : FnScope ["hand", "items"] ["hand", "items"] (defScope (topS 36)) := ⟨rfl, rfl, rfl, by decide +kernel, rfl, by decide +kernel, by decide +kernel⟩
theorem ok__law_some (F : Facts K mg) : FnOk P w K mg base (L2.CX P w) 2 F.a__law_some F.d__law_some ["hand", "items"] (spV TP K mg 2 f__law_some) := vl_fn (T := TP) F.F__law_some sc__law_some fun cdv A outer s H E hr0 => by
    have hr : Room 1 (cxOf (L2.CX P w) P w K mg base ["hand", "items"] "_law_some" (defScope (topS 36)) F.a__law_some cdv A outer s H E).A := hr0
    have hu := huOf hr
    have tk : Takes (cxOf (L2.CX P w) P w K mg base ["hand", "items"] "_law_some" (defScope (topS 36)) F.a__law_some cdv A outer s H E) (fun cls d _ H => E cls d H) := takes_of rfl rfl rfl rfl
    have S := sc__law_some
    exact vss_one (vs_ret (ve_ix rfl hu (vv 1) (ve_call (ok__law_draw F) (hr.mono (by omega)) F.g__law_draw F.k__law_draw F.b__law_draw (passW tk) (by rfl) (va_cons (vv 0) (va_cons (ve_callB cv_len (by rfl) F.n_len bt_len (va_cons (vv 1) (va_nil))) (va_nil))))))
/-! ### _law_is -/
noncomputable def law_is_e1 (self : FM) : EM D := callF 2 (acM (vM 2) (acM (vM 3) (anM))) self
noncomputable def m__law_is (self : FM) : SM := seqM (ifSM (orM (tst (isiM "tuple" (vM 1))) (tst (isiM "list" (vM 1)))) (seqM (ifSM (orM (tst (bin2 neD (isiM "tuple" (vM 1)) (isiM "tuple" (vM 0)))) (tst (bin2 neD (isiM "list" (vM 1)) (isiM "list" (vM 0))))) (retM (cM (.bl false))) (skipM)) (retM (andVM (bin2 eqD (callM lenD (acM (vM 0) (anM))) (callM lenD (acM (vM 1) (anM)))) (callM allD (acM (lcM (zipI (vM 0) (vM 1)) [2, 3] (eTu 2 (esC (eNm 2) (esC (eNm 3) (esN)))) (yesM) (law_is_e1 self)) (anM)))))) (skipM)) (seqM (ifSM (orM (tst (isiM "dict" (vM 1))) (tst (isiM "dict" (vM 0)))) (retM (andVM (isiM "dict" (vM 1)) (andVM (isiM "dict" (vM 0)) (bin2 eqD (vM 0) (vM 1))))) (skipM)) (seqM (ifSM (orM (tst (bin2 isD (vM 1) (cM .non))) (tst (bin2 isD (vM 0) (cM .non)))) (retM (andVM (bin2 isD (vM 1) (cM .non)) (bin2 isD (vM 0) (cM .non)))) (skipM)) (seqM (ifSM (orM (tst (isiM "bool" (vM 1))) (tst (isiM "bool" (vM 0)))) (retM (andVM (isiM "bool" (vM 1)) (andVM (isiM "bool" (vM 0)) (bin2 eqD (vM 0) (vM 1))))) (skipM)) (seqM (ifSM (orM (tst (isiM "str" (vM 1))) (tst (isiM "str" (vM 0)))) (retM (andVM (isiM "str" (vM 1)) (andVM (isiM "str" (vM 0)) (bin2 eqD (vM 0) (vM 1))))) (skipM)) (retM (andVM (isiM "int" (vM 0)) (bin2 eqD (vM 0) (vM 1))))))))
noncomputable def f__law_is : Nat → FM
  | 0 => fun _ _ => .stuck
  | k + 1 => runF 4 2 (m__law_is (f__law_is k))
theorem sc__law_is : FnScope ["thing", "due", "one", "its"] ["thing", "due"] (defScope (topS 37)) := ⟨rfl, rfl, rfl, by decide +kernel, rfl, by decide +kernel, by decide +kernel⟩
theorem ok__law_is (F : Facts K mg) : ∀ j : Nat, FnOk P w K mg base (L2.CX P w) (j + 1) F.a__law_is F.d__law_is ["thing", "due"] (spV TP K mg 2 (f__law_is j))
  | 0 => vl_fn0
  | j + 1 => vl_fn (T := TP) F.F__law_is sc__law_is fun cdv A outer s H E hr0 => by
    have hr : Room (j + 1) (cxOf (L2.CX P w) P w K mg base ["thing", "due", "one", "its"] "_law_is" (defScope (topS 37)) F.a__law_is cdv A outer s H E).A := hr0
    have hu := huOf hr
    have tk : Takes (cxOf (L2.CX P w) P w K mg base ["thing", "due", "one", "its"] "_law_is" (defScope (topS 37)) F.a__law_is cdv A outer s H E) (fun cls d _ H => E cls d H) := takes_of rfl rfl rfl rfl
    have S := sc__law_is
    have FS := ok__law_is F j
    exact vss_cons (vs_if (VW.vt (vw_or (vt_val (ve_isi (c := "tuple") (by decide) (by rfl) F.n_isinstance rfl (by rfl) F.n_tuple bt_tuple (vv 1))) (vw_or1 (vt_val (ve_isi (c := "list") (by decide) (by rfl) F.n_isinstance rfl (by rfl) F.n_list bt_list (vv 1)))))) (vss_cons (vs_if (VW.vt (vw_or (vt_cmp (ov_ne hu) (ve_isi (c := "tuple") (by decide) (by rfl) F.n_isinstance rfl (by rfl) F.n_tuple bt_tuple (vv 1)) (ve_isi (c := "tuple") (by decide) (by rfl) F.n_isinstance rfl (by rfl) F.n_tuple bt_tuple (vv 0)) (nomark _)) (vw_or1 (vt_cmp (ov_ne hu) (ve_isi (c := "list") (by decide) (by rfl) F.n_isinstance rfl (by rfl) F.n_list bt_list (vv 1)) (ve_isi (c := "list") (by decide) (by rfl) F.n_isinstance rfl (by rfl) F.n_list bt_list (vv 0)) (nomark _))))) (vss_one (vs_ret (ve_bl))) (vss_nil))
        (vss_one (vs_ret (ve_and (ve_cmp (ov_eq hu) (ve_callB cv_len (by rfl) F.n_len bt_len (va_cons (vv 0) (va_nil))) (ve_callB cv_len (by rfl) F.n_len bt_len (va_cons (vv 1) (va_nil))) (nomark _)) (ve_one (ve_callB (cv_all rfl) (by rfl) F.n_all bt_all (va_cons (VN.ve (vn_lc (own := [("one", 2), ("its", 3)]) (LcOk.mk (own := [("one", 2), ("its", 3)]) rfl S.nd (vi_zip (by rfl) F.n_zip (vv 0) (vv 1)) (blkOk_by rfl) (fun _ _ _ _ _ => vge_tup rfl (vgse_cons (vge_name (i := 2) (by decide) S.nd rfl (by first | exact .inl rfl | exact .inr rfl)) (vgse_cons (vge_name (i := 3) (by decide) S.nd rfl (by first | exact .inl rfl | exact .inr rfl)) (vgse_nil)))) (fun _ _ _ _ _ => vts_nil) (fun _ _ _ _ _ => ve_call FS (hr.mono (by omega)) F.g__law_is F.k__law_is F.b__law_is passF (by rfl) (va_cons (vv 2) (va_cons (vv 3) (va_nil))))))) (va_nil)))))))) (vss_nil))
        (vss_cons (vs_if (VW.vt (vw_or (vt_val (ve_isi (c := "dict") (by decide) (by rfl) F.n_isinstance rfl (by rfl) F.n_dict bt_dict (vv 1))) (vw_or1 (vt_val (ve_isi (c := "dict") (by decide) (by rfl) F.n_isinstance rfl (by rfl) F.n_dict bt_dict (vv 0)))))) (vss_one (vs_ret (ve_and (ve_isi (c := "dict") (by decide) (by rfl) F.n_isinstance rfl (by rfl) F.n_dict bt_dict (vv 1)) (ve_and (ve_isi (c := "dict") (by decide) (by rfl) F.n_isinstance rfl (by rfl) F.n_dict bt_dict (vv 0)) (ve_one (ve_cmp (ov_eq hu) (vv 0) (vv 1) (nomark _))))))) (vss_nil))
        (vss_cons (vs_if (VW.vt (vw_or (vt_cmp ov_is (vv 1) (ve_non) (nomark _)) (vw_or1 (vt_cmp ov_is (vv 0) (ve_non) (nomark _))))) (vss_one (vs_ret (ve_and (ve_cmp ov_is (vv 1) (ve_non) (nomark _)) (ve_one (ve_cmp ov_is (vv 0) (ve_non) (nomark _)))))) (vss_nil))
        (vss_cons (vs_if (VW.vt (vw_or (vt_val (ve_isi (c := "bool") (by decide) (by rfl) F.n_isinstance rfl (by rfl) F.n_bool bt_bool (vv 1))) (vw_or1 (vt_val (ve_isi (c := "bool") (by decide) (by rfl) F.n_isinstance rfl (by rfl) F.n_bool bt_bool (vv 0)))))) (vss_one (vs_ret (ve_and (ve_isi (c := "bool") (by decide) (by rfl) F.n_isinstance rfl (by rfl) F.n_bool bt_bool (vv 1)) (ve_and (ve_isi (c := "bool") (by decide) (by rfl) F.n_isinstance rfl (by rfl) F.n_bool bt_bool (vv 0)) (ve_one (ve_cmp (ov_eq hu) (vv 0) (vv 1) (nomark _))))))) (vss_nil))
        (vss_cons (vs_if (VW.vt (vw_or (vt_val (ve_isi (c := "str") (by decide) (by rfl) F.n_isinstance rfl (by rfl) F.n_str bt_str (vv 1))) (vw_or1 (vt_val (ve_isi (c := "str") (by decide) (by rfl) F.n_isinstance rfl (by rfl) F.n_str bt_str (vv 0)))))) (vss_one (vs_ret (ve_and (ve_isi (c := "str") (by decide) (by rfl) F.n_isinstance rfl (by rfl) F.n_str bt_str (vv 1)) (ve_and (ve_isi (c := "str") (by decide) (by rfl) F.n_isinstance rfl (by rfl) F.n_str bt_str (vv 0)) (ve_one (ve_cmp (ov_eq hu) (vv 0) (vv 1) (nomark _))))))) (vss_nil))
        (vss_one (vs_ret (ve_and (ve_isi (c := "int") (by decide) (by rfl) F.n_isinstance rfl (by rfl) F.n_int bt_int (vv 0)) (ve_one (ve_cmp (ov_eq hu) (vv 0) (vv 1) (nomark _))))))))))
/-! ### _law_films -/
noncomputable def law_films_for1 : SM := seqM (setM (gNm 5) (callF 2 (acM (vM 0) (acM (callF 2 (acM (vM 0) (acM (lstM (acM (cM (.int 2)) (acM (vM 2) (anM)))) (anM))) f__law_some) (anM))) f__law_draw)) (seqM (setM (gNm 6) (bin2 addD (vM 5) (callF 2 (acM (vM 0) (acM (bin2 addD (vM 2) (cM (.int 1))) (anM))) f__law_draw))) (owM "list" 3 appF (acM (tupM (acM (vM 5) (acM (callM min2D (acM (cM (.int 20)) (acM (vM 6) (anM)))) (acM (bin2 addD (cM (.int 1)) (callF 2 (acM (vM 0) (acM (cM (.int 4)) (anM))) f__law_draw)) (acM (callF 2 (acM (vM 0) (acM (lstM (acM (cM (.int 0)) (acM (cM (.int 0)) (acM (cM (.int 1)) (acM (callF 2 (acM (vM 0) (acM (cM (.int 5)) (anM))) f__law_draw) (anM)))))) (anM))) f__law_some) (anM)))))) (anM)) kDrop))
noncomputable def m__law_films : SM := seqM (setNM 3 (lstM (anM))) (seqM (forFM (gNm 4) (ofI rng1D (acM (bin2 addD (cM (.int 1)) (callF 2 (acM (vM 0) (acM (vM 1) (anM))) f__law_draw)) (anM))) (law_films_for1)) (retM (callM tupleD (acM (vM 3) (anM)))))
noncomputable def f__law_films : FM := runF 7 3 m__law_films
theorem sc__law_films : FnScope ["hand", "many", "days", "found", "film", "first", "last"] ["hand", "many", "days"] (defScope (topS 38)) := ⟨rfl, rfl, rfl, by decide +kernel, rfl, by decide +kernel, by decide +kernel⟩
theorem ok__law_films (F : Facts K mg) : FnOk P w K mg base (L2.CX P w) 3 F.a__law_films F.d__law_films ["hand", "many", "days"] (spV TP K mg 3 f__law_films) := vl_fn (T := TP) F.F__law_films sc__law_films fun cdv A outer s H E hr0 => by
    have hr : Room 2 (cxOf (L2.CX P w) P w K mg base ["hand", "many", "days", "found", "film", "first", "last"] "_law_films" (defScope (topS 38)) F.a__law_films cdv A outer s H E).A := hr0
    have hu := huOf hr
    have tk : Takes (cxOf (L2.CX P w) P w K mg base ["hand", "many", "days", "found", "film", "first", "last"] "_law_films" (defScope (topS 38)) F.a__law_films cdv A outer s H E) (fun cls d _ H => E cls d H) := takes_of rfl rfl rfl rfl
    have S := sc__law_films
    exact vss_cons (VSN.own (vsn_of (i := 3) S.nd rfl (by first | exact .inl rfl | exact .inr rfl) (vn_lst (va_nil))))
        (vss_cons (vs_forF (passes_of rfl) rfl (vif_range1 (by rfl) F.n_range (va_cons (ve_op ov_add (ve_int) (ve_call (ok__law_draw F) (hr.mono (by omega)) F.g__law_draw F.k__law_draw F.b__law_draw (passW tk) (by rfl) (va_cons (vv 0) (va_cons (vv 1) (va_nil))))) (va_nil))) (vg_name (i := 4) S.nd rfl (by first | exact .inl rfl | exact .inr rfl)) (vss_cons (vs_set (vg_name (i := 5) S.nd rfl (by first | exact .inl rfl | exact .inr rfl)) (ve_call (ok__law_draw F) (hr.mono (by omega)) F.g__law_draw F.k__law_draw F.b__law_draw (passW tk) (by rfl) (va_cons (vv 0) (va_cons (ve_call (ok__law_some F) (hr.mono (by omega)) F.g__law_some F.k__law_some F.b__law_some (passW tk) (by rfl) (va_cons (vv 0) (va_cons (VN.ve (vn_lst (va_cons (ve_int) (va_cons (vv 2) (va_nil))))) (va_nil)))) (va_nil)))))
        (vss_cons (vs_set (vg_name (i := 6) S.nd rfl (by first | exact .inl rfl | exact .inr rfl)) (ve_op ov_add (vv 5) (ve_call (ok__law_draw F) (hr.mono (by omega)) F.g__law_draw F.k__law_draw F.b__law_draw (passW tk) (by rfl) (va_cons (vv 0) (va_cons (ve_op ov_add (vv 2) (ve_int)) (va_nil))))))
        (vss_one (vs_owS (.inl rfl) of_append (fun r ta mr pa => pe_bm PySem.F.plainAttrs_list PySem.F.slot_list_append PySem.F.type_list_append mr (pv 3) pa) (va_cons (ve_tup (va_cons (vv 5) (va_cons (ve_callB (cv_min2 rfl) (by rfl) F.n_min bt_min (va_cons (ve_int) (va_cons (vv 6) (va_nil)))) (va_cons (ve_op ov_add (ve_int) (ve_call (ok__law_draw F) (hr.mono (by omega)) F.g__law_draw F.k__law_draw F.b__law_draw (passW tk) (by rfl) (va_cons (vv 0) (va_cons (ve_int) (va_nil))))) (va_cons (ve_call (ok__law_some F) (hr.mono (by omega)) F.g__law_some F.k__law_some F.b__law_some (passW tk) (by rfl) (va_cons (vv 0) (va_cons (VN.ve (vn_lst (va_cons (ve_int) (va_cons (ve_int) (va_cons (ve_int) (va_cons (ve_call (ok__law_draw F) (hr.mono (by omega)) F.g__law_draw F.k__law_draw F.b__law_draw (passW tk) (by rfl) (va_cons (vv 0) (va_cons (ve_int) (va_nil)))) (va_nil))))))) (va_nil)))) (va_nil)))))) (va_nil)))))))
        (vss_one (vs_ret (ve_callTy cv_tuple (by rfl) F.n_tuple bt_tuple (va_cons (vv 3) (va_nil))))))
/-! ### _law_can -/
noncomputable def law_can_e1 : EM D := andVM (bin2 eqD (idxM (vM 1) (vM 7)) (vM 2)) (bin2 ltD (bin2 subD (bin2 subD (callM lenD (acM (vM 1) (anM))) (vM 7)) (cM (.int 1))) (vM 6))
noncomputable def m__law_can : SM := seqM (setM (gTu 4 (gsC (gNm 3) (gsC (gNm 4) (gsC (gNm 5) (gsC (gNm 6) (gsN)))))) (idxM (vM 0) (vM 2))) (seqM (ifSM (orM (notM (tst (chainM leD leD (vM 3) (callM lenD (acM (vM 1) (anM))) (vM 4)))) (tst (bin2 geD (mtM countD (vM 1) (acM (vM 2) (anM))) (vM 5)))) (retM (cM (.bl false))) (skipM)) (retM (notVM (callM anyD (acM (lcM (ofI rng1D (acM (callM lenD (acM (vM 1) (anM))) (anM))) [7] (eNm 7) (yesM) (law_can_e1)) (anM))))))
noncomputable def f__law_can : FM := runF 8 3 m__law_can
theorem sc__law_can : FnScope ["films", "sent", "film", "first", "last", "runs", "hold", "at"] ["films", "sent", "film"] (defScope (topS 39)) := ⟨rfl, rfl, rfl, by decide +kernel, rfl, by decide +kernel, by decide +kernel⟩
theorem ok__law_can (F : Facts K mg) : FnOk P w K mg base (L2.CX P w) 1 F.a__law_can F.d__law_can ["films", "sent", "film"] (spV TP K mg 3 f__law_can) := vl_fn (T := TP) F.F__law_can sc__law_can fun cdv A outer s H E hr0 => by
    have hr : Room 0 (cxOf (L2.CX P w) P w K mg base ["films", "sent", "film", "first", "last", "runs", "hold", "at"] "_law_can" (defScope (topS 39)) F.a__law_can cdv A outer s H E).A := hr0
    have hu := huOf hr
    have tk : Takes (cxOf (L2.CX P w) P w K mg base ["films", "sent", "film", "first", "last", "runs", "hold", "at"] "_law_can" (defScope (topS 39)) F.a__law_can cdv A outer s H E) (fun cls d _ H => E cls d H) := takes_of rfl rfl rfl rfl
    have S := sc__law_can
    exact vss_cons (vs_set (vg_tup rfl (vgs_cons (vg_name (i := 3) S.nd rfl (by first | exact .inl rfl | exact .inr rfl)) (vgs_cons (vg_name (i := 4) S.nd rfl (by first | exact .inl rfl | exact .inr rfl)) (vgs_cons (vg_name (i := 5) S.nd rfl (by first | exact .inl rfl | exact .inr rfl)) (vgs_cons (vg_name (i := 6) S.nd rfl (by first | exact .inl rfl | exact .inr rfl)) (vgs_nil)))))) (ve_ix rfl hu (vv 0) (vv 2)))
        (vss_cons (vs_if (VW.vt (vw_or (vt_not (vt_chain (ov_le hu) (ov_le hu) (vv 3) (ve_callB cv_len (by rfl) F.n_len bt_len (va_cons (vv 1) (va_nil))) (vv 4))) (vw_or1 (vt_cmp (ov_ge hu) (ve_mtT rfl PySem.F.slot_tuple_count PySem.F.type_tuple_count (mtt_count hu) (vv 1) (va_cons (vv 2) (va_nil))) (vv 5) (nomark _))))) (vss_one (vs_ret (ve_bl))) (vss_nil))
        (vss_one (vs_ret (ve_not (ve_callB (cv_any rfl) (by rfl) F.n_any bt_any (va_cons (VN.ve (vn_lc (own := [("at", 7)]) (LcOk.mk (own := [("at", 7)]) rfl S.nd (VIf.vi (vif_range1 (by rfl) F.n_range (va_cons (ve_callB cv_len (by rfl) F.n_len bt_len (va_cons (vv 1) (va_nil))) (va_nil)))) (blkOk_by rfl) (fun _ _ _ _ _ => vge_name (i := 7) (by decide) S.nd rfl (by first | exact .inl rfl | exact .inr rfl)) (fun _ _ _ _ _ => vts_nil) (fun _ _ _ _ _ => ve_and (ve_cmp (ov_eq hu) (ve_ix rfl hu (vv 1) (vv 7)) (vv 2) (nomark _)) (ve_one (ve_cmp (ov_lt hu) (ve_op ov_sub (ve_op ov_sub (ve_callB cv_len (by rfl) F.n_len bt_len (va_cons (vv 1) (va_nil))) (vv 7)) (ve_int)) (vv 6) (nomark _))))))) (va_nil)))))))
/-! ### _law_years -/
noncomputable def law_years_e1 : EM D := bin2 addD (vM 5) (tupM (acM (vM 6) (anM)))
noncomputable def law_years_t1 : EM Bool := tst (callF 3 (acM (vM 0) (acM (vM 5) (acM (vM 6) (anM)))) f__law_can)
noncomputable def law_years_for1 : SM := owM "list" 4 extF (acM (lcM (ofI rng1D (acM (callM lenD (acM (vM 0) (anM))) (anM))) [6] (eNm 6) (law_years_t1) (law_years_e1)) (anM)) kDrop
noncomputable def law_years_for2 : SM := seqM (setNM 4 (lstM (anM))) (seqM (forM (gNm 5) (seqI (vM 2)) (law_years_for1)) (disM 4 (setM (gNm 2) (vM 4))))
noncomputable def m__law_years : SM := seqM (setSM 2 (lstM (acM (tupM (anM)) (anM)))) (seqM (forFM (gNm 3) (ofI rng1D (acM (vM 1) (anM))) (law_years_for2)) (retM (vM 2)))
noncomputable def f__law_years : FM := runF 7 2 m__law_years
theorem sc__law_years : FnScope ["films", "days", "rows", "day", "longer", "row", "film"] ["films", "days"] (defScope (topS 40)) := ⟨rfl, rfl, rfl, by decide +kernel, rfl, by decide +kernel, by decide +kernel⟩
theorem ok__law_years (F : Facts K mg) : FnOk P w K mg base (L2.CX P w) 2 F.a__law_years F.d__law_years ["films", "days"] (spV TP K mg 2 f__law_years) := vl_fn (T := TP) F.F__law_years sc__law_years fun cdv A outer s H E hr0 => by
    have hr : Room 1 (cxOf (L2.CX P w) P w K mg base ["films", "days", "rows", "day", "longer", "row", "film"] "_law_years" (defScope (topS 40)) F.a__law_years cdv A outer s H E).A := hr0
    have hu := huOf hr
    have tk : Takes (cxOf (L2.CX P w) P w K mg base ["films", "days", "rows", "day", "longer", "row", "film"] "_law_years" (defScope (topS 40)) F.a__law_years cdv A outer s H E) (fun cls d _ H => E cls d H) := takes_of rfl rfl rfl rfl
    have S := sc__law_years
    exact vss_cons (VSN.shr (vsn_of (i := 2) S.nd rfl (by first | exact .inl rfl | exact .inr rfl) (vn_lst (va_cons (ve_tup (va_nil)) (va_nil)))))
        (vss_cons (vs_forF (passes_of rfl) rfl (vif_range1 (by rfl) F.n_range (va_cons (vv 1) (va_nil))) (vg_name (i := 3) S.nd rfl (by first | exact .inl rfl | exact .inr rfl)) (vss_cons (VSN.own (vsn_of (i := 4) S.nd rfl (by first | exact .inl rfl | exact .inr rfl) (vn_lst (va_nil))))
        (vss_cons (vs_for (passes_of rfl) rfl (vi_seq (vv 2)) (vg_name (i := 5) S.nd rfl (by first | exact .inl rfl | exact .inr rfl)) (vss_one (vs_owS (.inl rfl) of_extend (fun r ta mr pa => pe_bm PySem.F.plainAttrs_list PySem.F.slot_list_extend PySem.F.type_list_extend mr (pv 4) pa) (va_cons (VN.ve (vn_lc (own := [("film", 6)]) (LcOk.mk (own := [("film", 6)]) rfl S.nd (VIf.vi (vif_range1 (by rfl) F.n_range (va_cons (ve_callB cv_len (by rfl) F.n_len bt_len (va_cons (vv 0) (va_nil))) (va_nil)))) (blkOk_by rfl) (fun _ _ _ _ _ => vge_name (i := 6) (by decide) S.nd rfl (by first | exact .inl rfl | exact .inr rfl)) (fun _ _ _ _ _ => vts_one (vt_val (ve_call (ok__law_can F) (hr.mono (by omega)) F.g__law_can F.k__law_can F.b__law_can passF (by rfl) (va_cons (vv 0) (va_cons (vv 5) (va_cons (vv 6) (va_nil))))))) (fun _ _ _ _ _ => ve_op ov_add (vv 5) (ve_tup (va_cons (vv 6) (va_nil))))))) (va_nil)))))
        (vss_one (VS.dis 4 (vs_set (vg_name (i := 2) S.nd rfl (by first | exact .inl rfl | exact .inr rfl)) (vv 4)))))))
        (vss_one (vs_ret (vv 2))))
/-! ### _law_node -/
noncomputable def law_node_for1 (self : FM) : SM := seqM (setM (gNm 6) (callF 3 (acM (vM 0) (acM (vM 2) (acM (vM 5) (anM)))) f__law_can)) (owM "list" 4 appF (acM (ifM (tst (vM 6)) (callF 4 (acM (vM 0) (acM (vM 1) (acM (bin2 addD (vM 2) (tupM (acM (vM 5) (anM)))) (acM (bin2 subD (vM 3) (cM (.int 1))) (anM))))) self) (cM .non)) (anM)) kDrop)
noncomputable def m__law_node (self : FM) : SM := seqM (ifSM (tst (bin2 eqD (vM 3) (cM (.int 0)))) (retM (tupM (anM))) (skipM)) (seqM (setNM 4 (lstM (anM))) (seqM (forFM (gNm 5) (ofI rng1D (acM (callM lenD (acM (vM 0) (anM))) (anM))) (law_node_for1 self)) (retM (callM tupleD (acM (vM 4) (anM))))))
noncomputable def f__law_node : Nat → FM
  | 0 => fun _ _ => .stuck
  | k + 1 => runF 7 4 (m__law_node (f__law_node k))
theorem sc__law_node : FnScope ["films", "days", "sent", "depth", "found", "film", "can"] ["films", "days", "sent", "depth"] (defScope (topS 41)) := ⟨rfl, rfl, rfl, by decide +kernel, rfl, by decide +kernel, by decide +kernel⟩
theorem ok__law_node (F : Facts K mg) : ∀ j : Nat, FnOk P w K mg base (L2.CX P w) (j + 2) F.a__law_node F.d__law_node ["films", "days", "sent", "depth"] (spV TP K mg 4 (f__law_node j))
  | 0 => vl_fn0
  | j + 1 => vl_fn (T := TP) F.F__law_node sc__law_node fun cdv A outer s H E hr0 => by
    have hr : Room (j + 2) (cxOf (L2.CX P w) P w K mg base ["films", "days", "sent", "depth", "found", "film", "can"] "_law_node" (defScope (topS 41)) F.a__law_node cdv A outer s H E).A := hr0
    have hu := huOf hr
    have tk : Takes (cxOf (L2.CX P w) P w K mg base ["films", "days", "sent", "depth", "found", "film", "can"] "_law_node" (defScope (topS 41)) F.a__law_node cdv A outer s H E) (fun cls d _ H => E cls d H) := takes_of rfl rfl rfl rfl
    have S := sc__law_node
    have FS := ok__law_node F j
    exact vss_cons (vs_if (vt_cmp (ov_eq hu) (vv 3) (ve_int) (nomark _)) (vss_one (vs_ret (ve_tup (va_nil)))) (vss_nil))
        (vss_cons (VSN.own (vsn_of (i := 4) S.nd rfl (by first | exact .inl rfl | exact .inr rfl) (vn_lst (va_nil))))
        (vss_cons (vs_forF (passes_of rfl) rfl (vif_range1 (by rfl) F.n_range (va_cons (ve_callB cv_len (by rfl) F.n_len bt_len (va_cons (vv 0) (va_nil))) (va_nil))) (vg_name (i := 5) S.nd rfl (by first | exact .inl rfl | exact .inr rfl)) (vss_cons (vs_set (vg_name (i := 6) S.nd rfl (by first | exact .inl rfl | exact .inr rfl)) (ve_call (ok__law_can F) (hr.mono (by omega)) F.g__law_can F.k__law_can F.b__law_can (passW tk) (by rfl) (va_cons (vv 0) (va_cons (vv 2) (va_cons (vv 5) (va_nil))))))
        (vss_one (vs_owS (.inl rfl) of_append (fun r ta mr pa => pe_bm PySem.F.plainAttrs_list PySem.F.slot_list_append PySem.F.type_list_append mr (pv 4) pa) (va_cons (ve_if (vt_val (vv 6)) (ve_call FS (hr.mono (by omega)) F.g__law_node F.k__law_node F.b__law_node (passW tk) (by rfl) (va_cons (vv 0) (va_cons (vv 1) (va_cons (ve_op ov_add (vv 2) (ve_tup (va_cons (vv 5) (va_nil)))) (va_cons (ve_op ov_sub (vv 3) (ve_int)) (va_nil)))))) (ve_non)) (va_nil))))))
        (vss_one (vs_ret (ve_callTy cv_tuple (by rfl) F.n_tuple bt_tuple (va_cons (vv 4) (va_nil)))))))
/-! ### _law_world -/
noncomputable def m__law_world : SM := seqM (setM (gNm 1) (bin2 addD (cM (.int 1)) (callF 2 (acM (vM 0) (acM (cM (.int 6)) (anM))) f__law_draw))) (retM (tupM (acM (callF 3 (acM (vM 0) (acM (callF 2 (acM (vM 0) (acM (lstM (acM (cM (.int 2)) (acM (cM (.int 4)) (anM)))) (anM))) f__law_some) (acM (vM 1) (anM)))) f__law_films) (acM (vM 1) (anM)))))
noncomputable def f__law_world : FM := runF 2 1 m__law_world
theorem sc__law_world : FnScope ["hand", "days"] ["hand"] (defScope (topS 42)) := ⟨rfl, rfl, rfl, by decide +kernel, rfl, by decide +kernel, by decide +kernel⟩
theorem ok__law_world (F : Facts K mg) : FnOk P w K mg base (L2.CX P w) 4 F.a__law_world F.d__law_world ["hand"] (spV TP K mg 1 f__law_world) := vl_fn (T := TP) F.F__law_world sc__law_world fun cdv A outer s H E hr0 => by
    have hr : Room 3 (cxOf (L2.CX P w) P w K mg base ["hand", "days"] "_law_world" (defScope (topS 42)) F.a__law_world cdv A outer s H E).A := hr0
    have hu := huOf hr
    have tk : Takes (cxOf (L2.CX P w) P w K mg base ["hand", "days"] "_law_world" (defScope (topS 42)) F.a__law_world cdv A outer s H E) (fun cls d _ H => E cls d H) := takes_of rfl rfl rfl rfl
    have S := sc__law_world
    exact vss_cons (vs_set (vg_name (i := 1) S.nd rfl (by first | exact .inl rfl | exact .inr rfl)) (ve_op ov_add (ve_int) (ve_call (ok__law_draw F) (hr.mono (by omega)) F.g__law_draw F.k__law_draw F.b__law_draw (passW tk) (by rfl) (va_cons (vv 0) (va_cons (ve_int) (va_nil))))))
        (vss_one (vs_ret (ve_tup (va_cons (ve_call (ok__law_films F) (hr.mono (by omega)) F.g__law_films F.k__law_films F.b__law_films (passW tk) (by rfl) (va_cons (vv 0) (va_cons (ve_call (ok__law_some F) (hr.mono (by omega)) F.g__law_some F.k__law_some F.b__law_some (passW tk) (by rfl) (va_cons (vv 0) (va_cons (VN.ve (vn_lst (va_cons (ve_int) (va_cons (ve_int) (va_nil))))) (va_nil)))) (va_cons (vv 1) (va_nil))))) (va_cons (vv 1) (va_nil))))))
/-! ### _law_is_sent_right -/
noncomputable def law_is_sent_right_e1 : EM D := vM 8
noncomputable def law_is_sent_right_t1 : EM Bool := tst (callF 3 (acM (vM 1) (acM (vM 5) (acM (vM 8) (anM)))) f__law_can)
noncomputable def law_is_sent_right_e2 : EM D := bin2 subD (idxM (idxM (vM 1) (vM 8)) (cM (.int 2))) (mtM countD (vM 5) (acM (vM 8) (anM)))
noncomputable def law_is_sent_right_e3 : EM D := callF 3 (acM (vM 1) (acM (vM 3) (acM (vM 9) (anM)))) f_is_year
noncomputable def m__law_is_sent_right : SM := seqM (setM (gNm 4) (ifM (tst (bin2 gtD (callM lenD (acM (vM 2) (anM))) (cM (.int 0)))) (callF 2 (acM (vM 0) (acM (vM 2) (anM))) f__law_some) (tupM (anM)))) (seqM (setM (gNm 5) (cutM (vM 4) (noPart) (partM (callF 2 (acM (vM 0) (acM (bin2 addD (callM lenD (acM (vM 4) (anM))) (cM (.int 1))) (anM))) f__law_draw)))) (seqM (setSM 6 (lcM (ofI rng1D (acM (callM lenD (acM (vM 1) (anM))) (anM))) [8] (eNm 8) (law_is_sent_right_t1) (law_is_sent_right_e1))) (seqM (ifSM (notM (tst (callF 2 (acM (callF 2 (acM (vM 1) (acM (vM 5) (anM))) f_free_films) (acM (callM tupleD (acM (vM 6) (anM))) (anM))) (f__law_is 20)))) (retM (cM (.bl false))) (skipM)) (seqM (setM (gNm 7) (callM tupleD (acM (lcM (ofI rng1D (acM (callM lenD (acM (vM 1) (anM))) (anM))) [8] (eNm 8) (yesM) (law_is_sent_right_e2)) (anM)))) (seqM (ifSM (notM (tst (callF 2 (acM (callF 2 (acM (vM 1) (acM (vM 5) (anM))) f_runs_left) (acM (vM 7) (anM))) (f__law_is 20)))) (retM (cM (.bl false))) (skipM)) (retM (callM allD (acM (lcM (seqI (cutM (vM 2) (noPart) (partM (cM (.int 4))))) [9] (eNm 9) (yesM) (law_is_sent_right_e3)) (anM)))))))))
noncomputable def f__law_is_sent_right : FM := runF 10 4 m__law_is_sent_right
theorem sc__law_is_sent_right : FnScope ["hand", "films", "rows", "days", "row", "sent", "some", "left", "film", "year"] ["hand", "films", "rows", "days"] (defScope (topS 43)) := ⟨rfl, rfl, rfl, by decide +kernel, rfl, by decide +kernel, by decide +kernel⟩
theorem ok__law_is_sent_right (F : Facts K mg) : FnOk P w K mg base (L2.CX P w) 22 F.a__law_is_sent_right F.d__law_is_sent_right ["hand", "films", "rows", "days"] (spV TP K mg 4 f__law_is_sent_right) := vl_fn (T := TP) F.F__law_is_sent_right sc__law_is_sent_right fun cdv A outer s H E hr0 => by
    have hr : Room 21 (cxOf (L2.CX P w) P w K mg base ["hand", "films", "rows", "days", "row", "sent", "some", "left", "film", "year"] "_law_is_sent_right" (defScope (topS 43)) F.a__law_is_sent_right cdv A outer s H E).A := hr0
    have hu := huOf hr
    have tk : Takes (cxOf (L2.CX P w) P w K mg base ["hand", "films", "rows", "days", "row", "sent", "some", "left", "film", "year"] "_law_is_sent_right" (defScope (topS 43)) F.a__law_is_sent_right cdv A outer s H E) (fun cls d _ H => E cls d H) := takes_of rfl rfl rfl rfl
    have S := sc__law_is_sent_right
    exact vss_cons (vs_set (vg_name (i := 4) S.nd rfl (by first | exact .inl rfl | exact .inr rfl)) (ve_if (vt_cmp (ov_gt hu) (ve_callB cv_len (by rfl) F.n_len bt_len (va_cons (vv 2) (va_nil))) (ve_int) (nomark _)) (ve_call (ok__law_some F) (hr.mono (by omega)) F.g__law_some F.k__law_some F.b__law_some (passW tk) (by rfl) (va_cons (vv 0) (va_cons (vv 2) (va_nil)))) (ve_tup (va_nil))))
        (vss_cons (vs_set (vg_name (i := 5) S.nd rfl (by first | exact .inl rfl | exact .inr rfl)) (ve_cut (vv 4) (vo_none) (vo_some (ve_call (ok__law_draw F) (hr.mono (by omega)) F.g__law_draw F.k__law_draw F.b__law_draw (passW tk) (by rfl) (va_cons (vv 0) (va_cons (ve_op ov_add (ve_callB cv_len (by rfl) F.n_len bt_len (va_cons (vv 4) (va_nil))) (ve_int)) (va_nil)))))))
        (vss_cons (VSN.shr (vsn_lc (i := 6) (own := [("film", 8)]) (LcOk.mk (own := [("film", 8)]) rfl S.nd (VIf.vi (vif_range1 (by rfl) F.n_range (va_cons (ve_callB cv_len (by rfl) F.n_len bt_len (va_cons (vv 1) (va_nil))) (va_nil)))) (blkOk_by rfl) (fun _ _ _ _ _ => vge_name (i := 8) (by decide) S.nd rfl (by first | exact .inl rfl | exact .inr rfl)) (fun _ _ _ _ _ => vts_one (vt_val (ve_call (ok__law_can F) (hr.mono (by omega)) F.g__law_can F.k__law_can F.b__law_can passF (by rfl) (va_cons (vv 1) (va_cons (vv 5) (va_cons (vv 8) (va_nil))))))) (fun _ _ _ _ _ => vv 8)) rfl rfl rfl rfl (by decide)))
        (vss_cons (vs_if (vt_not (vt_val (ve_call (ok__law_is F 20) (hr.mono (by omega)) F.g__law_is F.k__law_is F.b__law_is (passW tk) (by rfl) (va_cons (ve_call (ok_free_films F) (hr.mono (by omega)) F.g_free_films F.k_free_films F.b_free_films (passW tk) (by rfl) (va_cons (vv 1) (va_cons (vv 5) (va_nil)))) (va_cons (ve_callTy cv_tuple (by rfl) F.n_tuple bt_tuple (va_cons (vv 6) (va_nil))) (va_nil)))))) (vss_one (vs_ret (ve_bl))) (vss_nil))
        (vss_cons (vs_set (vg_name (i := 7) S.nd rfl (by first | exact .inl rfl | exact .inr rfl)) (ve_callTy cv_tuple (by rfl) F.n_tuple bt_tuple (va_cons (VN.ve (vn_lc (own := [("film", 8)]) (LcOk.mk (own := [("film", 8)]) rfl S.nd (VIf.vi (vif_range1 (by rfl) F.n_range (va_cons (ve_callB cv_len (by rfl) F.n_len bt_len (va_cons (vv 1) (va_nil))) (va_nil)))) (blkOk_by rfl) (fun _ _ _ _ _ => vge_name (i := 8) (by decide) S.nd rfl (by first | exact .inl rfl | exact .inr rfl)) (fun _ _ _ _ _ => vts_nil) (fun _ _ _ _ _ => ve_op ov_sub (ve_ix rfl hu (ve_ix rfl hu (vv 1) (vv 8)) (ve_int)) (ve_mtT rfl PySem.F.slot_tuple_count PySem.F.type_tuple_count (mtt_count hu) (vv 5) (va_cons (vv 8) (va_nil))))))) (va_nil))))
        (vss_cons (vs_if (vt_not (vt_val (ve_call (ok__law_is F 20) (hr.mono (by omega)) F.g__law_is F.k__law_is F.b__law_is (passW tk) (by rfl) (va_cons (ve_call (ok_runs_left F) (hr.mono (by omega)) F.g_runs_left F.k_runs_left F.b_runs_left (passW tk) (by rfl) (va_cons (vv 1) (va_cons (vv 5) (va_nil)))) (va_cons (vv 7) (va_nil)))))) (vss_one (vs_ret (ve_bl))) (vss_nil))
        (vss_one (vs_ret (ve_callB (cv_all rfl) (by rfl) F.n_all bt_all (va_cons (VN.ve (vn_lc (own := [("year", 9)]) (LcOk.mk (own := [("year", 9)]) rfl S.nd (vi_seq (ve_cut (vv 2) (vo_none) (vo_some (ve_int)))) (blkOk_by rfl) (fun _ _ _ _ _ => vge_name (i := 9) (by decide) S.nd rfl (by first | exact .inl rfl | exact .inr rfl)) (fun _ _ _ _ _ => vts_nil) (fun _ _ _ _ _ => ve_call (ok_is_year F) (hr.mono (by omega)) F.g_is_year F.k_is_year F.b_is_year passF (by rfl) (va_cons (vv 1) (va_cons (vv 3) (va_cons (vv 9) (va_nil)))))))) (va_nil))))))))))
/-! ### _law_is_right -/
noncomputable def law_is_right_e1 : EM D := bin2 eqD (idxM (vM 14) (vM 13)) (idxM (idxM (vM 3) (cM (.int 0))) (vM 13))
noncomputable def law_is_right_e2 : EM D := tupM (acM (vM 13) (acM (idxM (idxM (vM 3) (cM (.int 0))) (vM 13)) (anM)))
noncomputable def law_is_right_t1 : EM Bool := tst (callM allD (acM (lcM (seqI (vM 3)) [14] (eNm 14) (yesM) (law_is_right_e1)) (anM)))
noncomputable def m__law_is_right : SM := seqM (setM (gTu 2 (gsC (gNm 1) (gsC (gNm 2) (gsN)))) (callF 1 (acM (vM 0) (anM)) f__law_world)) (seqM (setM (gNm 3) (callF 2 (acM (vM 1) (acM (vM 2) (anM))) f__law_years)) (seqM (setM (gNm 4) (callF 2 (acM (vM 1) (acM (vM 2) (anM))) f_year_told)) (seqM (setM (gNm 5) (ifM (tst (bin2 gtD (callM lenD (acM (vM 3) (anM))) (cM (.int 0)))) (tupM (acM (cM (.str "year")) (acM (idxM (vM 3) (cM (.int 0))) (anM)))) (tupM (acM (cM (.str "tree")) (acM (callF 4 (acM (vM 1) (acM (vM 2) (acM (tupM (anM)) (acM (vM 2) (anM))))) (f__law_node 10)) (anM)))))) (seqM (ifSM (orM (notM (tst (callF 2 (acM (vM 4) (acM (vM 5) (anM))) (f__law_is 20)))) (notM (tst (callF 2 (acM (callF 2 (acM (vM 1) (acM (vM 2) (anM))) f_years_many) (acM (callM lenD (acM (vM 3) (anM))) (anM))) (f__law_is 20))))) (retM (cM (.bl false))) (skipM)) (seqM (setM (gNm 6) (cM .non)) (seqM (ifSM (tst (bin2 gtD (callM lenD (acM (vM 3) (anM))) (cM (.int 0)))) (setM (gNm 6) (callM tupleD (acM (lcM (ofI rng1D (acM (vM 2) (anM))) [13] (eNm 13) (law_is_right_t1) (law_is_right_e2)) (anM)))) (skipM)) (seqM (ifSM (orM (notM (tst (callF 2 (acM (callF 2 (acM (vM 1) (acM (vM 2) (anM))) f_sure_days) (acM (vM 6) (anM))) (f__law_is 20)))) (notM (tst (callF 4 (acM (vM 0) (acM (vM 1) (acM (vM 3) (acM (vM 2) (anM))))) f__law_is_sent_right)))) (retM (cM (.bl false))) (skipM)) (seqM (setM (gNm 7) (callF 2 (acM (vM 0) (acM (callM lenD (acM (vM 1) (anM))) (anM))) f__law_draw)) (seqM (setM (gTu 4 (gsC (gNm 8) (gsC (gNm 9) (gsC (gNm 10) (gsC (gNm 11) (gsN)))))) (idxM (vM 1) (vM 7))) (seqM (setM (gNm 12) (bin2 addD (bin2 addD (cutM (vM 1) (noPart) (partM (vM 7))) (tupM (acM (tupM (acM (vM 8) (acM (vM 9) (acM (callM min2D (acM (cM (.int 4)) (acM (bin2 addD (vM 10) (cM (.int 1))) (anM)))) (acM (callM max2D (acM (cM (.int 0)) (acM (bin2 subD (vM 11) (cM (.int 1))) (anM)))) (anM)))))) (anM)))) (cutM (vM 1) (partM (bin2 addD (vM 7) (cM (.int 1)))) (noPart)))) (retM (bin2 geD (callF 2 (acM (vM 12) (acM (vM 2) (anM))) f_years_many) (callM lenD (acM (vM 3) (anM)))))))))))))))
noncomputable def f__law_is_right : FM := runF 15 1 m__law_is_right
theorem sc__law_is_right : FnScope ["hand", "films", "days", "rows", "told", "due", "sure", "at", "first", "last", "runs", "hold", "more", "day", "row"] ["hand"] (defScope (topS 44)) := ⟨rfl, rfl, rfl, by decide +kernel, rfl, by decide +kernel, by decide +kernel⟩
theorem ok__law_is_right (F : Facts K mg) : FnOk P w K mg base (L2.CX P w) 23 F.a__law_is_right F.d__law_is_right ["hand"] (spV TP K mg 1 f__law_is_right) := vl_fn (T := TP) F.F__law_is_right sc__law_is_right fun cdv A outer s H E hr0 => by
    have hr : Room 22 (cxOf (L2.CX P w) P w K mg base ["hand", "films", "days", "rows", "told", "due", "sure", "at", "first", "last", "runs", "hold", "more", "day", "row"] "_law_is_right" (defScope (topS 44)) F.a__law_is_right cdv A outer s H E).A := hr0
    have hu := huOf hr
    have tk : Takes (cxOf (L2.CX P w) P w K mg base ["hand", "films", "days", "rows", "told", "due", "sure", "at", "first", "last", "runs", "hold", "more", "day", "row"] "_law_is_right" (defScope (topS 44)) F.a__law_is_right cdv A outer s H E) (fun cls d _ H => E cls d H) := takes_of rfl rfl rfl rfl
    have S := sc__law_is_right
    exact vss_cons (vs_set (vg_tup rfl (vgs_cons (vg_name (i := 1) S.nd rfl (by first | exact .inl rfl | exact .inr rfl)) (vgs_cons (vg_name (i := 2) S.nd rfl (by first | exact .inl rfl | exact .inr rfl)) (vgs_nil)))) (ve_call (ok__law_world F) (hr.mono (by omega)) F.g__law_world F.k__law_world F.b__law_world (passW tk) (by rfl) (va_cons (vv 0) (va_nil))))
        (vss_cons (vs_set (vg_name (i := 3) S.nd rfl (by first | exact .inl rfl | exact .inr rfl)) (ve_call (ok__law_years F) (hr.mono (by omega)) F.g__law_years F.k__law_years F.b__law_years (passW tk) (by rfl) (va_cons (vv 1) (va_cons (vv 2) (va_nil)))))
        (vss_cons (vs_set (vg_name (i := 4) S.nd rfl (by first | exact .inl rfl | exact .inr rfl)) (ve_call (ok_year_told F) (hr.mono (by omega)) F.g_year_told F.k_year_told F.b_year_told (passW tk) (by rfl) (va_cons (vv 1) (va_cons (vv 2) (va_nil)))))
        (vss_cons (vs_set (vg_name (i := 5) S.nd rfl (by first | exact .inl rfl | exact .inr rfl)) (ve_if (vt_cmp (ov_gt hu) (ve_callB cv_len (by rfl) F.n_len bt_len (va_cons (vv 3) (va_nil))) (ve_int) (nomark _)) (ve_tup (va_cons (ve_str) (va_cons (ve_ix rfl hu (vv 3) (ve_int)) (va_nil)))) (ve_tup (va_cons (ve_str) (va_cons (ve_call (ok__law_node F 10) (hr.mono (by omega)) F.g__law_node F.k__law_node F.b__law_node (passW tk) (by rfl) (va_cons (vv 1) (va_cons (vv 2) (va_cons (ve_tup (va_nil)) (va_cons (vv 2) (va_nil)))))) (va_nil))))))
        (vss_cons (vs_if (VW.vt (vw_or (vt_not (vt_val (ve_call (ok__law_is F 20) (hr.mono (by omega)) F.g__law_is F.k__law_is F.b__law_is (passW tk) (by rfl) (va_cons (vv 4) (va_cons (vv 5) (va_nil)))))) (vw_or1 (vt_not (vt_val (ve_call (ok__law_is F 20) (hr.mono (by omega)) F.g__law_is F.k__law_is F.b__law_is (passW tk) (by rfl) (va_cons (ve_call (ok_years_many F) (hr.mono (by omega)) F.g_years_many F.k_years_many F.b_years_many (passW tk) (by rfl) (va_cons (vv 1) (va_cons (vv 2) (va_nil)))) (va_cons (ve_callB cv_len (by rfl) F.n_len bt_len (va_cons (vv 3) (va_nil))) (va_nil))))))))) (vss_one (vs_ret (ve_bl))) (vss_nil))
        (vss_cons (vs_set (vg_name (i := 6) S.nd rfl (by first | exact .inl rfl | exact .inr rfl)) (ve_non))
        (vss_cons (vs_if (vt_cmp (ov_gt hu) (ve_callB cv_len (by rfl) F.n_len bt_len (va_cons (vv 3) (va_nil))) (ve_int) (nomark _)) (vss_one (vs_set (vg_name (i := 6) S.nd rfl (by first | exact .inl rfl | exact .inr rfl)) (ve_callTy cv_tuple (by rfl) F.n_tuple bt_tuple (va_cons (VN.ve (vn_lc (own := [("day", 13)]) (LcOk.mk (own := [("day", 13)]) rfl S.nd (VIf.vi (vif_range1 (by rfl) F.n_range (va_cons (vv 2) (va_nil)))) (blkOk_by rfl) (fun _ _ _ _ _ => vge_name (i := 13) (by decide) S.nd rfl (by first | exact .inl rfl | exact .inr rfl)) (fun _ _ _ _ _ => vts_one (vt_val (ve_callB (cv_all rfl) (by rfl) F.n_all bt_all (va_cons (VN.ve (vn_lc (own := [("row", 14)]) (LcOk.mk (own := [("row", 14)]) rfl S.nd (vi_seq (vv 3)) (blkOk_by rfl) (fun _ _ _ _ _ => vge_name (i := 14) (by decide) S.nd rfl (by first | exact .inl rfl | exact .inr rfl)) (fun _ _ _ _ _ => vts_nil) (fun _ _ _ _ _ => ve_cmp (ov_eq hu) (ve_ix rfl hu (vv 14) (vv 13)) (ve_ix rfl hu (ve_ix rfl hu (vv 3) (ve_int)) (vv 13)) (nomark _))))) (va_nil))))) (fun _ _ _ _ _ => ve_tup (va_cons (vv 13) (va_cons (ve_ix rfl hu (ve_ix rfl hu (vv 3) (ve_int)) (vv 13)) (va_nil))))))) (va_nil))))) (vss_nil))
        (vss_cons (vs_if (VW.vt (vw_or (vt_not (vt_val (ve_call (ok__law_is F 20) (hr.mono (by omega)) F.g__law_is F.k__law_is F.b__law_is (passW tk) (by rfl) (va_cons (ve_call (ok_sure_days F) (hr.mono (by omega)) F.g_sure_days F.k_sure_days F.b_sure_days (passW tk) (by rfl) (va_cons (vv 1) (va_cons (vv 2) (va_nil)))) (va_cons (vv 6) (va_nil)))))) (vw_or1 (vt_not (vt_val (ve_call (ok__law_is_sent_right F) (hr.mono (by omega)) F.g__law_is_sent_right F.k__law_is_sent_right F.b__law_is_sent_right (passW tk) (by rfl) (va_cons (vv 0) (va_cons (vv 1) (va_cons (vv 3) (va_cons (vv 2) (va_nil))))))))))) (vss_one (vs_ret (ve_bl))) (vss_nil))
        (vss_cons (vs_set (vg_name (i := 7) S.nd rfl (by first | exact .inl rfl | exact .inr rfl)) (ve_call (ok__law_draw F) (hr.mono (by omega)) F.g__law_draw F.k__law_draw F.b__law_draw (passW tk) (by rfl) (va_cons (vv 0) (va_cons (ve_callB cv_len (by rfl) F.n_len bt_len (va_cons (vv 1) (va_nil))) (va_nil)))))
        (vss_cons (vs_set (vg_tup rfl (vgs_cons (vg_name (i := 8) S.nd rfl (by first | exact .inl rfl | exact .inr rfl)) (vgs_cons (vg_name (i := 9) S.nd rfl (by first | exact .inl rfl | exact .inr rfl)) (vgs_cons (vg_name (i := 10) S.nd rfl (by first | exact .inl rfl | exact .inr rfl)) (vgs_cons (vg_name (i := 11) S.nd rfl (by first | exact .inl rfl | exact .inr rfl)) (vgs_nil)))))) (ve_ix rfl hu (vv 1) (vv 7)))
        (vss_cons (vs_set (vg_name (i := 12) S.nd rfl (by first | exact .inl rfl | exact .inr rfl)) (ve_op ov_add (ve_op ov_add (ve_cut (vv 1) (vo_none) (vo_some (vv 7))) (ve_tup (va_cons (ve_tup (va_cons (vv 8) (va_cons (vv 9) (va_cons (ve_callB (cv_min2 rfl) (by rfl) F.n_min bt_min (va_cons (ve_int) (va_cons (ve_op ov_add (vv 10) (ve_int)) (va_nil)))) (va_cons (ve_callB (cv_max2 rfl) (by rfl) F.n_max bt_max (va_cons (ve_int) (va_cons (ve_op ov_sub (vv 11) (ve_int)) (va_nil)))) (va_nil)))))) (va_nil)))) (ve_cut (vv 1) (vo_some (ve_op ov_add (vv 7) (ve_int))) (vo_none))))
        (vss_one (vs_ret (ve_cmp (ov_ge hu) (ve_call (ok_years_many F) (hr.mono (by omega)) F.g_years_many F.k_years_many F.b_years_many (passW tk) (by rfl) (va_cons (vv 12) (va_cons (vv 2) (va_nil)))) (ve_callB cv_len (by rfl) F.n_len bt_len (va_cons (vv 3) (va_nil))) (nomark _))))))))))))))
/-! ### law -/
noncomputable def law_e1 : EM D := callF 1 (acM (vM 1) (anM)) f__law_is_right
noncomputable def m_law : SM := seqM (setM (gNm 2) (tupM (acM (tupM (acM (cM (.int 0)) (acM (cM (.int 2)) (acM (cM (.int 2)) (acM (cM (.int 1)) (anM)))))) (acM (tupM (acM (cM (.int 1)) (acM (cM (.int 2)) (acM (cM (.int 1)) (acM (cM (.int 0)) (anM)))))) (anM))))) (seqM (ifSM (orM (tst (bin2 neD (callF 2 (acM (vM 2) (acM (cM (.int 3)) (anM))) f_year_told) (tupM (acM (cM (.str "year")) (acM (tupM (acM (cM (.int 0)) (acM (cM (.int 1)) (acM (cM (.int 0)) (anM))))) (anM)))))) (tst (bin2 neD (callF 2 (acM (vM 2) (acM (cM (.int 3)) (anM))) f_years_many) (cM (.int 1))))) (retM (cM (.bl false))) (skipM)) (seqM (ifSM (tst (bin2 neD (callF 2 (acM (vM 2) (acM (cM (.int 3)) (anM))) f_sure_days) (tupM (acM (tupM (acM (cM (.int 0)) (acM (cM (.int 0)) (anM)))) (acM (tupM (acM (cM (.int 1)) (acM (cM (.int 1)) (anM)))) (acM (tupM (acM (cM (.int 2)) (acM (cM (.int 0)) (anM)))) (anM))))))) (retM (cM (.bl false))) (skipM)) (seqM (ifSM (orM (tst (bin2 neD (callF 2 (acM (tupM (acM (tupM (acM (cM (.int 0)) (acM (cM (.int 2)) (acM (cM (.int 3)) (acM (cM (.int 1)) (anM)))))) (anM))) (acM (cM (.int 2)) (anM))) f_year_told) (tupM (acM (cM (.str "tree")) (acM (tupM (acM (tupM (acM (cM .non) (anM))) (anM))) (anM)))))) (tst (bin2 neD (callF 2 (acM (vM 2) (acM (tupM (acM (cM (.int 0)) (anM))) (anM))) f_free_films) (tupM (acM (cM (.int 1)) (anM)))))) (retM (cM (.bl false))) (skipM)) (seqM (ifSM (tst (bin2 neD (callF 2 (acM (vM 2) (acM (tupM (acM (cM (.int 0)) (acM (cM (.int 1)) (anM)))) (anM))) f_runs_left) (tupM (acM (cM (.int 1)) (acM (cM (.int 0)) (anM)))))) (retM (cM (.bl false))) (skipM)) (retM (callM allD (acM (lcM (ofI rng1D (acM (cM (.int 6)) (anM))) [3] (eNm 3) (yesM) (law_e1)) (anM))))))))
theorem sc_law : FnScope ["script", "hand", "films", "turn"] ["script"] (defScope (topS 45)) := ⟨rfl, rfl, rfl, by decide +kernel, rfl, by decide +kernel, by decide +kernel⟩
theorem ok_law (F : Facts K mg) (hH : ∀ ns : List Int, ns.length ≤ 63 → ∃ (cells rest : List Int), f__law_hand [.scr (intsD ns)] [] = .ok (.lst (.lst (intsD cells) :: intsD rest)) [] ∧ ∃ h, m_law (lawS 4) (.lst (intsD cells) :: intsD rest) = .ret (.bl true) h) :
    FnOk P w K mg base (L2.CX P w) 24 F.a_law F.d_law ["script"] (spLaw TP K) := vl_law (T := TP) F.F_law sc_law (by decide) hH fun cdv A outer s H E hr0 => by
    have hr : Room 23 (cxOf (L2.CX P w) P w K mg base ["script", "hand", "films", "turn"] "law" (defScope (topS 45)) F.a_law cdv A outer s H E).A := hr0
    have hu := huOf hr
    have tk : Takes (cxOf (L2.CX P w) P w K mg base ["script", "hand", "films", "turn"] "law" (defScope (topS 45)) F.a_law cdv A outer s H E) (fun cls d _ H => E cls d H) := takes_of rfl rfl rfl rfl
    have S := sc_law
    exact ⟨_, _, _, rfl, fun te h => ps_set (i := 1) S.nd rfl (by first | exact .inl rfl | exact .inr rfl) h, ve_call (ok__law_hand F) (hr.mono (by omega)) F.g__law_hand F.k__law_hand F.b__law_hand (passW tk) (by rfl) (va_cons (vv 0) (va_nil)),
        vss_cons (vs_set (vg_name (i := 2) S.nd rfl (by first | exact .inl rfl | exact .inr rfl)) (ve_tup (va_cons (ve_tup (va_cons (ve_int) (va_cons (ve_int) (va_cons (ve_int) (va_cons (ve_int) (va_nil)))))) (va_cons (ve_tup (va_cons (ve_int) (va_cons (ve_int) (va_cons (ve_int) (va_cons (ve_int) (va_nil)))))) (va_nil)))))
        (vss_cons (vs_if (VW.vt (vw_or (vt_cmp (ov_ne hu) (ve_call (ok_year_told F) (hr.mono (by omega)) F.g_year_told F.k_year_told F.b_year_told (passW tk) (by rfl) (va_cons (vv 2) (va_cons (ve_int) (va_nil)))) (ve_tup (va_cons (ve_str) (va_cons (ve_tup (va_cons (ve_int) (va_cons (ve_int) (va_cons (ve_int) (va_nil))))) (va_nil)))) (nomark _)) (vw_or1 (vt_cmp (ov_ne hu) (ve_call (ok_years_many F) (hr.mono (by omega)) F.g_years_many F.k_years_many F.b_years_many (passW tk) (by rfl) (va_cons (vv 2) (va_cons (ve_int) (va_nil)))) (ve_int) (nomark _))))) (vss_one (vs_ret (ve_bl))) (vss_nil))
        (vss_cons (vs_if (vt_cmp (ov_ne hu) (ve_call (ok_sure_days F) (hr.mono (by omega)) F.g_sure_days F.k_sure_days F.b_sure_days (passW tk) (by rfl) (va_cons (vv 2) (va_cons (ve_int) (va_nil)))) (ve_tup (va_cons (ve_tup (va_cons (ve_int) (va_cons (ve_int) (va_nil)))) (va_cons (ve_tup (va_cons (ve_int) (va_cons (ve_int) (va_nil)))) (va_cons (ve_tup (va_cons (ve_int) (va_cons (ve_int) (va_nil)))) (va_nil))))) (nomark _)) (vss_one (vs_ret (ve_bl))) (vss_nil))
        (vss_cons (vs_if (VW.vt (vw_or (vt_cmp (ov_ne hu) (ve_call (ok_year_told F) (hr.mono (by omega)) F.g_year_told F.k_year_told F.b_year_told (passW tk) (by rfl) (va_cons (ve_tup (va_cons (ve_tup (va_cons (ve_int) (va_cons (ve_int) (va_cons (ve_int) (va_cons (ve_int) (va_nil)))))) (va_nil))) (va_cons (ve_int) (va_nil)))) (ve_tup (va_cons (ve_str) (va_cons (ve_tup (va_cons (ve_tup (va_cons (ve_non) (va_nil))) (va_nil))) (va_nil)))) (nomark _)) (vw_or1 (vt_cmp (ov_ne hu) (ve_call (ok_free_films F) (hr.mono (by omega)) F.g_free_films F.k_free_films F.b_free_films (passW tk) (by rfl) (va_cons (vv 2) (va_cons (ve_tup (va_cons (ve_int) (va_nil))) (va_nil)))) (ve_tup (va_cons (ve_int) (va_nil))) (nomark _))))) (vss_one (vs_ret (ve_bl))) (vss_nil))
        (vss_cons (vs_if (vt_cmp (ov_ne hu) (ve_call (ok_runs_left F) (hr.mono (by omega)) F.g_runs_left F.k_runs_left F.b_runs_left (passW tk) (by rfl) (va_cons (vv 2) (va_cons (ve_tup (va_cons (ve_int) (va_cons (ve_int) (va_nil)))) (va_nil)))) (ve_tup (va_cons (ve_int) (va_cons (ve_int) (va_nil)))) (nomark _)) (vss_one (vs_ret (ve_bl))) (vss_nil))
        (vss_one (vs_ret (ve_callB (cv_all rfl) (by rfl) F.n_all bt_all (va_cons (VN.ve (vn_lc (own := [("turn", 3)]) (LcOk.mk (own := [("turn", 3)]) rfl S.nd (VIf.vi (vif_range1 (by rfl) F.n_range (va_cons (ve_int) (va_nil)))) (blkOk_by rfl) (fun _ _ _ _ _ => vge_name (i := 3) (by decide) S.nd rfl (by first | exact .inl rfl | exact .inr rfl)) (fun _ _ _ _ _ => vts_nil) (fun _ _ _ _ _ => ve_call (ok__law_is_right F) (hr.mono (by omega)) F.g__law_is_right F.k__law_is_right F.b__law_is_right passF (by rfl) (va_cons (vv 1) (va_nil)))))) (va_nil)))))))))⟩
end
end K49

set_option Elab.async false
set_option linter.all false
set_option maxRecDepth 100000
set_option maxHeartbeats 1000000
namespace K49
open PySem PySem.Spec PyProof.Rows L2 VL
/-! ### the program's own -/
theorem is_integer_int (n : Int) (h : List D) : f_is_integer [.int n] h = .ok (.bl true) h := rfl
theorem is_within_int (n lo hi : Int) (h : List D) : f_is_within [.int n, .int lo, .int hi] h = .ok (.bl (decide (lo ≤ n ∧ n ≤ hi))) h := by
  refine run_ret (m := m_is_within) ?_
  unfold m_is_within startS
  simp [is_integer_int, chainM]
  by_cases c : lo ≤ n <;> simp [c]
theorem is_sized_tup (xs : List D) (lo hi : Int) (h : List D) : f_is_sized [.tup xs, .int lo, .int hi] h = .ok (.bl (decide (lo ≤ (xs.length : Int) ∧ (xs.length : Int) ≤ hi))) h := by
  refine run_ret (m := m_is_sized) ?_
  unfold m_is_sized startS
  simp [isaB, isPlain, chainM, lenD]
  by_cases c : lo ≤ (xs.length : Int) <;> simp [c]
structure Film where
  a : Int
  b : Int
  r : Int
  k : Int
def Film.ok (f : Film) : Prop := 0 ≤ f.a ∧ f.a ≤ f.b ∧ f.b ≤ 20 ∧ 1 ≤ f.r ∧ f.r ≤ 4 ∧ 0 ≤ f.k ∧ f.k ≤ 4
def Film.d (f : Film) : D := .tup [.int f.a, .int f.b, .int f.r, .int f.k]
def filmsD (fs : List Film) : D := .tup (fs.map Film.d)
abbrev rowD (r : List Nat) : D := .tup (natsD r)
theorem ix4 {x y z u : D} {h : List D} : idxD h (.tup [x, y, z, u]) (.int 0) = some x ∧ idxD h (.tup [x, y, z, u]) (.int 1) = some y ∧ idxD h (.tup [x, y, z, u]) (.int 2) = some z ∧ idxD h (.tup [x, y, z, u]) (.int 3) = some u := ⟨rfl, rfl, rfl, rfl⟩
theorem is_film_ok (f : Film) (k : f.ok) (h : List D) : f_is_film [f.d] h = .ok (.bl true) h := by
  obtain ⟨k1, k2, k3, k4, k5, k6, k7⟩ := k
  refine run_ret (m := m_is_film) ?_
  unfold m_is_film startS Film.d
  have h1 : 0 ≤ f.b := by omega
  simp [is_sized_tup, is_within_int, ix4, *]
def okFilms (fs : List Film) : Prop := 1 ≤ fs.length ∧ fs.length ≤ 4 ∧ ∀ f ∈ fs, f.ok
theorem small {n m : Nat} (h : n ≤ m) (k : m ≤ 16777216 := by decide) : sizeOk n = true := sizeOk_of (by rw [sl24]; omega)
theorem are_films_ok {fs : List Film} (k : okFilms fs) (h : List D) : f_are_films [filmsD fs] h = .ok (.bl true) h := by
  obtain ⟨k1, k2, k3⟩ := k
  refine run_ret (m := m_are_films) ?_
  unfold m_are_films startS filmsD
  have e1 : (1 : Int) ≤ (fs.length : Int) := by omega
  have e2 : (fs.length : Int) ≤ 4 := by omega
  have e3 : lcL (eNm 1) yesM are_films_e1 (wipeS [some (D.tup (fs.map Film.d)), none] [1]) (fs.map Film.d) h = .ok (fs.map fun _ => D.bl true) h := lcL_all fun f hf => ⟨_, rfl, by
    unfold are_films_e1
    simp [wipeS, is_film_ok f (k3 f hf)]⟩
  simp [is_sized_tup, e1, e2, itemsD, small k2, e3, allD_map]
theorem check_films_ok {fs : List Film} (k : okFilms fs) (h : List D) : f_check_films [filmsD fs] h = .ok .non h := by
  refine run_nx (m := m_check_films) (ρ := [.sh (filmsD fs)]) ?_
  unfold m_check_films startS
  simp [are_films_ok k]
theorem check_year_days_ok {fs : List Film} (k : okFilms fs) {days : Int} (d1 : 1 ≤ days) (d2 : days ≤ 6) (h : List D) : f_check_year_days [filmsD fs, .int days] h = .ok .non h := by
  refine run_nx (m := m_check_year_days) (ρ := [.sh (filmsD fs), .sh (.int days)]) ?_
  unfold m_check_year_days startS
  simp [check_films_ok k, is_within_int, d1, d2]
/-! ### which films may be sent -/
def can (fs : List Film) (sent : List Nat) (i : Nat) : Bool := match fs[i]? with
  | some f => decide (f.a ≤ sent.length ∧ (sent.length : Int) ≤ f.b) && decide ((sent.count i : Int) < f.r) && (decide (f.k = 0) || !decide (i ∈ sent.drop (sent.length - f.k.toNat)))
  | none => false
def free (fs : List Film) (sent : List Nat) : List Nat := (List.range fs.length).filter (can fs sent)
theorem natsD_drop (k : Nat) (r : List Nat) : (natsD r).drop k = natsD (r.drop k) := by unfold natsD; rw [List.map_drop]
theorem natsD_take (k : Nat) (r : List Nat) : (natsD r).take k = natsD (r.take k) := by unfold natsD; rw [List.map_take]
theorem natsD_app (a b : List Nat) : natsD a ++ natsD b = natsD (a ++ b) := by unfold natsD; rw [List.map_append]
theorem filter_count (i : Nat) (r : List Nat) : (r.filter fun (x : Nat) => decide ((x : Int) = (i : Int))).length = r.count i := by
  induction r with
  | nil => rfl
  | cons a r ih =>
    rw [List.count_cons]
    by_cases c : a = i
    · subst c; rw [List.filter_cons_of_pos (by simp)]; simp [ih]
    · rw [List.filter_cons_of_neg (by simp; omega)]; simp [ih, c]
theorem can_be_sent_ok {fs : List Film} {sent : List Nat} {i : Nat} {f : Film} (hi : fs[i]? = some f) (kf : f.ok) (hl : sent.length ≤ 30) (h : List D) : f_can_be_sent [filmsD fs, rowD sent, .int i, .bl true] h = .ok (.bl (can fs sent i)) h := by
  obtain ⟨k1, k2, k3, k4, k5, k6, k7⟩ := kf
  refine run_ret (m := m_can_be_sent) ?_
  unfold m_can_be_sent startS filmsD
  have e1 : (fs.map Film.d)[i]? = some f.d := by rw [List.getElem?_map, hi]; rfl
  have lc : ∀ ρ : Sl, ρ[2]? = some (some (.int i)) → ρ.length = 9 → lcL (eNm 8) can_be_sent_t1 can_be_sent_e1 ρ (natsD sent) h = .ok (natsD (sent.filter fun (x : Nat) => decide ((x : Int) = (i : Int)))) h := fun ρ h2 hl => lcL_pure (enc := fun (x : Nat) => D.int x) (g := fun (x : Nat) => D.int x) fun x hx => by
    match ρ, hl, h2 with
    | [p0, p1, p2, p3, p4, p5, p6, p7, p8], _, h2 =>
      cases h2
      refine ⟨_, rfl, ?_, fun _ => ?_⟩
      · unfold can_be_sent_t1; simp
      · unfold can_be_sent_e1; simp
  have ek : ∃ kn : Nat, f.k = kn := ⟨f.k.toNat, by omega⟩
  obtain ⟨kn, ek⟩ := ek
  unfold can
  rw [hi]
  have e0 : f.k.toNat = kn := by omega
  simp only [e0]
  have cl : cutL (natsD sent) (some (max 0 ((sent.length : Int) - (kn : Int)))) none = natsD (sent.drop (sent.length - kn)) := by
    have e : max 0 ((sent.length : Int) - (kn : Int)) = ((sent.length - kn : Nat) : Int) := by omega
    rw [e, cutL_from, natsD_drop]
  simp [idx_tup e1, VL.bindG, gTu, gsC, gsN, gNm, Film.d, natsD_len, small (Nat.le_trans hl (by decide : 30 ≤ 30)), wipeS]
  by_cases c1 : f.a ≤ (sent.length : Int)
  · by_cases c2 : (sent.length : Int) ≤ f.b
    · simp [c1, c2, lc, natsD_len, filter_count]
      by_cases c3 : (sent.count i : Int) < f.r
      · have c3' : ¬ f.r ≤ (sent.count i : Int) := by omega
        simp [c3, c3']
        by_cases c4 : f.k = 0
        · simp [c4]
        · simp [c4, ek, max_ii, cl, natsD_len, notIn_tup_nats]
          have c5 : ¬ kn = 0 := by omega
          simp [c5]
      · have c3' : f.r ≤ (sent.count i : Int) := by omega
        simp [c3, c3']
    · simp [c1, c2]
  · simp [c1]
theorem film_at {fs : List Film} (k : okFilms fs) {i : Nat} (hi : i < fs.length) : ∃ f, fs[i]? = some f ∧ f.ok := ⟨fs[i], List.getElem?_eq_getElem hi, k.2.2 _ (List.getElem_mem hi)⟩
theorem filmsD_len {fs : List Film} : (fs.map Film.d).length = fs.length := List.length_map ..
theorem raw_free_ok {fs : List Film} (k : okFilms fs) {sent : List Nat} (hl : sent.length ≤ 30) (h : List D) : f_raw_free_films [filmsD fs, rowD sent, .bl true] h = .ok (.lst (natsD (free fs sent))) h := by
  refine run_ret (m := m_raw_free_films) ?_
  unfold m_raw_free_films startS filmsD
  have lc : ∀ ρ : Sl, ρ = [some (.tup (fs.map Film.d)), some (rowD sent), some (.bl true), none] → lcL (eNm 3) raw_free_films_t1 raw_free_films_e1 ρ ((List.range fs.length).map fun (i : Nat) => D.int i) h = .ok (natsD (free fs sent)) h := fun ρ e => by
    subst e
    refine lcL_pure (enc := fun (x : Nat) => D.int x) (g := fun (x : Nat) => D.int x) (p := can fs sent) fun i hi => ?_
    obtain ⟨f, e1, e2⟩ := film_at k (List.mem_range.mp hi)
    refine ⟨_, rfl, ?_, fun _ => ?_⟩
    · unfold raw_free_films_t1
      have := can_be_sent_ok e1 e2 hl h
      unfold filmsD at this
      simp [this]
    · unfold raw_free_films_e1; simp
  have k2 := k.2.1
  simp -implicitDefEqProofs [rng1_nat (show fs.length ≤ 1000000000 by omega), small k2, wipeS, lc]
def years (fs : List Film) : Nat → List (List Nat)
  | 0 => [[]]
  | k + 1 => (years fs k).flatMap fun r => (free fs r).map fun i => r ++ [i]
theorem free_len {fs : List Film} {r : List Nat} : (free fs r).length ≤ fs.length := by
  unfold free
  have := List.length_filter_le (can fs r) (List.range fs.length)
  rw [List.length_range] at this; exact this
theorem years_len {fs : List Film} {k : Nat} : ∀ r ∈ years fs k, r.length = k := by
  induction k with
  | zero => intro r h; unfold years at h; rw [List.mem_singleton.mp h]; rfl
  | succ k ih =>
    intro r h
    unfold years at h
    obtain ⟨q, h1, h2⟩ := List.mem_flatMap.mp h
    obtain ⟨i, h3, h4⟩ := List.mem_map.mp h2
    rw [← h4, List.length_append, ih q h1]; rfl
theorem flatMap_len {α β : Type} {f : α → List β} {n : Nat} (k : ∀ x, (f x).length ≤ n) : ∀ xs : List α, (xs.flatMap f).length ≤ n * xs.length
  | [] => by simp
  | x :: xs => by
    have := flatMap_len k xs
    have := k x
    rw [List.flatMap_cons, List.length_append, List.length_cons, Nat.mul_succ]; omega
theorem years_many {fs : List Film} (k : okFilms fs) (n : Nat) : (years fs n).length ≤ 4 ^ n := by
  induction n with
  | zero => exact Nat.le_refl _
  | succ n ih =>
    have := flatMap_len (f := fun r => (free fs r).map fun i => r ++ [i]) (n := 4) (fun r => by rw [List.length_map]; exact Nat.le_trans free_len k.2.1) (years fs n)
    show ((years fs n).flatMap _).length ≤ _
    rw [Nat.pow_succ]; omega
abbrev rowsD (rs : List (List Nat)) : List D := rs.map fun r => rowD r
theorem natsD_one (i : Nat) : natsD [i] = [.int i] := rfl
theorem all_years_ok {fs : List Film} (k : okFilms fs) {days : Nat} (hd : days ≤ 6) (h : List D) : f_all_years [filmsD fs, .int days, .bl true] h = .ok (.lst (rowsD (years fs days))) h := by
  refine run_ret (m := m_all_years) ?_
  unfold m_all_years startS
  have inner : ∀ (rows : List (List Nat)) (a4 a6 a7 : SV), (∀ r ∈ rows, r.length ≤ 6) → rows.length ≤ 4096 → ∃ b6 b7, forL (gNm 6) all_years_for1 (rowsD rows) [.sh (filmsD fs), .sh (.int days), .sh (.bl true), .sh (.lst (rowsD rows)), a4, .own (.lst []), a6, a7] h =
      .nx [.sh (filmsD fs), .sh (.int days), .sh (.bl true), .sh (.lst (rowsD rows)), a4, .own (.lst (rowsD (rows.flatMap fun r => (free fs r).map fun i => r ++ [i]))), b6, b7] h := by
    intro rows a4 a6 a7 hr hl
    obtain ⟨ρ1, h1, e1, e2, e3⟩ := forL_run (enc := fun r => rowD r) (gm := gNm 6) (b := all_years_for1)
      (R := fun rest ρ h' => h' = h ∧ ∃ done b6 b7, done ++ rest = rows ∧ ρ = [.sh (filmsD fs), .sh (.int days), .sh (.bl true), .sh (.lst (rowsD rows)), a4, .own (.lst (rowsD (done.flatMap fun r => (free fs r).map fun i => r ++ [i]))), b6, b7])
      (fun r rest ρ h' ⟨eh, done, b6, b7, ed, er⟩ => by
        subst eh er
        have hm : r ∈ rows := by rw [← ed]; simp
        have dl : done.length < rows.length := by rw [← ed]; simp
        have l1 := flatMap_len (f := fun r => (free fs r).map fun i => r ++ [i]) (n := 4) (fun r => by rw [List.length_map]; exact Nat.le_trans free_len k.2.1) done
        have l2 : (free fs r).length ≤ 4 := Nat.le_trans free_len k.2.1
        have fr := raw_free_ok k (Nat.le_trans (hr r hm) (by decide)) h'
        refine ⟨_, [.sh (filmsD fs), .sh (.int days), .sh (.bl true), .sh (.lst (rowsD rows)), a4, .own (.lst (rowsD ((done ++ [r]).flatMap fun r => (free fs r).map fun i => r ++ [i]))), .sh (rowD r), b7], _, rfl, ?_, rfl, done ++ [r], .sh (rowD r), b7, by rw [List.append_assoc]; exact ed, rfl⟩
        · unfold all_years_for1
          have lc : ∀ ρ : Sl, ρ[6]? = some (some (rowD r)) → ρ.length = 8 → lcL (eNm 7) yesM all_years_e1 ρ (natsD (free fs r)) h' = .ok (rowsD ((free fs r).map fun i => r ++ [i])) h' := fun ρ e1 e2 => by
            have := lcL_all (gm := eNm 7) (te := all_years_e1) (ρ := ρ) (enc := fun (x : Nat) => D.int x) (g := fun (x : Nat) => rowD (r ++ [x])) (h := h') (xs := free fs r) fun x hx => by
              match ρ, e1, e2 with
              | [p0, p1, p2, p3, p4, p5, p6, p7], e1, _ =>
                cases e1
                refine ⟨_, rfl, ?_⟩
                unfold all_years_e1
                have l3 := hr r hm
                have e4 : addD (.tup (natsD r)) (.tup [.int x]) = some (rowD (r ++ [x])) := by
                  show (if lenOk ((natsD r).length + [D.int x].length) = true then some (D.tup (natsD r ++ [D.int x])) else none) = _
                  rw [if_pos (by unfold lenOk; rw [natsD_len, sl24]; exact decide_eq_true (by simp; omega)), ← natsD_one, natsD_app]
                simp -implicitDefEqProofs [small (show 1 ≤ 1 by omega), e4]
            have e9 : rowsD ((free fs r).map fun i => r ++ [i]) = (free fs r).map fun x => rowD (r ++ [x]) := by rw [rowsD, List.map_map]; rfl
            rw [e9]; exact this
          simp -implicitDefEqProofs [owM, isTy, fr, small (show (natsD (free fs r)).length ≤ 4 by rw [natsD_len]; exact l2), wipeS, lc, extF, kDrop]
          rw [if_pos (by rw [sl24]; simp at l1 ⊢; omega)]
          )
      (xs := rows) (ρ := [.sh (filmsD fs), .sh (.int days), .sh (.bl true), .sh (.lst (rowsD rows)), a4, .own (.lst []), a6, a7]) (h := h) ⟨rfl, [], a6, a7, rfl, rfl⟩
    obtain ⟨done, b6, b7, ed, er⟩ := e3
    rw [List.append_nil] at ed
    subst e2 ed er
    exact ⟨b6, b7, e1⟩
  obtain ⟨ρ1, h1, e1, e2, n, b4, b5, b6, b7, en, er⟩ := forL_run (enc := fun (x : Nat) => D.int x) (gm := gNm 4) (b := all_years_for2)
    (R := fun rest ρ h' => h' = h ∧ ∃ n b4 b5 b6 b7, n + rest.length = days ∧ ρ = [.sh (filmsD fs), .sh (.int days), .sh (.bl true), .sh (.lst (rowsD (years fs n))), b4, b5, b6, b7])
    (fun x rest ρ h' ⟨eh, n, b4, b5, b6, b7, en, er⟩ => by
      subst eh er
      have nd : n < days := by rw [List.length_cons] at en; omega
      have l1 := years_many k n
      have l2 : 4 ^ n ≤ 4 ^ 5 := Nat.pow_le_pow_right (by decide) (by omega)
      obtain ⟨c6, c7, e5⟩ := inner (years fs n) (.sh (.int x)) b6 b7 (fun r hr => by rw [years_len r hr]; omega) (by omega)
      refine ⟨_, [.sh (filmsD fs), .sh (.int days), .sh (.bl true), .sh (.lst (rowsD (years fs (n + 1)))), .sh (.int x), .sh (.lst (rowsD (years fs (n + 1)))), c6, c7], _, rfl, ?_, rfl, n + 1, .sh (.int x), .sh (.lst (rowsD (years fs (n + 1)))), c6, c7, by rw [List.length_cons] at en; omega, rfl⟩
      unfold all_years_for2
      simp -implicitDefEqProofs [small (show 0 ≤ 1 by omega), e5, disE]
      rfl)
    (xs := List.range days) (ρ := [.sh (filmsD fs), .sh (.int days), .sh (.bl true), .sh (.lst (rowsD (years fs 0))), .un, .un, .un, .un]) (h := h) ⟨rfl, 0, .un, .un, .un, .un, by simp, rfl⟩
  subst e2 er
  have en' : n = days := by simpa using en
  subst en'
  have e1' : forL (gNm 4) all_years_for2 ((List.range n).map fun (i : Nat) => D.int i) [.sh (filmsD fs), .sh (.int n), .sh (.bl true), .sh (.lst [.tup []]), .un, .un, .un, .un] h1 = .nx [.sh (filmsD fs), .sh (.int n), .sh (.bl true), .sh (.lst (rowsD (years fs n))), b4, b5, b6, b7] h1 := e1
  simp -implicitDefEqProofs [small (show 0 ≤ 1 by omega), small (show 1 ≤ 1 by omega), rng1_nat (show n ≤ 1000000000 by omega), e1']
end K49

set_option Elab.async false
set_option linter.all false
set_option maxRecDepth 100000
set_option maxHeartbeats 1000000
namespace K49
open PySem PySem.Spec PyProof.Rows L2 VL
theorem years_many_ok {fs : List Film} (k : okFilms fs) {days : Nat} (d1 : 1 ≤ days) (d2 : days ≤ 6) (h : List D) : f_years_many [filmsD fs, .int days] h = .ok (.int (years fs days).length) h := by
  refine run_ret (m := m_years_many) ?_
  unfold m_years_many startS
  simp -implicitDefEqProofs [check_year_days_ok k (days := days) (by omega) (by omega) h, all_years_ok k d2 h, rowsD]
/-! ### the tree -/
def node (fs : List Film) : Nat → List Nat → D
  | 0, _ => .tup []
  | k + 1, r => .tup ((List.range fs.length).map fun i => if can fs r i then node fs k (r ++ [i]) else .non)
def deep (fs : List Film) : Nat → List Nat → Prop
  | 0, _ => False
  | k + 1, r => ∀ i, i < fs.length → can fs r i = true → deep fs k (r ++ [i])
theorem free_mem {fs : List Film} {r : List Nat} {i : Nat} (h : i < fs.length) : (i ∈ free fs r) ↔ can fs r i = true := by
  unfold free; rw [List.mem_filter, List.mem_range]; exact ⟨fun a => a.2, fun a => ⟨h, a⟩⟩
theorem deep_of {fs : List Film} : ∀ (k j : Nat) (r : List Nat), r ∈ years fs j → years fs (j + k) = [] → deep fs k r
  | 0, j, r, h, e => by rw [Nat.add_zero] at e; rw [e] at h; cases h
  | k + 1, j, r, h, e => fun i hi c => deep_of k (j + 1) (r ++ [i]) (List.mem_flatMap.mpr ⟨r, h, List.mem_map.mpr ⟨i, (free_mem hi).mpr c, rfl⟩⟩) (by rw [← e]; congr 1; omega)
theorem addT {r : List Nat} (l : r.length ≤ 100) (x : Nat) : addD (.tup (natsD r)) (.tup [.int x]) = some (rowD (r ++ [x])) := by
  show (if lenOk ((natsD r).length + [D.int x].length) = true then some (D.tup (natsD r ++ [D.int x])) else none) = _
  rw [if_pos (by unfold lenOk; rw [natsD_len, sl24]; exact decide_eq_true (by simp; omega)), ← natsD_one, natsD_app]
theorem year_node_ok {fs : List Film} (k : okFilms fs) {days : Nat} (h : List D) : ∀ (j : Nat) (r : List Nat), r.length + j ≤ 6 → deep fs j r → ∀ n, j ≤ n → f_year_node n [filmsD fs, .int days, rowD r] h = .ok (node fs j r) h
  | 0, r, l, hd, n, hn => hd.elim
  | j + 1, r, l, hd, n + 1, hn => by
    refine run_ret (m := m_year_node (f_year_node n)) ?_
    unfold m_year_node startS
    have ih := fun i hi c => year_node_ok k (days := days) h j (r ++ [i]) (by simp; omega) (hd i hi c) n (by omega)
    have fr := raw_free_ok k (sent := r) (by omega) h
    have lp : ∀ a5, ∃ b5, forL (gNm 5) (year_node_for1 (f_year_node n)) ((List.range fs.length).map fun (i : Nat) => D.int i) [.sh (filmsD fs), .sh (.int days), .sh (rowD r), .sh (.lst (natsD (free fs r))), .own (.lst []), a5] h =
        .nx [.sh (filmsD fs), .sh (.int days), .sh (rowD r), .sh (.lst (natsD (free fs r))), .own (.lst ((List.range fs.length).map fun i => if can fs r i then node fs j (r ++ [i]) else .non)), b5] h := by
      intro a5
      obtain ⟨ρ1, h1, e1, e2, e3⟩ := forL_run (enc := fun (x : Nat) => D.int x) (gm := gNm 5) (b := year_node_for1 (f_year_node n))
        (R := fun rest ρ h' => h' = h ∧ ∃ done b5, done ++ rest = List.range fs.length ∧ ρ = [.sh (filmsD fs), .sh (.int days), .sh (rowD r), .sh (.lst (natsD (free fs r))), .own (.lst (done.map fun i => if can fs r i then node fs j (r ++ [i]) else .non)), b5])
        (fun i rest ρ h' ⟨eh, done, b5, ed, er⟩ => by
          subst eh er
          have hm : i ∈ List.range fs.length := by rw [← ed]; simp
          have hi := List.mem_range.mp hm
          have dl : done.length < fs.length := by rw [← List.length_range (n := fs.length), ← ed]; simp
          have k2 := k.2.1
          refine ⟨_, [.sh (filmsD fs), .sh (.int days), .sh (rowD r), .sh (.lst (natsD (free fs r))), .own (.lst ((done ++ [i]).map fun i => if can fs r i then node fs j (r ++ [i]) else .non)), .sh (.int i)], _, rfl, ?_, rfl, done ++ [i], .sh (.int i), by rw [List.append_assoc]; exact ed, rfl⟩
          unfold year_node_for1
          by_cases c : can fs r i = true
          · simp -implicitDefEqProofs [owM, isTy, in_lst_nats, free_mem hi, c, small (show 1 ≤ 1 by omega), addT (show r.length ≤ 100 by omega), ih i hi c, appF, kDrop]
            rw [if_pos (by rw [sl24]; omega)]
          · simp -implicitDefEqProofs [owM, isTy, in_lst_nats, free_mem hi, c, appF, kDrop]
            rw [if_pos (by rw [sl24]; omega)])
        (xs := List.range fs.length) (ρ := [.sh (filmsD fs), .sh (.int days), .sh (rowD r), .sh (.lst (natsD (free fs r))), .own (.lst []), a5]) (h := h) ⟨rfl, [], a5, rfl, rfl⟩
      obtain ⟨done, b5, ed, er⟩ := e3
      rw [List.append_nil] at ed
      subst e2 ed er
      exact ⟨b5, e1⟩
    obtain ⟨b5, e5⟩ := lp .un
    have k2 := k.2.1
    unfold filmsD at fr e5 ⊢
    simp -implicitDefEqProofs [fr, small (show 0 ≤ 1 by omega), setsS, rng1_nat (show fs.length ≤ 1000000000 by omega)]
    simp -implicitDefEqProofs [e5, node]
/-! ### the law's own -/
theorem law_can_ok {fs : List Film} {sent : List Nat} {i : Nat} {f : Film} (hi : fs[i]? = some f) (kf : f.ok) (hl : sent.length ≤ 30) (h : List D) : f__law_can [filmsD fs, rowD sent, .int i] h = .ok (.bl (can fs sent i)) h := by
  obtain ⟨k1, k2, k3, k4, k5, k6, k7⟩ := kf
  refine run_ret (m := m__law_can) ?_
  unfold m__law_can startS filmsD
  have e1 : (fs.map Film.d)[i]? = some f.d := by rw [List.getElem?_map, hi]; rfl
  have lc : ∀ ρ : Sl, ρ[1]? = some (some (rowD sent)) → ρ[2]? = some (some (.int i)) → ρ[6]? = some (some (.int f.k)) → ρ.length = 8 → lcL (eNm 7) yesM law_can_e1 ρ ((List.range sent.length).map fun (i : Nat) => D.int i) h = .ok ((List.range sent.length).map fun (at' : Nat) => D.bl (decide (sent[at']? = some i) && decide ((sent.length : Int) - at' - 1 < f.k))) h := fun ρ h1 h2 h3 hl => lcL_all (enc := fun (x : Nat) => D.int x) (g := fun (at' : Nat) => D.bl (decide (sent[at']? = some i) && decide ((sent.length : Int) - at' - 1 < f.k))) fun x hx => by
    match ρ, hl, h1, h2, h3 with
    | [p0, p1, p2, p3, p4, p5, p6, p7], _, h1, h2, h3 =>
      cases h1; cases h2; cases h3
      refine ⟨_, rfl, ?_⟩
      unfold law_can_e1
      obtain ⟨y, hy⟩ : ∃ y, sent[x]? = some y := ⟨sent[x]'(List.mem_range.mp hx), List.getElem?_eq_getElem (List.mem_range.mp hx)⟩
      have c : decide ((y : Int) = (i : Int)) = decide (y = i) := by apply decide_eq_decide.mpr; omega
      simp -implicitDefEqProofs [idx_tup (natsD_get hy), hy, natsD_len, c]
      by_cases c : y = i <;> simp [c]
  simp -implicitDefEqProofs [idx_tup e1, VL.bindG, gTu, gsC, gsN, gNm, Film.d, natsD_len, small (Nat.le_trans hl (by decide : 30 ≤ 30)), wipeS, count_nats, rng1_nat (show sent.length ≤ 1000000000 by omega)]
  unfold can
  rw [hi]
  have hh : ((List.range sent.length).any fun (at' : Nat) => decide (sent[at']? = some i) && decide ((sent.length : Int) - at' - 1 < f.k)) = decide (i ∈ sent.drop (sent.length - f.k.toNat)) := by
    rw [Bool.eq_iff_iff, List.any_eq_true, decide_eq_true_iff]
    constructor
    · rintro ⟨x, hx, hc⟩
      rw [Bool.and_eq_true, decide_eq_true_iff, decide_eq_true_iff] at hc
      have hx := List.mem_range.mp hx
      refine List.mem_of_getElem? (i := x - (sent.length - f.k.toNat)) ?_
      rw [List.getElem?_drop, ← hc.1]; congr 1; omega
    · intro hm
      obtain ⟨j, hj⟩ := List.getElem?_of_mem hm
      rw [List.getElem?_drop] at hj
      have hlt := (List.getElem?_eq_some_iff.mp hj).1
      refine ⟨_, List.mem_range.mpr hlt, ?_⟩
      rw [hj, Bool.and_eq_true, decide_eq_true_iff, decide_eq_true_iff]
      exact ⟨rfl, by omega⟩
  have h0 : f.k = 0 → decide (i ∈ sent.drop (sent.length - f.k.toNat)) = false := fun e => by rw [e]; simp
  by_cases c1 : f.a ≤ (sent.length : Int)
  · by_cases c2 : (sent.length : Int) ≤ f.b
    · by_cases c3 : (sent.count i : Int) < f.r
      · have c3' : ¬ f.r ≤ (sent.count i : Int) := by omega
        simp -implicitDefEqProofs [c1, c2, c3, c3', lc, anyD_map, hh, natsD_len, small (Nat.le_trans hl (by decide : 30 ≤ 30)), wipeS, rng1_nat (show sent.length ≤ 1000000000 by omega)]
        by_cases c4 : f.k = 0
        · simp [c4]
        · simp [c4]
      · have c3' : f.r ≤ (sent.count i : Int) := by omega
        simp -implicitDefEqProofs [c1, c2, c3, c3']
    · simp -implicitDefEqProofs [c1, c2]
  · simp -implicitDefEqProofs [c1]
end K49

set_option Elab.async false
set_option linter.all false
set_option maxRecDepth 100000
set_option maxHeartbeats 1000000
namespace K49
open PySem PySem.Spec PyProof.Rows L2 VL
/-! ### the hand -/
def hs5 (cells : List Int) (a b c e : Int) : List D := [.lst (intsD cells), .int a, .int b, .int c, .int e]
def HS (h : List D) : Prop := ∃ cells a b c e, h = hs5 cells a b c e ∧ (∀ x ∈ cells, 0 ≤ x) ∧ 0 ≤ a ∧ 0 ≤ b ∧ 0 ≤ c ∧ 0 ≤ e
theorem hx0 {p q r s t : D} : idxD [p, q, r, s, t] .hand (.int 0) = some p := rfl
theorem hx1 {p q r s t : D} : idxD [p, q, r, s, t] .hand (.int 1) = some q := rfl
theorem hx2 {p q r s t : D} : idxD [p, q, r, s, t] .hand (.int 2) = some r := rfl
theorem hx3 {p q r s t : D} : idxD [p, q, r, s, t] .hand (.int 3) = some s := rfl
theorem hx4 {p q r s t : D} : idxD [p, q, r, s, t] .hand (.int 4) = some t := rfl
def putH (k : Int) (n : Int) (ρ : SEnv) (h : List D) : SOut := match ixN h.length k with
  | some j => .nx ρ (h.set j (.int n))
  | none => .stuck
def putD (k : Int) (x : D) (ρ : SEnv) (h : List D) : SOut := match x with
  | .int n => putH k n ρ h
  | _ => .stuck
theorem ev_setH {mv : EM D} {k : Int} {ρ : SEnv} {h : List D} : setHM 0 (cM (.int k)) mv (.sh .hand :: ρ) h = onE (mv (full (.sh .hand :: ρ)) h) (.sh .hand :: ρ) fun x h1 => putD k x (.sh .hand :: ρ) h1 := by
  show onE _ _ _ = _
  congr 1
  funext x h1
  cases x <;> rfl
theorem put1 {n : Int} {ρ : SEnv} {p q r s t : D} : putD 1 (.int n) ρ [p, q, r, s, t] = .nx ρ [p, .int n, r, s, t] := rfl
theorem put2 {n : Int} {ρ : SEnv} {p q r s t : D} : putD 2 (.int n) ρ [p, q, r, s, t] = .nx ρ [p, q, .int n, s, t] := rfl
theorem put3 {n : Int} {ρ : SEnv} {p q r s t : D} : putD 3 (.int n) ρ [p, q, r, s, t] = .nx ρ [p, q, r, .int n, t] := rfl
theorem put4 {n : Int} {ρ : SEnv} {p q r s t : D} : putD 4 (.int n) ρ [p, q, r, s, t] = .nx ρ [p, q, r, s, .int n] := rfl
theorem fdiv_sm {a b : Int} (h1 : 0 < b) (h2 : b ≤ 100000) : fdivD (.int a) (.int b) = some (.int (a / b)) := by
  refine fdiv_ii (decide_eq_true ⟨h1, ?_⟩)
  have : b.natAbs.log2 < 9000 := by
    by_cases z : b.natAbs = 0
    · rw [z]; decide
    · refine (Nat.log2_lt z).mpr ?_
      have : 100000 < 2 ^ 17 := by decide
      have h3 : (2 : Nat) ^ 17 ≤ 2 ^ 9000 := Nat.pow_le_pow_right (by decide) (by decide)
      omega
  exact this
theorem mul_sm {a b : Int} (h : (0 ≤ a ∧ a ≤ 4294967296) ∨ (0 ≤ b ∧ b ≤ 4294967296)) : mulI (.int a) (.int b) = some (.int (a * b)) := by
  refine mul_ii (decide_eq_true ?_)
  rcases h with h | h
  · left; omega
  · right; omega
theorem pow18 : powD (.int 10) (.int 18) = some (.int (10 ^ 18)) := by
  show (if powOk 10 18 = true then some (D.int (10 ^ (18 : Int).toNat)) else none) = _
  rw [if_pos (by decide)]; rfl
theorem mod_b (a : Int) {b : Int} (h : 0 < b) : 0 ≤ a % b ∧ a % b < b := ⟨Int.emod_nonneg _ (by omega), Int.emod_lt_of_pos _ h⟩
theorem idx_int {h : List D} {cells : List Int} {a : Int} (h0 : 0 ≤ a) (h1 : a < (cells.length : Int)) : ∃ x ∈ cells, idxD h (.lst (intsD cells)) (.int a) = some (.int x) := by
  obtain ⟨n, rfl⟩ : ∃ n : Nat, a = n := ⟨a.toNat, by omega⟩
  have hl : n < cells.length := by omega
  exact ⟨cells[n], List.getElem_mem hl, idx_lst (intsD_get (List.getElem?_eq_getElem hl))⟩
noncomputable def drawA : SM := ifSM (andM (tst (bin2 eqD (idxM (vM 0) (cM (.int 2))) (cM (.int 0)))) (tst (bin2 ltD (idxM (vM 0) (cM (.int 1))) (callM lenD (acM (idxM (vM 0) (cM (.int 0))) (anM)))))) (seqM (setM (gNm 2) (idxM (idxM (vM 0) (cM (.int 0))) (idxM (vM 0) (cM (.int 1))))) (seqM (setHM 0 (cM (.int 1)) (bin2 addD (idxM (vM 0) (cM (.int 1))) (cM (.int 1)))) (seqM (setHM 0 (cM (.int 3)) (bin2 modD (callM intD (acM (bin2 addD (bin2 addD (bin2 mulI (idxM (vM 0) (cM (.int 3))) (cM (.int 69621))) (vM 2)) (cM (.int 463))) (anM))) (cM (.int 2147483629)))) (ifSM (tst (bin2 geD (vM 2) (bin2 powD (cM (.int 10)) (cM (.int 18))))) (setHM 0 (cM (.int 2)) (vM 2)) (skipM))))) (skipM)
noncomputable def drawB : SM := seqM (ifSM (tst (bin2 gtD (idxM (vM 0) (cM (.int 2))) (cM (.int 0)))) (seqM (setM (gNm 3) (bin2 modD (callM intD (acM (idxM (vM 0) (cM (.int 2))) (anM))) (vM 1))) (seqM (setHM 0 (cM (.int 2)) (bin2 fdivD (idxM (vM 0) (cM (.int 2))) (vM 1))) (retM (vM 3)))) (skipM)) (seqM (setHM 0 (cM (.int 4)) (bin2 addD (idxM (vM 0) (cM (.int 4))) (cM (.int 1)))) (seqM (setM (gNm 4) (bin2 modD (callM intD (acM (bin2 mulI (callM intD (acM (bin2 addD (idxM (vM 0) (cM (.int 3))) (bin2 mulI (cM (.int 7919)) (idxM (vM 0) (cM (.int 4))))) (anM))) (cM (.int 48271))) (anM))) (cM (.int 2147483647)))) (seqM (setM (gNm 4) (bin2 modD (callM intD (acM (bin2 mulI (vM 4) (bin2 addD (bin2 fdivD (vM 4) (cM (.int 1009))) (cM (.int 69621)))) (anM))) (cM (.int 2147483647)))) (seqM (setM (gNm 4) (bin2 modD (callM intD (acM (bin2 mulI (vM 4) (bin2 addD (bin2 fdivD (vM 4) (cM (.int 2003))) (cM (.int 40692)))) (anM))) (cM (.int 2147483399)))) (retM (bin2 modD (callM intD (acM (bin2 fdivD (vM 4) (cM (.int 16))) (anM))) (vM 1)))))))
theorem draw_split : m__law_draw = seqM drawA drawB := by unfold m__law_draw drawA drawB; rfl
theorem drawA_ok {L : Int} {h : List D} (s : HS h) : ∃ s2 h', drawA [.sh .hand, .sh (.int L), .un, .un, .un] h = .nx [.sh .hand, .sh (.int L), s2, .un, .un] h' ∧ HS h' := by
  obtain ⟨cells, a, b, c, e, rfl, hc, ha, hb, hc', he⟩ := s
  unfold drawA
  by_cases c1 : b = 0
  · by_cases c2 : a < (cells.length : Int)
    · obtain ⟨x, hx, ex⟩ := idx_int (h := hs5 cells a b c e) ha c2
      have x0 := hc x hx
      have m1 := mod_b (c * 69621 + x + 463) (b := 2147483629) (by decide)
      by_cases c3 : 10 ^ 18 ≤ x
      · refine ⟨.sh (.int x), hs5 cells (a + 1) x ((c * 69621 + x + 463) % 2147483629) e, ?_, _, _, _, _, _, rfl, hc, by omega, x0, m1.1, he⟩
        unfold hs5 at ex ⊢
        have p18 : (10 : Int) ^ 18 = 1000000000000000000 := by decide
        rw [p18] at c3
        subst c1
        simp -implicitDefEqProofs [hx0, hx1, hx2, hx3, c2, intsD_len, ex, ev_setH, put1, put2, put3, mul_sm, mod_ii, pow18, c3]
      · refine ⟨.sh (.int x), hs5 cells (a + 1) b ((c * 69621 + x + 463) % 2147483629) e, ?_, _, _, _, _, _, rfl, hc, by omega, hb, m1.1, he⟩
        unfold hs5 at ex ⊢
        have p18 : (10 : Int) ^ 18 = 1000000000000000000 := by decide
        rw [p18] at c3
        subst c1
        simp -implicitDefEqProofs [hx0, hx1, hx2, hx3, c2, intsD_len, ex, ev_setH, put1, put2, put3, mul_sm, mod_ii, pow18, c3]
    · refine ⟨.un, _, ?_, cells, a, b, c, e, rfl, hc, ha, hb, hc', he⟩
      unfold hs5
      simp -implicitDefEqProofs [hx0, hx1, hx2, c1, c2, intsD_len]
  · refine ⟨.un, _, ?_, cells, a, b, c, e, rfl, hc, ha, hb, hc', he⟩
    unfold hs5
    simp -implicitDefEqProofs [hx2, c1]
theorem drawB_ok {L : Int} (l1 : 1 ≤ L) (l2 : L ≤ 100000) {s2 : SV} {h : List D} (s : HS h) : ∃ d h', drawB [.sh .hand, .sh (.int L), s2, .un, .un] h = .ret (.int d) h' ∧ 0 ≤ d ∧ d < L ∧ HS h' := by
  obtain ⟨cells, a, b, c, e, rfl, hc, ha, hb, hc', he⟩ := s
  unfold drawB
  have lp : 0 < L := by omega
  by_cases c1 : 0 < b
  · refine ⟨b % L, hs5 cells a (b / L) c e, ?_, (mod_b b lp).1, (mod_b b lp).2, cells, a, _, c, e, rfl, hc, ha, Int.ediv_nonneg hb (by omega), hc', he⟩
    unfold hs5
    simp -implicitDefEqProofs [hx2, ev_setH, put2, c1, mod_ii lp, fdiv_sm lp (by omega : L ≤ 100000)]
  · obtain ⟨n1, q1⟩ : ∃ n, n = (c + 7919 * (e + 1)) * 48271 % 2147483647 := ⟨_, rfl⟩
    have b1 := mod_b ((c + 7919 * (e + 1)) * 48271) (b := 2147483647) (by decide)
    rw [← q1] at b1
    obtain ⟨n2, q2⟩ : ∃ n, n = n1 * (n1 / 1009 + 69621) % 2147483647 := ⟨_, rfl⟩
    have b2 := mod_b (n1 * (n1 / 1009 + 69621)) (b := 2147483647) (by decide)
    rw [← q2] at b2
    obtain ⟨n3, q3⟩ : ∃ n, n = n2 * (n2 / 2003 + 40692) % 2147483399 := ⟨_, rfl⟩
    refine ⟨n3 / 16 % L, hs5 cells a b c (e + 1), ?_, (mod_b _ lp).1, (mod_b _ lp).2, cells, a, b, c, _, rfl, hc, ha, hb, hc', by omega⟩
    unfold hs5
    have x1 : mulI (.int 7919) (.int (e + 1)) = some (.int (7919 * (e + 1))) := mul_sm (Or.inl (by decide))
    have x2 : mulI (.int (c + 7919 * (e + 1))) (.int 48271) = some (.int ((c + 7919 * (e + 1)) * 48271)) := mul_sm (Or.inr (by decide))
    have x3 : mulI (.int n1) (.int (n1 / 1009 + 69621)) = some (.int (n1 * (n1 / 1009 + 69621))) := mul_sm (Or.inl (by omega))
    have x4 : mulI (.int n2) (.int (n2 / 2003 + 40692)) = some (.int (n2 * (n2 / 2003 + 40692))) := mul_sm (Or.inl (by omega))
    simp -implicitDefEqProofs [hx2, hx3, hx4, ev_setH, put4, c1, x1, x2, mod_ii, ← q1, x3, fdiv_sm, ← q2, x4, ← q3, lp]
theorem draw_ok {L : Int} (l1 : 1 ≤ L) (l2 : L ≤ 100000) {h : List D} (s : HS h) : ∃ d h', f__law_draw [.hand, .int L] h = .ok (.int d) h' ∧ 0 ≤ d ∧ d < L ∧ HS h' := by
  obtain ⟨s2, h1, e1, s1⟩ := drawA_ok (L := L) s
  obtain ⟨d, h2, e2, p⟩ := drawB_ok l1 l2 (s2 := s2) s1
  refine ⟨d, h2, run_ret (m := m__law_draw) ?_, p⟩
  rw [draw_split]
  show (drawA [.sh .hand, .sh (.int L), .un, .un, .un] h).bind drawB = _
  rw [e1]; exact e2
end K49

set_option Elab.async false
set_option linter.all false
set_option maxRecDepth 100000
set_option maxHeartbeats 1000000
namespace K49
open PySem PySem.Spec PyProof.Rows L2 VL
theorem some_lst {xs : List D} (h0 : 0 < xs.length) (h1 : xs.length ≤ 100000) {h : List D} (s : HS h) : ∃ d h', d ∈ xs ∧ f__law_some [.hand, .lst xs] h = .ok d h' ∧ HS h' := by
  obtain ⟨n, h', e, n0, n1, s'⟩ := draw_ok (L := xs.length) (by omega) (by omega) s
  obtain ⟨m, rfl⟩ : ∃ m : Nat, n = m := ⟨n.toNat, by omega⟩
  have hm : m < xs.length := by omega
  have ei : idxD h' (.lst xs) (.int m) = some xs[m] := idx_lst (List.getElem?_eq_getElem hm)
  refine ⟨xs[m], h', List.getElem_mem hm, run_ret (m := m__law_some) ?_, s'⟩
  unfold m__law_some startS
  simp -implicitDefEqProofs [e, ei]
/-! ### the world -/
theorem films_ok {m : Int} {days : Nat} (m1 : 1 ≤ m) (m2 : m ≤ 4) (d1 : 1 ≤ days) (d2 : days ≤ 6) {h : List D} (s : HS h) : ∃ fs h', f__law_films [.hand, .int m, .int days] h = .ok (filmsD fs) h' ∧ okFilms fs ∧ HS h' := by
  obtain ⟨n, h1, e1, n0, n1, s1⟩ := draw_ok (L := m) m1 (by omega) s
  obtain ⟨n, rfl⟩ : ∃ k : Nat, n = k := ⟨n.toNat, by omega⟩
  obtain ⟨ρ1, h2, e2, s2, fs, a4, a5, a6, l, ko, er⟩ := forL_run (enc := fun (x : Nat) => D.int x) (gm := gNm 4) (b := law_films_for1)
    (R := fun rest ρ h' => HS h' ∧ ∃ (fs : List Film) (a4 a5 a6 : SV), fs.length + rest.length = 1 + n ∧ (∀ f ∈ fs, f.ok) ∧ ρ = [.sh .hand, .sh (.int m), .sh (.int days), .own (.lst (fs.map Film.d)), a4, a5, a6])
    (fun x rest ρ h' ⟨sh, fs, a4, a5, a6, l, ko, er⟩ => by
      subst er
      obtain ⟨di, h3, hm, e3, s3⟩ := some_lst (xs := [.int 2, .int days]) (by simp) (by simp) sh
      have ed : ∃ dn : Int, 1 ≤ dn ∧ dn ≤ 6 ∧ di = .int dn := by
        simp only [List.mem_cons, List.not_mem_nil, or_false] at hm
        rcases hm with rfl | rfl
        · exact ⟨2, by decide, by decide, rfl⟩
        · exact ⟨days, by omega, by omega, rfl⟩
      obtain ⟨dn, dn1, dn2, rfl⟩ := ed
      obtain ⟨fa, h4, e4, fa0, fa1, s4⟩ := draw_ok (L := dn) dn1 (by omega) s3
      obtain ⟨fl, h5, e5, fl0, fl1, s5⟩ := draw_ok (L := (days : Int) + 1) (by omega) (by omega) s4
      obtain ⟨fr, h6, e6, fr0, fr1, s6⟩ := draw_ok (L := 4) (by decide) (by decide) s5
      obtain ⟨fz, h7, e7, fz0, fz1, s7⟩ := draw_ok (L := 5) (by decide) (by decide) s6
      obtain ⟨fk, h8, hk, e8, s8⟩ := some_lst (xs := [.int 0, .int 0, .int 1, .int fz]) (by simp) (by simp) s7
      have ek : ∃ k : Int, 0 ≤ k ∧ k ≤ 4 ∧ fk = .int k := by
        simp only [List.mem_cons, List.not_mem_nil, or_false] at hk
        rcases hk with rfl | rfl | rfl | rfl
        · exact ⟨0, by decide, by decide, rfl⟩
        · exact ⟨0, by decide, by decide, rfl⟩
        · exact ⟨1, by decide, by decide, rfl⟩
        · exact ⟨fz, by omega, by omega, rfl⟩
      obtain ⟨k, k0, k1, rfl⟩ := ek
      have mn : min 20 (fa + fl) = fa + fl := by omega
      refine ⟨_, [.sh .hand, .sh (.int m), .sh (.int days), .own (.lst ((fs ++ [Film.mk fa (fa + fl) (1 + fr) k]).map Film.d)), .sh (.int x), .sh (.int fa), .sh (.int (fa + fl))], h8, rfl, ?_, s8, fs ++ [Film.mk fa (fa + fl) (1 + fr) k], _, _, _, by simp at l ⊢; omega, ?_, rfl⟩
      · unfold law_films_for1
        simp -implicitDefEqProofs [e3, e4, e5, e6, e7, e8, small (show 2 ≤ 2 by omega), small (show 4 ≤ 4 by omega), min_ii, mn, owM, isTy, appF, kDrop]
        rw [if_pos (by rw [sl24]; simp at l; omega)]
        rfl
      · intro f hf
        rcases List.mem_append.mp hf with hf | hf
        · exact ko f hf
        · rw [List.mem_singleton.mp hf]
          refine ⟨?_, ?_, ?_, ?_, ?_, ?_, ?_⟩ <;> simp only <;> omega)
    (xs := List.range (1 + n)) (ρ := [.sh .hand, .sh (.int m), .sh (.int days), .own (.lst []), .un, .un, .un]) (h := h1) ⟨s1, [], .un, .un, .un, by simp, by simp, rfl⟩
  subst er
  have hl : fs.length = 1 + n := by simpa using l
  refine ⟨fs, h2, run_ret (m := m__law_films) ?_, ⟨by omega, by omega, ko⟩, s2⟩
  unfold m__law_films startS
  have c1 : (1 : Int) + (n : Int) = ((1 + n : Nat) : Int) := by omega
  have rg : rng1D [.int ((1 : Int) + (n : Int))] = some ((List.range (1 + n)).map fun (i : Nat) => D.int (i : Int)) := by rw [c1]; exact rng1_nat (by omega)
  simp -implicitDefEqProofs [e1, small (show 0 ≤ 1 by omega), rg, small (show 1 + n ≤ 5 by omega), e2, filmsD]
theorem world_ok {h : List D} (s : HS h) : ∃ (fs : List Film) (days : Nat) (h' : List D), f__law_world [.hand] h = .ok (.tup [filmsD fs, .int days]) h' ∧ okFilms fs ∧ 1 ≤ days ∧ days ≤ 6 ∧ HS h' := by
  obtain ⟨n, h1, e1, n0, n1, s1⟩ := draw_ok (L := 6) (by decide) (by decide) s
  obtain ⟨n, rfl⟩ : ∃ k : Nat, n = k := ⟨n.toNat, by omega⟩
  obtain ⟨di, h3, hm, e3, s3⟩ := some_lst (xs := [.int 2, .int 4]) (by simp) (by simp) s1
  have ed : ∃ dn : Int, 1 ≤ dn ∧ dn ≤ 4 ∧ di = .int dn := by
    simp only [List.mem_cons, List.not_mem_nil, or_false] at hm
    rcases hm with rfl | rfl
    · exact ⟨2, by decide, by decide, rfl⟩
    · exact ⟨4, by decide, by decide, rfl⟩
  obtain ⟨dn, dn1, dn2, rfl⟩ := ed
  have c1 : (1 : Int) + (n : Int) = ((1 + n : Nat) : Int) := by omega
  obtain ⟨fs, h4, e4, k4, s4⟩ := films_ok (days := 1 + n) dn1 dn2 (by omega) (by omega) s3
  refine ⟨fs, 1 + n, h4, run_ret (m := m__law_world) ?_, k4, by omega, by omega, s4⟩
  unfold m__law_world startS
  rw [← c1] at e4 ⊢
  simp -implicitDefEqProofs [e1, e3, e4, small (show 2 ≤ 2 by omega)]
/-! ### all years, by the law -/
theorem law_years_ok {fs : List Film} (k : okFilms fs) {days : Nat} (hd : days ≤ 6) (h : List D) : f__law_years [filmsD fs, .int days] h = .ok (.lst (rowsD (years fs days))) h := by
  refine run_ret (m := m__law_years) ?_
  unfold m__law_years startS
  have k2 := k.2.1
  have inner : ∀ (rows : List (List Nat)) (a3 a5 a6 : SV), (∀ r ∈ rows, r.length ≤ 6) → rows.length ≤ 4096 → ∃ b5 b6, forL (gNm 5) law_years_for1 (rowsD rows) [.sh (filmsD fs), .sh (.int days), .sh (.lst (rowsD rows)), a3, .own (.lst []), a5, a6] h =
      .nx [.sh (filmsD fs), .sh (.int days), .sh (.lst (rowsD rows)), a3, .own (.lst (rowsD (rows.flatMap fun r => (free fs r).map fun i => r ++ [i]))), b5, b6] h := by
    intro rows a3 a5 a6 hr hl
    obtain ⟨ρ1, h1, e1, e2, e3⟩ := forL_run (enc := fun r => rowD r) (gm := gNm 5) (b := law_years_for1)
      (R := fun rest ρ h' => h' = h ∧ ∃ done b5 b6, done ++ rest = rows ∧ ρ = [.sh (filmsD fs), .sh (.int days), .sh (.lst (rowsD rows)), a3, .own (.lst (rowsD (done.flatMap fun r => (free fs r).map fun i => r ++ [i]))), b5, b6])
      (fun r rest ρ h' ⟨eh, done, b5, b6, ed, er⟩ => by
        subst eh er
        have hm : r ∈ rows := by rw [← ed]; simp
        have dl : done.length < rows.length := by rw [← ed]; simp
        have l1 := flatMap_len (f := fun r => (free fs r).map fun i => r ++ [i]) (n := 4) (fun r => by rw [List.length_map]; exact Nat.le_trans free_len k2) done
        have l2 : (free fs r).length ≤ 4 := Nat.le_trans free_len k2
        have l3 := hr r hm
        refine ⟨_, [.sh (filmsD fs), .sh (.int days), .sh (.lst (rowsD rows)), a3, .own (.lst (rowsD ((done ++ [r]).flatMap fun r => (free fs r).map fun i => r ++ [i]))), .sh (rowD r), b6], _, rfl, ?_, rfl, done ++ [r], .sh (rowD r), b6, by rw [List.append_assoc]; exact ed, rfl⟩
        · unfold law_years_for1
          have lc : ∀ ρ : Sl, ρ[0]? = some (some (filmsD fs)) → ρ[5]? = some (some (rowD r)) → ρ.length = 7 → lcL (eNm 6) law_years_t1 law_years_e1 ρ ((List.range fs.length).map fun (i : Nat) => D.int i) h' = .ok (rowsD ((free fs r).map fun i => r ++ [i])) h' := fun ρ e0 e1 e2 => by
            have := lcL_pure (gm := eNm 6) (tt := law_years_t1) (te := law_years_e1) (ρ := ρ) (enc := fun (x : Nat) => D.int x) (g := fun (x : Nat) => rowD (r ++ [x])) (p := can fs r) (h := h') (xs := List.range fs.length) fun x hx => by
              match ρ, e0, e1, e2 with
              | [p0, p1, p2, p3, p4, p5, p6], e0, e1, _ =>
                cases e0; cases e1
                obtain ⟨f, g1, g2⟩ := film_at k (List.mem_range.mp hx)
                refine ⟨_, rfl, ?_, fun _ => ?_⟩
                · unfold law_years_t1
                  simp -implicitDefEqProofs [law_can_ok g1 g2 (show r.length ≤ 30 by omega) h']
                · unfold law_years_e1
                  simp -implicitDefEqProofs [small (show 1 ≤ 1 by omega), addT (show r.length ≤ 100 by omega)]
            have e9 : rowsD ((free fs r).map fun i => r ++ [i]) = (free fs r).map fun x => rowD (r ++ [x]) := by rw [rowsD, List.map_map]; rfl
            rw [e9]; exact this
          have lf : lenD [filmsD fs] = some (.int fs.length) := by unfold filmsD; rw [len_tup, filmsD_len]
          simp -implicitDefEqProofs [owM, isTy, lf, rng1_nat (show fs.length ≤ 1000000000 by omega), small (show fs.length ≤ 4 by omega), wipeS, lc, extF, kDrop]
          rw [if_pos (by rw [sl24]; simp at l1 ⊢; omega)]
          )
      (xs := rows) (ρ := [.sh (filmsD fs), .sh (.int days), .sh (.lst (rowsD rows)), a3, .own (.lst []), a5, a6]) (h := h) ⟨rfl, [], a5, a6, rfl, rfl⟩
    obtain ⟨done, b5, b6, ed, er⟩ := e3
    rw [List.append_nil] at ed
    subst e2 ed er
    exact ⟨b5, b6, e1⟩
  obtain ⟨ρ1, h1, e1, e2, n, b3, b4, b5, b6, en, er⟩ := forL_run (enc := fun (x : Nat) => D.int x) (gm := gNm 3) (b := law_years_for2)
    (R := fun rest ρ h' => h' = h ∧ ∃ n b3 b4 b5 b6, n + rest.length = days ∧ ρ = [.sh (filmsD fs), .sh (.int days), .sh (.lst (rowsD (years fs n))), b3, b4, b5, b6])
    (fun x rest ρ h' ⟨eh, n, b3, b4, b5, b6, en, er⟩ => by
      subst eh er
      have nd : n < days := by rw [List.length_cons] at en; omega
      have l1 := years_many k n
      have l2 : 4 ^ n ≤ 4 ^ 5 := Nat.pow_le_pow_right (by decide) (by omega)
      obtain ⟨c5, c6, e5⟩ := inner (years fs n) (.sh (.int x)) b5 b6 (fun r hr => by rw [years_len r hr]; omega) (by omega)
      refine ⟨_, [.sh (filmsD fs), .sh (.int days), .sh (.lst (rowsD (years fs (n + 1)))), .sh (.int x), .sh (.lst (rowsD (years fs (n + 1)))), c5, c6], _, rfl, ?_, rfl, n + 1, .sh (.int x), .sh (.lst (rowsD (years fs (n + 1)))), c5, c6, by rw [List.length_cons] at en; omega, rfl⟩
      unfold law_years_for2
      simp -implicitDefEqProofs [small (show 0 ≤ 1 by omega), e5, disE]
      rfl)
    (xs := List.range days) (ρ := [.sh (filmsD fs), .sh (.int days), .sh (.lst (rowsD (years fs 0))), .un, .un, .un, .un]) (h := h) ⟨rfl, 0, .un, .un, .un, .un, by simp, rfl⟩
  subst e2 er
  have en' : n = days := by simpa using en
  subst en'
  have e1' : forL (gNm 3) law_years_for2 ((List.range n).map fun (i : Nat) => D.int i) [.sh (filmsD fs), .sh (.int n), .sh (.lst [.tup []]), .un, .un, .un, .un] h1 = .nx [.sh (filmsD fs), .sh (.int n), .sh (.lst (rowsD (years fs n))), b3, b4, b5, b6] h1 := e1
  simp -implicitDefEqProofs [small (show 0 ≤ 1 by omega), small (show 1 ≤ 1 by omega), rng1_nat (show n ≤ 1000000000 by omega), e1']
end K49

set_option Elab.async false
set_option linter.all false
set_option maxRecDepth 100000
set_option maxHeartbeats 1000000
namespace K49
open PySem PySem.Spec PyProof.Rows L2 VL
theorem enumL_map {α : Type} (enc : α → D) (xs : List α) : enumL (xs.map enc) = xs.zipIdx.map fun p => D.tup [.int p.2, enc p.1] := by
  unfold enumL
  refine List.ext_getElem? fun i => ?_
  rw [List.getElem?_mapIdx, List.getElem?_map, List.getElem?_map, List.getElem?_zipIdx]
  cases xs[i]? <;> simp
theorem zip_at {α : Type} {xs : List α} {p : α × Nat} (h : p ∈ xs.zipIdx) : xs[p.2]? = some p.1 := List.mem_zipIdx_iff_getElem?.mp h
theorem zip_rng {α : Type} (xs : List α) : (List.range xs.length).map (fun (i : Nat) => D.int (i : Int)) = xs.zipIdx.map fun p => D.int (p.2 : Int) := by
  have e := List.zipIdx_map_snd 0 xs
  rw [← List.range_eq_range'] at e
  rw [← e, List.map_map]; rfl
theorem zip_len {α : Type} (xs : List α) : xs.zipIdx.length = xs.length := by simp
/-! ### rows that may be sent -/
def sentOk (fs : List Film) (r : List Nat) : Prop := ∀ j x, r[j]? = some x → x < fs.length ∧ can fs (r.take j) x = true
theorem sentOk_take {fs : List Film} {r : List Nat} (k : sentOk fs r) (n : Nat) : sentOk fs (r.take n) := fun j x h => by
  rw [List.getElem?_take] at h
  split at h
  · rename_i c
    have := k j x h
    rw [List.take_take, Nat.min_eq_left (by omega)]
    exact this
  · cases h
theorem years_sent {fs : List Film} {k : Nat} : ∀ r ∈ years fs k, sentOk fs r := by
  induction k with
  | zero => intro r h j x e; unfold years at h; rw [List.mem_singleton.mp h] at e; cases e
  | succ k ih =>
    intro r h j x e
    unfold years at h
    obtain ⟨q, h1, h2⟩ := List.mem_flatMap.mp h
    obtain ⟨i, h3, h4⟩ := List.mem_map.mp h2
    subst h4
    have hf := List.mem_filter.mp (show i ∈ List.filter _ _ from h3)
    rw [List.getElem?_append] at e
    split at e
    · rename_i c
      have := ih q h1 j x e
      rw [List.take_append_of_le_length (by omega)]
      exact this
    · rename_i c
      have hj : j - q.length = 0 := by
        cases z : j - q.length with
        | zero => rfl
        | succ n => rw [z] at e; cases e
      rw [hj] at e
      cases e
      have : j = q.length := by omega
      subst this
      rw [List.take_left' rfl]
      exact ⟨List.mem_range.mp hf.1, hf.2⟩
theorem is_sent_row_ok {fs : List Film} (k : okFilms fs) {r : List Nat} (s : sentOk fs r) {most : Nat} (hm : r.length ≤ most) (hr : most ≤ 30) (h : List D) : f_is_sent_row [filmsD fs, rowD r, .int most, .bl true] h = .ok (.bl true) h := by
  refine run_ret (m := m_is_sent_row) ?_
  unfold m_is_sent_row startS
  have lf : lenD [filmsD fs] = some (.int fs.length) := by unfold filmsD; rw [len_tup, filmsD_len]
  have l1 : ∀ ρ : Sl, ρ[0]? = some (some (filmsD fs)) → ρ.length = 6 → lcL (eNm 4) yesM is_sent_row_e1 ρ (natsD r) h = .ok (r.map fun _ => D.bl true) h := fun ρ h0 hl => lcL_all (enc := fun (x : Nat) => D.int x) (g := fun _ => D.bl true) fun x hx => by
    match ρ, hl, h0 with
    | [p0, p1, p2, p3, p4, p5], _, h0 =>
      cases h0
      refine ⟨_, rfl, ?_⟩
      obtain ⟨j, hj⟩ := List.getElem?_of_mem hx
      have := (s j x hj).1
      unfold is_sent_row_e1
      have c1 : (x : Int) ≤ (fs.length : Int) - 1 := by omega
      simp -implicitDefEqProofs [lf, is_within_int, c1]
  have l2 : ∀ ρ : Sl, ρ[0]? = some (some (filmsD fs)) → ρ[1]? = some (some (rowD r)) → ρ[3]? = some (some (.bl true)) → ρ.length = 6 → lcL (eTu 2 (esC (eNm 5) (esC (eNm 4) (esN)))) yesM is_sent_row_e2 ρ (enumL (natsD r)) h = .ok (r.zipIdx.map fun _ => D.bl true) h := fun ρ h0 h1 h3 hl => by
    unfold natsD
    rw [enumL_map]
    refine lcL_all (enc := fun (p : Nat × Nat) => D.tup [.int p.2, .int p.1]) (g := fun _ => D.bl true) fun p hp => ?_
    match ρ, hl, h0, h1, h3 with
    | [p0, p1, p2, p3, p4, p5], _, h0, h1, h3 =>
      cases h0; cases h1; cases h3
      refine ⟨[some (filmsD fs), some (rowD r), p2, some (.bl true), some (.int p.1), some (.int p.2)], rfl, ?_⟩
      have hx := zip_at hp
      obtain ⟨c1, c2⟩ := s p.2 p.1 hx
      obtain ⟨f, g1, g2⟩ := film_at k c1
      unfold is_sent_row_e2
      have lt : (r.take p.2).length ≤ 30 := by rw [List.length_take]; omega
      have cb := can_be_sent_ok g1 g2 lt h
      rw [c2] at cb
      simp -implicitDefEqProofs [cutL_to, natsD_take, cb]
  have c1 : ((r.length : Nat) : Int) ≤ (most : Int) := by omega
  have ea : (r.all fun _ => true) = true := by simp
  have eb : (r.zipIdx.all fun _ => true) = true := by simp
  have le : (enumL (natsD r)).length = r.length := by unfold natsD; rw [enumL_map, List.length_map, zip_len]
  simp -implicitDefEqProofs [is_sized_tup, natsD_len, c1, small (show r.length ≤ 30 by omega), wipeS, l1, l2, allD_map, le]
theorem check_sent_ok {fs : List Film} (k : okFilms fs) {r : List Nat} (s : sentOk fs r) (hm : r.length ≤ 20) (h : List D) : f_check_sent_films [filmsD fs, rowD r] h = .ok .non h := by
  refine run_nx (m := m_check_sent_films) (ρ := [.sh (filmsD fs), .sh (rowD r)]) ?_
  unfold m_check_sent_films startS
  have := is_sent_row_ok k s (most := 20) hm (by decide) h
  simp -implicitDefEqProofs [check_films_ok k, show f_is_sent_row [filmsD fs, rowD r, .int 20, .bl true] h = .ok (.bl true) h from this]
theorem is_year_ok {fs : List Film} (k : okFilms fs) {days : Nat} (d1 : 1 ≤ days) (d2 : days ≤ 6) {r : List Nat} (hr : r ∈ years fs days) (h : List D) : f_is_year [filmsD fs, .int days, rowD r] h = .ok (.bl true) h := by
  refine run_ret (m := m_is_year) ?_
  unfold m_is_year startS
  have l := years_len r hr
  simp -implicitDefEqProofs [check_year_days_ok k (days := days) (by omega) (by omega) h, is_sent_row_ok k (years_sent r hr) (most := days) (by omega) (by omega) h, natsD_len, l]
theorem free_films_ok {fs : List Film} (k : okFilms fs) {r : List Nat} (s : sentOk fs r) (hm : r.length ≤ 20) (h : List D) : f_free_films [filmsD fs, rowD r] h = .ok (rowD (free fs r)) h := by
  refine run_ret (m := m_free_films) ?_
  unfold m_free_films startS
  simp -implicitDefEqProofs [check_sent_ok k s hm, raw_free_ok k (show r.length ≤ 30 by omega)]
def leftD (fs : List Film) (r : List Nat) : List D := fs.zipIdx.map fun p => D.int (p.1.r - (r.count p.2 : Nat))
theorem runs_left_ok {fs : List Film} (k : okFilms fs) {r : List Nat} (s : sentOk fs r) (hm : r.length ≤ 20) (h : List D) : f_runs_left [filmsD fs, rowD r] h = .ok (.tup (leftD fs r)) h := by
  refine run_ret (m := m_runs_left) ?_
  unfold m_runs_left startS
  have cs := check_sent_ok k s hm h
  have k2 := k.2.1
  have lc : ∀ ρ : Sl, ρ[1]? = some (some (rowD r)) → ρ.length = 5 → lcL (eTu 2 (esC (eNm 2) (esC (eNm 3) (esN)))) yesM runs_left_e2 ρ (enumL (fs.map Film.d)) h = .ok (leftD fs r) h := fun ρ h1 hl => by
    rw [enumL_map]
    unfold leftD
    refine lcL_all (enc := fun (p : Film × Nat) => D.tup [.int p.2, p.1.d]) (g := fun p => D.int (p.1.r - (r.count p.2 : Nat))) fun p hp => ?_
    match ρ, hl, h1 with
    | [p0, p1, p2, p3, p4], _, h1 =>
      cases h1
      refine ⟨[p0, some (rowD r), some (.int p.2), some p.1.d, p4], rfl, ?_⟩
      unfold runs_left_e2
      have l3 : lcL (eNm 4) runs_left_t1 runs_left_e1 [p0, some (rowD r), some (.int p.2), some p.1.d, none] (natsD r) h = .ok (natsD (r.filter fun (x : Nat) => decide ((x : Int) = (p.2 : Int)))) h := lcL_pure (enc := fun (x : Nat) => D.int x) (g := fun (x : Nat) => D.int x) fun x hx => by
        refine ⟨_, rfl, ?_, fun _ => ?_⟩
        · unfold runs_left_t1; simp -implicitDefEqProofs
        · unfold runs_left_e1; simp -implicitDefEqProofs
      unfold Film.d at l3 ⊢
      simp -implicitDefEqProofs [ix4, natsD_len, small (show r.length ≤ 20 by omega), wipeS, l3, filter_count]
  have le : (enumL (fs.map Film.d)).length = fs.length := by rw [enumL_map, List.length_map, zip_len]
  unfold filmsD at cs ⊢
  simp -implicitDefEqProofs [cs, le, small (show fs.length ≤ 4 by omega), wipeS, lc]
end K49

set_option Elab.async false
set_option linter.all false
set_option maxRecDepth 100000
set_option maxHeartbeats 1000000
namespace K49
open PySem PySem.Spec PyProof.Rows L2 VL
/-! ### what the law takes as alike -/
def flat : Nat → D → Prop
  | 0, _ => False
  | _ + 1, .non => True
  | _ + 1, .bl _ => True
  | _ + 1, .int _ => True
  | _ + 1, .str _ => True
  | n + 1, .tup xs => xs.length ≤ 100000 ∧ ∀ x ∈ xs, flat n x
  | n + 1, .lst xs => xs.length ≤ 100000 ∧ ∀ x ∈ xs, flat n x
  | _ + 1, _ => False
theorem flat_up : ∀ {n : Nat} {d : D}, flat n d → flat (n + 1) d
  | 0, d, h => h.elim
  | n + 1, d, h => by
    cases d with
    | tup xs => exact ⟨h.1, fun x hx => flat_up (h.2 x hx)⟩
    | lst xs => exact ⟨h.1, fun x hx => flat_up (h.2 x hx)⟩
    | _ => first | trivial | exact h
theorem flat_le {n m : Nat} {d : D} (h : flat n d) (k : n ≤ m) : flat m d := by
  induction k with
  | refl => exact h
  | step _ ih => exact flat_up ih
theorem zip_self (xs : List D) : (xs.zip xs).map (fun p => D.tup [p.1, p.2]) = xs.map fun x => D.tup [x, x] := by
  induction xs with
  | nil => rfl
  | cons x xs ih => rw [List.zip_cons_cons, List.map_cons, List.map_cons, ih]
theorem eq_str {s : Str} : eqD (.str s) (.str s) = some (.bl true) := by
  have e : eqD (.str s) (.str s) = some (.bl (s == s)) := rfl
  rw [e]; simp
theorem eq_bl {a b : Bool} : eqD (.bl a) (.bl b) = some (.bl (decide (a = b))) := by cases a <;> cases b <;> rfl
theorem ne_bl {a b : Bool} : neD (.bl a) (.bl b) = some (.bl (!decide (a = b))) := by cases a <;> cases b <;> rfl
theorem law_is_ok : ∀ (n : Nat) (d : D) (h : List D), flat n d → f__law_is n [d, d] h = .ok (.bl true) h
  | 0, d, h, k => k.elim
  | n + 1, d, h, k => by
    refine run_ret (m := m__law_is (f__law_is n)) ?_
    unfold m__law_is startS
    cases d with
    | non => simp -implicitDefEqProofs [isPlain, isaB, isD]
    | bl b => simp -implicitDefEqProofs [isPlain, isaB, isD, eq_bl]
    | int i => simp -implicitDefEqProofs [isPlain, isaB, isD]
    | str s => simp -implicitDefEqProofs [isPlain, isaB, isD, eq_str]
    | tup xs =>
      have l : ∀ ρ : Sl, ρ.length = 4 → lcL (eTu 2 (esC (eNm 2) (esC (eNm 3) (esN)))) yesM (law_is_e1 (f__law_is n)) ρ (xs.map fun x => D.tup [x, x]) h = .ok (xs.map fun _ => D.bl true) h := fun ρ hl => lcL_all (enc := fun x => D.tup [x, x]) (g := fun _ => D.bl true) fun x hx => by
        match ρ, hl with
        | [p0, p1, p2, p3], _ =>
          refine ⟨[p0, p1, some x, some x], rfl, ?_⟩
          unfold law_is_e1
          simp -implicitDefEqProofs [law_is_ok n x h (k.2 x hx)]
      have z : zipD (.tup xs) (.tup xs) = some (xs.map fun x => D.tup [x, x]) := by unfold zipD; simp [zip_self]
      simp -implicitDefEqProofs [isPlain, isaB, ne_bl, z, small (Nat.le_trans k.1 (by decide : 100000 ≤ 100000)), wipeS, l, allD_map]
    | lst xs =>
      have l : ∀ ρ : Sl, ρ.length = 4 → lcL (eTu 2 (esC (eNm 2) (esC (eNm 3) (esN)))) yesM (law_is_e1 (f__law_is n)) ρ (xs.map fun x => D.tup [x, x]) h = .ok (xs.map fun _ => D.bl true) h := fun ρ hl => lcL_all (enc := fun x => D.tup [x, x]) (g := fun _ => D.bl true) fun x hx => by
        match ρ, hl with
        | [p0, p1, p2, p3], _ =>
          refine ⟨[p0, p1, some x, some x], rfl, ?_⟩
          unfold law_is_e1
          simp -implicitDefEqProofs [law_is_ok n x h (k.2 x hx)]
      have z : zipD (.lst xs) (.lst xs) = some (xs.map fun x => D.tup [x, x]) := by unfold zipD; simp [zip_self]
      simp -implicitDefEqProofs [isPlain, isaB, ne_bl, z, small (Nat.le_trans k.1 (by decide : 100000 ≤ 100000)), wipeS, l, allD_map]
    | _ => exact k.elim
theorem flat_nats {r : List Nat} (l : r.length ≤ 100000) : flat 2 (rowD r) := ⟨by rw [natsD_len]; exact l, fun x hx => by
  obtain ⟨i, _, rfl⟩ := List.mem_map.mp hx
  trivial⟩
theorem flat_node {fs : List Film} (k : okFilms fs) : ∀ (j : Nat) (r : List Nat), flat (j + 1) (node fs j r)
  | 0, r => ⟨by simp, fun x hx => by cases hx⟩
  | j + 1, r => ⟨by rw [List.length_map, List.length_range]; have := k.2.1; omega, fun x hx => by
    obtain ⟨i, hi, rfl⟩ := List.mem_map.mp hx
    by_cases c : can fs r i = true
    · rw [if_pos c]; exact flat_node k j _
    · rw [if_neg c]; trivial⟩
/-! ### the tree, by the law -/
theorem law_node_ok {fs : List Film} (k : okFilms fs) {days : Nat} (h : List D) : ∀ (j : Nat) (r : List Nat), r.length + j ≤ 6 → ∀ n, j + 1 ≤ n → f__law_node n [filmsD fs, .int days, rowD r, .int j] h = .ok (node fs j r) h
  | 0, r, l, n + 1, hn => by
    refine run_ret (m := m__law_node (f__law_node n)) ?_
    unfold m__law_node startS
    simp -implicitDefEqProofs [small (show 0 ≤ 1 by omega), node]
  | j + 1, r, l, n + 1, hn => by
    refine run_ret (m := m__law_node (f__law_node n)) ?_
    unfold m__law_node startS
    have ih := fun i => law_node_ok k (days := days) h j (r ++ [i]) (by simp; omega) n (by omega)
    have k2 := k.2.1
    have lp : ∀ a5 a6, ∃ b5 b6, forL (gNm 5) (law_node_for1 (f__law_node n)) ((List.range fs.length).map fun (i : Nat) => D.int i) [.sh (filmsD fs), .sh (.int days), .sh (rowD r), .sh (.int ((j : Int) + 1)), .own (.lst []), a5, a6] h =
        .nx [.sh (filmsD fs), .sh (.int days), .sh (rowD r), .sh (.int ((j : Int) + 1)), .own (.lst ((List.range fs.length).map fun i => if can fs r i then node fs j (r ++ [i]) else .non)), b5, b6] h := by
      intro a5 a6
      obtain ⟨ρ1, h1, e1, e2, e3⟩ := forL_run (enc := fun (x : Nat) => D.int x) (gm := gNm 5) (b := law_node_for1 (f__law_node n))
        (R := fun rest ρ h' => h' = h ∧ ∃ (done : List Nat) (b5 b6 : SV), done ++ rest = List.range fs.length ∧ ρ = [.sh (filmsD fs), .sh (.int days), .sh (rowD r), .sh (.int ((j : Int) + 1)), .own (.lst (done.map fun i => if can fs r i then node fs j (r ++ [i]) else .non)), b5, b6])
        (fun i rest ρ h' ⟨eh, done, b5, b6, ed, er⟩ => by
          subst eh er
          have hm : i ∈ List.range fs.length := by rw [← ed]; simp
          have hi := List.mem_range.mp hm
          have dl : done.length < fs.length := by rw [← List.length_range (n := fs.length), ← ed]; simp
          obtain ⟨f, g1, g2⟩ := film_at k hi
          have lc := law_can_ok g1 g2 (show r.length ≤ 30 by omega) h'
          refine ⟨_, [.sh (filmsD fs), .sh (.int days), .sh (rowD r), .sh (.int ((j : Int) + 1)), .own (.lst ((done ++ [i]).map fun i => if can fs r i then node fs j (r ++ [i]) else .non)), .sh (.int i), .sh (.bl (can fs r i))], _, rfl, ?_, rfl, done ++ [i], .sh (.int i), .sh (.bl (can fs r i)), by rw [List.append_assoc]; exact ed, rfl⟩
          unfold law_node_for1
          by_cases c : can fs r i = true
          · rw [c] at lc
            simp -implicitDefEqProofs [owM, isTy, lc, c, small (show 1 ≤ 1 by omega), addT (show r.length ≤ 100 by omega), ih i, appF, kDrop]
            rw [if_pos (by rw [sl24]; omega)]
          · have c' : can fs r i = false := by simpa using c
            rw [c'] at lc
            simp -implicitDefEqProofs [owM, isTy, lc, c', appF, kDrop]
            rw [if_pos (by rw [sl24]; omega)])
        (xs := List.range fs.length) (ρ := [.sh (filmsD fs), .sh (.int days), .sh (rowD r), .sh (.int ((j : Int) + 1)), .own (.lst []), a5, a6]) (h := h) ⟨rfl, [], a5, a6, rfl, rfl⟩
      obtain ⟨done, b5, b6, ed, er⟩ := e3
      rw [List.append_nil] at ed
      subst e2 ed er
      exact ⟨b5, b6, e1⟩
    obtain ⟨b5, b6, e5⟩ := lp .un .un
    have j0 : ¬ (j : Int) + 1 = 0 := by omega
    unfold filmsD at e5 ⊢
    simp -implicitDefEqProofs [small (show 0 ≤ 1 by omega), j0, rng1_nat (show fs.length ≤ 1000000000 by omega), e5, node]
/-! ### year_told -/
def toldD (fs : List Film) (days : Nat) : D := match years fs days with
  | r :: _ => .tup [.str (Str.ofString "year"), rowD r]
  | [] => .tup [.str (Str.ofString "tree"), node fs days []]
theorem year_told_ok {fs : List Film} (k : okFilms fs) {days : Nat} (d1 : 1 ≤ days) (d2 : days ≤ 6) (h : List D) : f_year_told [filmsD fs, .int days] h = .ok (toldD fs days) h := by
  refine run_ret (m := m_year_told) ?_
  unfold m_year_told startS
  have cy := check_year_days_ok k (days := days) (by omega) (by omega) h
  have ay := all_years_ok k d2 h
  unfold toldD
  cases e : years fs days with
  | nil =>
    rw [e] at ay
    have dp := deep_of days 0 [] (List.mem_singleton.mpr rfl) (by rw [Nat.zero_add]; exact e)
    have yn := year_node_ok k (days := days) h days [] (by simp; omega) dp 10 (by omega)
    simp -implicitDefEqProofs [cy, ay, small (show 0 ≤ 1 by omega), small (show 2 ≤ 2 by omega), show f_year_node 10 [filmsD fs, .int days, .tup []] h = _ from yn]
  | cons r rs =>
    rw [e] at ay
    have i0 : idxD h (.lst (rowsD (r :: rs))) (.int 0) = some (rowD r) := idx_lst (i := 0) rfl
    have i0' : idxD h (.lst (rowD r :: rowsD rs)) (.int 0) = some (rowD r) := i0
    have lp : (0 : Int) < (rs.length : Int) + 1 := by omega
    simp -implicitDefEqProofs [cy, ay, small (show 2 ≤ 2 by omega), i0', lp]
/-! ### sure days -/
def sureD (fs : List Film) (days : Nat) : D := match years fs days with
  | r :: rs => .tup (((List.range days).filter fun d => (r :: rs).all fun q => decide (q[d]? = r[d]?)).map fun (d : Nat) => D.tup [.int d, .int ((r[d]?.getD 0 : Nat) : Int)])
  | [] => .non
theorem sure_days_ok {fs : List Film} (k : okFilms fs) {days : Nat} (d1 : 1 ≤ days) (d2 : days ≤ 6) (h : List D) : f_sure_days [filmsD fs, .int days] h = .ok (sureD fs days) h := by
  refine run_ret (m := m_sure_days) ?_
  unfold m_sure_days startS
  have cy := check_year_days_ok k (days := days) (by omega) (by omega) h
  have ay := all_years_ok k d2 h
  have ym := years_many k days
  have yl := years_len (fs := fs) (k := days)
  have l2 : 4 ^ days ≤ 4 ^ 6 := Nat.pow_le_pow_right (by decide) (by omega)
  unfold sureD
  cases e : years fs days with
  | nil =>
    rw [e] at ay
    simp -implicitDefEqProofs [cy, ay]
  | cons r rs =>
    rw [e] at ay ym yl
    have i0 : idxD h (.lst (rowsD (r :: rs))) (.int 0) = some (rowD r) := idx_lst (i := 0) rfl
    have i0' : idxD h (.lst (rowD r :: rowsD rs)) (.int 0) = some (rowD r) := i0
    have lc : ∀ ρ : Sl, ρ[2]? = some (some (.lst (rowsD (r :: rs)))) → ρ.length = 5 → lcL (eNm 3) sure_days_t1 sure_days_e2 ρ ((List.range days).map fun (i : Nat) => D.int i) h = .ok (((List.range days).filter fun d => (r :: rs).all fun q => decide (q[d]? = r[d]?)).map fun (d : Nat) => D.tup [.int d, .int ((r[d]?.getD 0 : Nat) : Int)]) h := fun ρ h2 hl => lcL_pure (enc := fun (x : Nat) => D.int x) (g := fun (d : Nat) => D.tup [.int d, .int ((r[d]?.getD 0 : Nat) : Int)]) fun d hd => by
      match ρ, hl, h2 with
      | [p0, p1, p2, p3, p4], _, h2 =>
        cases h2
        have hd := List.mem_range.mp hd
        have hr : d < r.length := by rw [yl r List.mem_cons_self]; exact hd
        have er : r[d]? = some r[d] := List.getElem?_eq_getElem hr
        refine ⟨_, rfl, ?_, fun _ => ?_⟩
        · unfold sure_days_t1
          have lq : ∀ p4, lcL (eNm 4) yesM sure_days_e1 [p0, p1, some (.lst (rowsD (r :: rs))), some (.int d), p4] ((r :: rs).map fun q => rowD q) h = .ok ((r :: rs).map fun q => D.bl (decide (q[d]? = r[d]?))) h := fun p4 => lcL_all (enc := fun q => rowD q) (g := fun q => D.bl (decide (q[d]? = r[d]?))) fun q hq => by
            refine ⟨_, rfl, ?_⟩
            unfold sure_days_e1
            have hq' : d < q.length := by rw [yl q hq]; exact hd
            have eq : q[d]? = some q[d] := List.getElem?_eq_getElem hq'
            simp -implicitDefEqProofs [idx_tup (natsD_get eq), i0', idx_tup (natsD_get er), eq, er]
            by_cases c : q[d] = r[d]
            · simp [c]
            · have c' : ¬ (q[d] : Int) = (r[d] : Int) := by omega
              simp [c, c']
          have := lq none
          have ad := allD_map (fun q : List Nat => decide (q[d]? = r[d]?)) (r :: rs)
          have sz : sizeOk ((r :: rs).map fun q => rowD q).length = true := small (by rw [List.length_map]; omega) (m := 4096)
          rw [ev_tst, ev_call, ev_ac, ev_lc, ev_seqI]
          show asB ((((((Out.of (itemsD (.lst (rowsD (r :: rs)))) h).bind _).bind _)).bind _)) = _
          rw [items_lst, ev_ofs, ev_bok, if_pos sz]
          show asB ((((lcL (eNm 4) yesM sure_days_e1 [p0, p1, some (.lst (rowsD (r :: rs))), some (.int d), none] ((r :: rs).map fun q => rowD q) h).bind _).bind _).bind _) = _
          rw [this]
          show asB (Out.of (allD _) h) = _
          rw [ad]
          rfl
        · unfold sure_days_e2
          simp -implicitDefEqProofs [i0', idx_tup (natsD_get er), er, small (show 2 ≤ 2 by omega)]
    have n0 : (r :: rs).length ≠ 0 := by simp
    have ay' : f_all_years [filmsD fs, .int days, .bl true] h = .ok (.lst (rowsD (r :: rs))) h := ay
    dsimp only
    generalize r :: rs = rows at ay' n0 lc ⊢
    have ll : lenD [.lst (rowsD rows)] = some (.int rows.length) := by rw [len_lst]; simp
    have n1 : ¬ (rows.length : Int) = 0 := by omega
    have n2 : ¬ rows = [] := fun z => n0 (by rw [z]; rfl)
    simp -implicitDefEqProofs [cy, ay', ll, n1, n2, rng1_nat (show days ≤ 1000000000 by omega), small (show days ≤ 6 by omega), wipeS, lc]
end K49

set_option Elab.async false
set_option linter.all false
set_option maxRecDepth 100000
set_option maxHeartbeats 1000000
namespace K49
open PySem PySem.Spec PyProof.Rows L2 VL
/-! ### more may be sent with more runs -/
theorem filter_sub {α : Type} {p q : α → Bool} (k : ∀ x, p x = true → q x = true) : ∀ xs : List α, (xs.filter p).Sublist (xs.filter q)
  | [] => .slnil
  | x :: xs => by
    by_cases c : p x = true
    · rw [List.filter_cons_of_pos c, List.filter_cons_of_pos (k x c)]; exact (filter_sub k xs).cons_cons x
    · rw [List.filter_cons_of_neg c]
      by_cases d : q x = true
      · rw [List.filter_cons_of_pos d]; exact (filter_sub k xs).cons x
      · rw [List.filter_cons_of_neg d]; exact filter_sub k xs
theorem flatMap_sub {α β : Type} {f g : α → List β} (k : ∀ x, (f x).Sublist (g x)) {xs ys : List α} (s : xs.Sublist ys) : (xs.flatMap f).Sublist (ys.flatMap g) := by
  induction s with
  | slnil => exact .slnil
  | cons a _ ih => rw [List.flatMap_cons]; exact ih.trans (List.sublist_append_right _ _)
  | cons_cons a _ ih => rw [List.flatMap_cons, List.flatMap_cons]; exact (k a).append ih
theorem years_sub {fs gs : List Film} (hl : fs.length = gs.length) (k : ∀ r i, can fs r i = true → can gs r i = true) : ∀ n, (years fs n).Sublist (years gs n)
  | 0 => List.Sublist.refl _
  | n + 1 => flatMap_sub (fun r => by unfold free; rw [hl]; exact (filter_sub (k r) _).map _) (years_sub hl k n)
def Film.more (f : Film) : Film := ⟨f.a, f.b, min 4 (f.r + 1), max 0 (f.k - 1)⟩
theorem more_ok {f : Film} (k : f.ok) : f.more.ok := by
  obtain ⟨k1, k2, k3, k4, k5, k6, k7⟩ := k
  refine ⟨?_, ?_, ?_, ?_, ?_, ?_, ?_⟩ <;> simp only [Film.more] <;> omega
theorem can_more {fs : List Film} (k : okFilms fs) {j : Nat} {f : Film} (hj : fs[j]? = some f) (r : List Nat) (i : Nat) (c : can fs r i = true) : can (fs.set j f.more) r i = true := by
  have hl : j < fs.length := (List.getElem?_eq_some_iff.mp hj).1
  by_cases e : j = i
  · subst e
    have kf := k.2.2 f (List.mem_of_getElem? hj)
    obtain ⟨k1, k2, k3, k4, k5, k6, k7⟩ := kf
    have ga : f.more.a = f.a := rfl
    have gb : f.more.b = f.b := rfl
    have gr : f.r ≤ f.more.r := by show f.r ≤ min 4 (f.r + 1); omega
    have gk : f.more.k ≤ f.k := by show max 0 (f.k - 1) ≤ f.k; omega
    have gk0 : 0 ≤ f.more.k := by show 0 ≤ max 0 (f.k - 1); omega
    unfold can at c ⊢
    rw [hj] at c
    rw [List.getElem?_set_self hl]
    generalize f.more = g at *
    simp only [Bool.and_eq_true, Bool.or_eq_true, decide_eq_true_iff, Bool.not_eq_true', decide_eq_false_iff_not, ga, gb] at c ⊢
    obtain ⟨⟨c1, c2⟩, c3⟩ := c
    refine ⟨⟨c1, by omega⟩, ?_⟩
    rcases c3 with c3 | c3
    · left; omega
    · right
      intro hm
      refine c3 ?_
      have e1 : r.length - f.k.toNat ≤ r.length - g.k.toNat := by omega
      obtain ⟨d, hd⟩ := Nat.exists_eq_add_of_le e1
      rw [hd, ← List.drop_drop] at hm
      exact List.mem_of_mem_drop hm
  · unfold can at c ⊢
    rw [List.getElem?_set_ne e]; exact c
theorem more_films {fs : List Film} (k : okFilms fs) {j : Nat} {f : Film} (hj : fs[j]? = some f) : okFilms (fs.set j f.more) := by
  refine ⟨by rw [List.length_set]; exact k.1, by rw [List.length_set]; exact k.2.1, fun g hg => ?_⟩
  rcases List.mem_or_eq_of_mem_set hg with h | h
  · exact k.2.2 g h
  · rw [h]; exact more_ok (k.2.2 f (List.mem_of_getElem? hj))
/-! ### is_sent_right -/
theorem flat_left {fs : List Film} (k : okFilms fs) (r : List Nat) : flat 2 (.tup (leftD fs r)) := by
  refine ⟨?_, fun x hx => ?_⟩
  · unfold leftD; rw [List.length_map, zip_len]; have := k.2.1; omega
  · obtain ⟨p, _, rfl⟩ := List.mem_map.mp hx; trivial
theorem all_true {α : Type} (xs : List α) : allD [.lst (xs.map fun _ => D.bl true)] = some (.bl true) := by
  rw [allD_map (fun _ => true)]; simp
theorem sent_right_ok {fs : List Film} (k : okFilms fs) {days : Nat} (d1 : 1 ≤ days) (d2 : days ≤ 6) {h : List D} (s : HS h) : ∃ h', f__law_is_sent_right [.hand, filmsD fs, .lst (rowsD (years fs days)), .int days] h = .ok (.bl true) h' ∧ HS h' := by
  have k2 := k.2.1
  have ym := years_many k days
  have l2 : 4 ^ days ≤ 4 ^ 6 := Nat.pow_le_pow_right (by decide) (by omega)
  have hyr : ∀ r ∈ years fs days, r ∈ years fs days := fun _ z => z
  generalize hR : years fs days = rows at ym hyr ⊢
  have first : ∃ row h1, sentOk fs row ∧ row.length ≤ 6 ∧ HS h1 ∧ setM (gNm 4) (ifM (tst (bin2 gtD (callM lenD (acM (vM 2) (anM))) (cM (.int 0)))) (callF 2 (acM (vM 0) (acM (vM 2) (anM))) f__law_some) (tupM (anM))) [.sh .hand, .sh (filmsD fs), .sh (.lst (rowsD rows)), .sh (.int days), .un, .un, .un, .un, .un, .un] h = .nx [.sh .hand, .sh (filmsD fs), .sh (.lst (rowsD rows)), .sh (.int days), .sh (rowD row), .un, .un, .un, .un, .un] h1 := by
    by_cases c : 0 < rows.length
    · obtain ⟨d, h1, hd, e1, s1⟩ := some_lst (xs := rowsD rows) (by simpa using c) (by simp; omega) s
      obtain ⟨row, hr, rfl⟩ := List.mem_map.mp hd
      have hr' : row ∈ years fs days := by rw [hR]; exact hr
      refine ⟨row, h1, years_sent row hr', by rw [years_len row hr']; exact d2, s1, ?_⟩
      have c' : (0 : Int) < (rows.length : Int) := by omega
      simp -implicitDefEqProofs [c, c', e1]
    · refine ⟨[], h, fun j x z => by (cases z), by simp, s, ?_⟩
      have c' : ¬ (0 : Int) < (rows.length : Int) := by omega
      simp -implicitDefEqProofs [c, c', small (show 0 ≤ 1 by omega)]
      rfl
  obtain ⟨row, h1, so, rl, s1, e1⟩ := first
  obtain ⟨n, h2, e2, n0, n1, s2⟩ := draw_ok (L := (row.length : Int) + 1) (by omega) (by omega) s1
  obtain ⟨n, rfl⟩ : ∃ m : Nat, n = m := ⟨n.toNat, by omega⟩
  have st := sentOk_take so n
  obtain ⟨sent, hs⟩ : ∃ q, q = row.take n := ⟨_, rfl⟩
  rw [← hs] at st
  have sl : sent.length ≤ 6 := by rw [hs, List.length_take]; omega
  refine ⟨h2, run_ret (m := m__law_is_sent_right) ?_, s2⟩
  have lf : lenD [filmsD fs] = some (.int fs.length) := by unfold filmsD; rw [len_tup, filmsD_len]
  have lc1 : ∀ ρ : Sl, ρ[1]? = some (some (filmsD fs)) → ρ[5]? = some (some (rowD sent)) → ρ.length = 10 → lcL (eNm 8) law_is_sent_right_t1 law_is_sent_right_e1 ρ ((List.range fs.length).map fun (i : Nat) => D.int i) h2 = .ok (natsD (free fs sent)) h2 := fun ρ e0 e5 el => lcL_pure (enc := fun (x : Nat) => D.int x) (g := fun (x : Nat) => D.int x) (p := can fs sent) fun i hi => by
    match ρ, el, e0, e5 with
    | [p0, p1, p2, p3, p4, p5, p6, p7, p8, p9], _, e0, e5 =>
      cases e0; cases e5
      obtain ⟨f, g1, g2⟩ := film_at k (List.mem_range.mp hi)
      refine ⟨_, rfl, ?_, fun _ => ?_⟩
      · unfold law_is_sent_right_t1
        simp -implicitDefEqProofs [law_can_ok g1 g2 (show sent.length ≤ 30 by omega) h2]
      · unfold law_is_sent_right_e1; simp -implicitDefEqProofs
  have lc2 : ∀ ρ : Sl, ρ[1]? = some (some (filmsD fs)) → ρ[5]? = some (some (rowD sent)) → ρ.length = 10 → lcL (eNm 8) yesM law_is_sent_right_e2 ρ ((List.range fs.length).map fun (i : Nat) => D.int i) h2 = .ok (leftD fs sent) h2 := fun ρ e0 e5 el => by
    rw [zip_rng]
    unfold leftD
    refine lcL_all (enc := fun (p : Film × Nat) => D.int p.2) (g := fun (p : Film × Nat) => D.int (p.1.r - (sent.count p.2 : Nat))) fun p hp => ?_
    match ρ, el, e0, e5 with
    | [p0, p1, p2, p3, p4, p5, p6, p7, p8, p9], _, e0, e5 =>
      cases e0; cases e5
      refine ⟨_, rfl, ?_⟩
      unfold law_is_sent_right_e2 filmsD
      have e1 : (fs.map Film.d)[p.2]? = some p.1.d := by rw [List.getElem?_map, zip_at hp]; rfl
      simp -implicitDefEqProofs [idx_tup e1, show idxD h2 p.1.d (.int 2) = some (.int p.1.r) from rfl, count_nats]
  have lc3 : ∀ ρ : Sl, ρ[1]? = some (some (filmsD fs)) → ρ[3]? = some (some (.int days)) → ρ.length = 10 → lcL (eNm 9) yesM law_is_sent_right_e3 ρ (rowsD (rows.take 4)) h2 = .ok ((rows.take 4).map fun _ => D.bl true) h2 := fun ρ e0 e3 el => lcL_all (enc := fun q => rowD q) (g := fun _ => D.bl true) fun q hq => by
    match ρ, el, e0, e3 with
    | [p0, p1, p2, p3, p4, p5, p6, p7, p8, p9], _, e0, e3 =>
      cases e0; cases e3
      refine ⟨_, rfl, ?_⟩
      unfold law_is_sent_right_e3
      have hq' : q ∈ years fs days := by rw [hR]; exact List.mem_of_mem_take hq
      simp -implicitDefEqProofs [is_year_ok k d1 d2 hq' h2]
  have ff := free_films_ok k st (by omega) h2
  have rf := runs_left_ok k st (by omega) h2
  have i1 := law_is_ok 20 (rowD (free fs sent)) h2 (flat_le (flat_nats (by have := free_len (fs := fs) (r := sent); omega)) (by decide))
  have i2 := law_is_ok 20 (.tup (leftD fs sent)) h2 (flat_le (flat_left k sent) (by decide))
  have c4 : cutL (rowsD rows) none (some 4) = rowsD (rows.take 4) := by
    have := cutL_to (rowsD rows) 4
    rw [show ((4 : Nat) : Int) = 4 from rfl] at this
    rw [this]; simp only [rowsD, List.map_take]
  have c5 : cutL (natsD row) none (some (n : Int)) = natsD sent := by rw [cutL_to, natsD_take, hs]
  have st4 : sizeOk (rowsD (rows.take 4)).length = true := small (m := 4) (by rw [List.length_map, List.length_take]; omega)
  have st5 : sizeOk (min 4 rows.length) = true := small (m := 4) (by omega)
  unfold m__law_is_sent_right
  rw [ev_seq]
  show ((setM (gNm 4) _) [.sh .hand, .sh (filmsD fs), .sh (.lst (rowsD rows)), .sh (.int days), .un, .un, .un, .un, .un, .un] h).bind _ = _
  rw [e1, ev_bnx]
  simp -implicitDefEqProofs [e2, natsD_len, c5, lf, rng1_nat (show fs.length ≤ 1000000000 by omega), small (show fs.length ≤ 4 by omega), wipeS, lc1, ff, i1, lc2, rf, i2, c4, st4, st5, lc3, all_true, ← List.map_take]
end K49

set_option Elab.async false
set_option linter.all false
set_option maxRecDepth 100000
set_option maxHeartbeats 1000000
namespace K49
open PySem PySem.Spec PyProof.Rows L2 VL
theorem flat_told {fs : List Film} (k : okFilms fs) {days : Nat} (d2 : days ≤ 6) : flat 20 (toldD fs days) := by
  unfold toldD
  cases e : years fs days with
  | nil =>
    refine ⟨by simp, fun x hx => ?_⟩
    simp only [List.mem_cons, List.not_mem_nil, or_false] at hx
    rcases hx with rfl | rfl
    · trivial
    · exact flat_le (flat_node k days []) (show days + 1 ≤ 19 by omega)
  | cons r rs =>
    refine ⟨by simp, fun x hx => ?_⟩
    simp only [List.mem_cons, List.not_mem_nil, or_false] at hx
    rcases hx with rfl | rfl
    · trivial
    · exact flat_le (flat_nats (by rw [years_len r (by rw [e]; exact List.mem_cons_self)]; omega)) (by decide)
theorem flat_sure {fs : List Film} (days : Nat) (d2 : days ≤ 6) : flat 20 (sureD fs days) := by
  unfold sureD
  cases e : years fs days with
  | nil => trivial
  | cons r rs =>
    refine ⟨?_, fun x hx => ?_⟩
    · rw [List.length_map]
      have := List.length_filter_le (fun d => (r :: rs).all fun q => decide (q[d]? = r[d]?)) (List.range days)
      rw [List.length_range] at this
      omega
    · obtain ⟨d, _, rfl⟩ := List.mem_map.mp hx
      refine ⟨by simp, fun y hy => ?_⟩
      simp only [List.mem_cons, List.not_mem_nil, or_false] at hy
      rcases hy with rfl | rfl <;> trivial
theorem addTup {xs ys : List D} (l : xs.length + ys.length ≤ 100000) : addD (.tup xs) (.tup ys) = some (.tup (xs ++ ys)) := by
  show (if lenOk (xs.length + ys.length) = true then some (D.tup (xs ++ ys)) else none) = _
  rw [if_pos (by unfold lenOk; rw [sl24]; exact decide_eq_true (by omega))]
theorem is_right_ok {h : List D} (s : HS h) : ∃ h', f__law_is_right [.hand] h = .ok (.bl true) h' ∧ HS h' := by
  obtain ⟨fs, days, h1, e1, k, d1, d2, s1⟩ := world_ok s
  obtain ⟨h2, e2, s2⟩ := sent_right_ok k d1 d2 s1
  have k1 := k.1
  have k2 := k.2.1
  obtain ⟨j, h3, e3, j0, j1, s3⟩ := draw_ok (L := (fs.length : Int)) (by omega) (by omega) s2
  obtain ⟨j, rfl⟩ : ∃ m : Nat, j = m := ⟨j.toNat, by omega⟩
  have jl : j < fs.length := by omega
  obtain ⟨f, g1, g2⟩ := film_at k jl
  refine ⟨h3, run_ret (m := m__law_is_right) ?_, s3⟩
  have lf : lenD [filmsD fs] = some (.int fs.length) := by unfold filmsD; rw [len_tup, filmsD_len]
  have ym := years_many k days
  have yl := years_len (fs := fs) (k := days)
  have l2 : 4 ^ days ≤ 4 ^ 6 := Nat.pow_le_pow_right (by decide) (by omega)
  have ly := law_years_ok k d2 h1
  have yt := year_told_ok k d1 d2 h1
  have ymn := years_many_ok k d1 d2 h1
  have sd := sure_days_ok k d1 d2 h1
  have i1 := law_is_ok 20 (toldD fs days) h1 (flat_told k d2)
  have i2 := law_is_ok 20 (.int ((years fs days).length : Nat)) h1 trivial
  have i3 := law_is_ok 20 (sureD fs days) h1 (flat_sure days d2)
  have mk := more_films k g1
  have ymore := years_many_ok mk d1 d2 h3
  have sub := (years_sub (fs := fs) (gs := fs.set j f.more) (by rw [List.length_set]) (can_more k g1) days).length_le
  have ef : idxD h3 (filmsD fs) (.int j) = some f.d := by unfold filmsD; exact idx_tup (by rw [List.getElem?_map, g1]; rfl)
  have cf : cutD (filmsD fs) none (some (j : Int)) = some (filmsD (fs.take j)) := by unfold filmsD; rw [cut_tup, cutL_to, List.map_take]
  have ct : cutD (filmsD fs) (some ((j : Int) + 1)) none = some (filmsD (fs.drop (j + 1))) := by
    unfold filmsD; rw [cut_tup]
    have := cutL_from (fs.map Film.d) (j + 1)
    rw [show ((j + 1 : Nat) : Int) = (j : Int) + 1 by omega] at this
    rw [this, List.map_drop]
  have a1 : addD (filmsD (fs.take j)) (.tup [f.more.d]) = some (filmsD (fs.take j ++ [f.more])) := by
    unfold filmsD; rw [addTup (by simp; omega)]; simp
  have a2 : addD (filmsD (fs.take j ++ [f.more])) (filmsD (fs.drop (j + 1))) = some (filmsD (fs.set j f.more)) := by
    unfold filmsD; rw [addTup (by simp; omega), List.set_eq_take_append_cons_drop, if_pos jl]; simp
  have fd : (D.tup [.int f.a, .int f.b, .int (min 4 (f.r + 1)), .int (max 0 (f.k - 1))]) = f.more.d := rfl
  have bt : ∀ x, bindG (gTu 4 (gsC (gNm 8) (gsC (gNm 9) (gsC (gNm 10) (gsC (gNm 11) (gsN)))))) f.d x h3 = .nx ((((x.set 8 (.sh (.int f.a))).set 9 (.sh (.int f.b))).set 10 (.sh (.int f.r))).set 11 (.sh (.int f.k))) h3 := fun x => rfl
  have bw : ∀ x, bindG (gTu 2 (gsC (gNm 1) (gsC (gNm 2) (gsN)))) (.tup [filmsD fs, .int days]) x h1 = .nx ((x.set 1 (.sh (filmsD fs))).set 2 (.sh (.int days))) h1 := fun x => rfl
  unfold m__law_is_right startS
  by_cases c : years fs days = []
  · have nd := law_node_ok k (days := days) h1 days [] (by simp; omega) 10 (by omega)
    have tl : toldD fs days = .tup [.str (Str.ofString "tree"), node fs days []] := by unfold toldD; rw [c]
    have sl : sureD fs days = .non := by unfold sureD; rw [c]
    rw [c] at ly i2 ymn e2 sub
    rw [tl] at yt i1
    rw [sl] at sd i3
    have nd' : f__law_node 10 [filmsD fs, .int days, .tup [], .int days] h1 = .ok (node fs days []) h1 := nd
    have ly' : f__law_years [filmsD fs, .int days] h1 = .ok (.lst []) h1 := ly
    have e2' : f__law_is_sent_right [.hand, filmsD fs, .lst [], .int days] h1 = .ok (.bl true) h2 := e2
    have i2' : f__law_is 20 [.int 0, .int 0] h1 = .ok (.bl true) h1 := i2
    have ymn' : f_years_many [filmsD fs, .int days] h1 = .ok (.int 0) h1 := ymn
    simp -implicitDefEqProofs [e1, bw, ly', yt, nd', small (show 0 ≤ 1 by omega), small (show 2 ≤ 2 by omega), small (show 1 ≤ 2 by omega), small (show 4 ≤ 4 by omega), i1, i2', ymn', sd, i3, e2', lf, e3, ef, bt, cf, ct, min_ii, max_ii, fd, a1, a2, ymore]
  · obtain ⟨r, rs, er⟩ : ∃ r rs, years fs days = r :: rs := by
      cases z : years fs days with
      | nil => exact (c z).elim
      | cons r rs => exact ⟨r, rs, rfl⟩
    have tl : toldD fs days = .tup [.str (Str.ofString "year"), rowD r] := by unfold toldD; rw [er]
    have sl : sureD fs days = .tup (((List.range days).filter fun d => (years fs days).all fun q => decide (q[d]? = r[d]?)).map fun (d : Nat) => D.tup [.int d, .int ((r[d]?.getD 0 : Nat) : Int)]) := by unfold sureD; rw [er]
    have i0 : ∀ h, idxD h (.lst (rowsD (years fs days))) (.int 0) = some (rowD r) := fun h => by rw [er]; exact idx_lst (i := 0) rfl
    have hr : r ∈ years fs days := by rw [er]; exact List.mem_cons_self
    rw [tl] at yt i1
    rw [sl] at sd i3
    generalize years fs days = rows at *
    have n1 : 0 < rows.length := List.length_pos_iff.mpr c
    have n2 : (0 : Int) < (rows.length : Int) := by omega
    have lc : ∀ ρ : Sl, ρ[3]? = some (some (.lst (rowsD rows))) → ρ.length = 15 → lcL (eNm 13) law_is_right_t1 law_is_right_e2 ρ ((List.range days).map fun (i : Nat) => D.int i) h1 = .ok (((List.range days).filter fun d => rows.all fun q => decide (q[d]? = r[d]?)).map fun (d : Nat) => D.tup [.int d, .int ((r[d]?.getD 0 : Nat) : Int)]) h1 := fun ρ h2 hl => lcL_pure (enc := fun (x : Nat) => D.int x) (g := fun (d : Nat) => D.tup [.int d, .int ((r[d]?.getD 0 : Nat) : Int)]) fun d hd => by
      match ρ, hl, h2 with
      | [p0, p1, p2, p3, p4, p5, p6, p7, p8, p9, p10, p11, p12, p13, p14], _, h2 =>
        cases h2
        have hd := List.mem_range.mp hd
        have hrl : d < r.length := by rw [yl r hr]; exact hd
        have er : r[d]? = some r[d] := List.getElem?_eq_getElem hrl
        refine ⟨_, rfl, ?_, fun _ => ?_⟩
        · unfold law_is_right_t1
          have lq : ∀ p14, lcL (eNm 14) yesM law_is_right_e1 [p0, p1, p2, some (.lst (rowsD rows)), p4, p5, p6, p7, p8, p9, p10, p11, p12, some (.int d), p14] (rows.map fun q => rowD q) h1 = .ok (rows.map fun q => D.bl (decide (q[d]? = r[d]?))) h1 := fun p4 => lcL_all (enc := fun q => rowD q) (g := fun q => D.bl (decide (q[d]? = r[d]?))) fun q hq => by
            refine ⟨_, rfl, ?_⟩
            unfold law_is_right_e1
            have hq' : d < q.length := by rw [yl q hq]; exact hd
            have eq : q[d]? = some q[d] := List.getElem?_eq_getElem hq'
            simp -implicitDefEqProofs [idx_tup (natsD_get eq), i0, idx_tup (natsD_get er), eq, er]
            by_cases c : q[d] = r[d]
            · simp [c]
            · have c' : ¬ (q[d] : Int) = (r[d] : Int) := by omega
              simp [c, c']
          have := lq none
          have ad := allD_map (fun q : List Nat => decide (q[d]? = r[d]?)) rows
          simp -implicitDefEqProofs [small (show rows.length ≤ 4096 by omega), wipeS, lq, ad]
        · unfold law_is_right_e2
          simp -implicitDefEqProofs [i0, idx_tup (natsD_get er), er, small (show 2 ≤ 2 by omega)]
    simp -implicitDefEqProofs [e1, bw, ly, yt, i0, c, n1, n2, small (show 0 ≤ 1 by omega), small (show 2 ≤ 2 by omega), small (show 1 ≤ 2 by omega), small (show 4 ≤ 4 by omega), i1, i2, ymn, rng1_nat (show days ≤ 1000000000 by omega), small (show days ≤ 6 by omega), wipeS, lc, sd, i3, e2, lf, e3, ef, bt, cf, ct, min_ii, max_ii, fd, a1, a2, ymore]
    omega
end K49

set_option Elab.async false
set_option linter.all false
set_option maxRecDepth 100000
set_option maxHeartbeats 1000000
namespace K49
open PySem PySem.Spec PyProof.Rows L2 VL
def fs1 : List Film := [⟨0, 2, 2, 1⟩, ⟨1, 2, 1, 0⟩]
def fs2 : List Film := [⟨0, 2, 3, 1⟩]
theorem ok1 : okFilms fs1 := ⟨by decide, by decide, fun f h => by
  simp only [fs1, List.mem_cons, List.not_mem_nil, or_false] at h
  rcases h with rfl | rfl <;> (refine ⟨?_, ?_, ?_, ?_, ?_, ?_, ?_⟩ <;> decide)⟩
theorem ok2 : okFilms fs2 := ⟨by decide, by decide, fun f h => by
  simp only [fs2, List.mem_cons, List.not_mem_nil, or_false] at h
  subst h
  refine ⟨?_, ?_, ?_, ?_, ?_, ?_, ?_⟩ <;> decide⟩
theorem y1 : years fs1 3 = [[0, 1, 0]] := by decide
theorem y2 : years fs2 2 = [] := by decide
theorem so1 : sentOk fs1 [0, 1] := fun j x h => by
  match j, h with
  | 0, h => cases h; exact ⟨by decide, by decide⟩
  | 1, h => cases h; exact ⟨by decide, by decide⟩
theorem law_ok {h : List D} (s : HS h) : ∃ h', m_law (lawS 4) h = .ret (.bl true) h' := by
  have t1 := year_told_ok ok1 (days := 3) (by decide) (by decide) h
  have t2 := years_many_ok ok1 (days := 3) (by decide) (by decide) h
  have t3 := sure_days_ok ok1 (days := 3) (by decide) (by decide) h
  have t4 := year_told_ok ok2 (days := 2) (by decide) (by decide) h
  have t5 := free_films_ok ok1 (r := [0]) (sentOk_take so1 1) (by decide) h
  have t6 := runs_left_ok ok1 (r := [0, 1]) so1 (by decide) h
  have q1 : toldD fs1 3 = .tup [.str (Str.ofString "year"), .tup [.int 0, .int 1, .int 0]] := by unfold toldD; rw [y1]; rfl
  have q3 : sureD fs1 3 = .tup [.tup [.int 0, .int 0], .tup [.int 1, .int 1], .tup [.int 2, .int 0]] := by unfold sureD; rw [y1]; rfl
  have q4 : toldD fs2 2 = .tup [.str (Str.ofString "tree"), .tup [.tup [.non]]] := by unfold toldD; rw [y2]; rfl
  have q5 : free fs1 [0] = [1] := by decide
  have q6 : leftD fs1 [0, 1] = [.int 1, .int 0] := by rfl
  rw [y1] at t2
  rw [q1] at t1
  rw [q3] at t3
  rw [q4] at t4
  rw [q5] at t5
  rw [q6] at t6
  obtain ⟨ys, h', e, sh, l, py⟩ := lcL_hand (gm := eNm 3) (te := law_e1) (ρ := [none, some .hand, some (filmsD fs1), none]) (S := HS) (P := fun y => y = .bl true) (ds := (List.range 6).map fun (i : Nat) => D.int i) s fun d hd h s => by
    obtain ⟨h1, e1, s1⟩ := is_right_ok s
    refine ⟨_, .bl true, h1, rfl, ?_, rfl, s1⟩
    unfold law_e1
    simp -implicitDefEqProofs [e1]
  have ey : ys = (List.range 6).map fun _ => D.bl true := by
    refine List.ext_getElem (by rw [l]; simp) fun i h1 h2 => ?_
    rw [py _ (List.getElem_mem h1)]; simp
  have n1 : neD (.tup [.str (Str.ofString "year"), .tup [.int 0, .int 1, .int 0]]) (.tup [.str (Str.ofString "year"), .tup [.int 0, .int 1, .int 0]]) = some (.bl false) := by rfl
  have n3 : neD (.tup [.tup [.int 0, .int 0], .tup [.int 1, .int 1], .tup [.int 2, .int 0]]) (.tup [.tup [.int 0, .int 0], .tup [.int 1, .int 1], .tup [.int 2, .int 0]]) = some (.bl false) := by rfl
  have n4 : neD (.tup [.str (Str.ofString "tree"), .tup [.tup [.non]]]) (.tup [.str (Str.ofString "tree"), .tup [.tup [.non]]]) = some (.bl false) := by rfl
  have n5 : neD (.tup [.int 1]) (.tup [.int 1]) = some (.bl false) := by rfl
  have n6 : neD (.tup [.int 1, .int 0]) (.tup [.int 1, .int 0]) = some (.bl false) := by rfl
  have r6 : rng1D [.int 6] = some ((List.range 6).map fun (i : Nat) => D.int i) := rng1_nat (n := 6) (by decide)
  have at6 : allD [.lst ys] = some (.bl true) := by rw [ey]; exact all_true _
  have f1 : filmsD fs1 = .tup [.tup [.int 0, .int 2, .int 2, .int 1], .tup [.int 1, .int 2, .int 1, .int 0]] := rfl
  have f2 : filmsD fs2 = .tup [.tup [.int 0, .int 2, .int 3, .int 1]] := rfl
  rw [f1] at t1 t2 t3 t5 t6 e
  rw [f2] at t4
  have t1' : f_year_told [.tup [.tup [.int 0, .int 2, .int 2, .int 1], .tup [.int 1, .int 2, .int 1, .int 0]], .int 3] h = _ := t1
  have t2' : f_years_many [.tup [.tup [.int 0, .int 2, .int 2, .int 1], .tup [.int 1, .int 2, .int 1, .int 0]], .int 3] h = .ok (.int 1) h := t2
  have t3' : f_sure_days [.tup [.tup [.int 0, .int 2, .int 2, .int 1], .tup [.int 1, .int 2, .int 1, .int 0]], .int 3] h = _ := t3
  have t4' : f_year_told [.tup [.tup [.int 0, .int 2, .int 3, .int 1]], .int 2] h = _ := t4
  have t5' : f_free_films [.tup [.tup [.int 0, .int 2, .int 2, .int 1], .tup [.int 1, .int 2, .int 1, .int 0]], .tup [.int 0]] h = .ok (.tup [.int 1]) h := t5
  have t6' : f_runs_left [.tup [.tup [.int 0, .int 2, .int 2, .int 1], .tup [.int 1, .int 2, .int 1, .int 0]], .tup [.int 0, .int 1]] h = .ok (.tup [.int 1, .int 0]) h := t6
  refine ⟨h', ?_⟩
  unfold m_law lawS
  simp -implicitDefEqProofs [small (show 0 ≤ 4 by omega), small (show 1 ≤ 4 by omega), small (show 2 ≤ 4 by omega), small (show 3 ≤ 4 by omega), small (show 4 ≤ 4 by omega), small (show 6 ≤ 6 by omega), List.replicate, t1', t2', t3', t4', t5', t6', n1, n3, n4, n5, n6, r6, wipeS, e, at6]
theorem hand_ok : ∀ ns : List Int, ns.length ≤ 63 → ∃ (cells rest : List Int), f__law_hand [.scr (intsD ns)] [] = .ok (.lst (.lst (intsD cells) :: intsD rest)) [] ∧ ∃ h, m_law (lawS 4) (.lst (intsD cells) :: intsD rest) = .ret (.bl true) h := by
  intro ns hn
  refine ⟨ns.map fun i => if i < 0 then -i else i, [0, 0, 373 + (ns.length : Int), 0], run_ret (m := m__law_hand) ?_, law_ok ⟨_, _, _, _, _, rfl, fun x hx => ?_, by decide, by decide, by omega, by decide⟩⟩
  · unfold m__law_hand startS
    have lc : ∀ ρ : Sl, ρ.length = 3 → lcL (eNm 2) yesM law_hand_e1 ρ (intsD ns) [] = .ok (intsD (ns.map fun i => if i < 0 then -i else i)) [] := fun ρ hl => by
      have := lcL_all (gm := eNm 2) (te := law_hand_e1) (ρ := ρ) (enc := fun (i : Int) => D.int i) (g := fun (i : Int) => D.int (if i < 0 then -i else i)) (h := []) (xs := ns) fun i hi => by
        match ρ, hl with
        | [p0, p1, p2], _ =>
          refine ⟨_, rfl, ?_⟩
          unfold law_hand_e1
          simp -implicitDefEqProofs [absD]
      unfold intsD; rw [List.map_map]; exact this
    have cs : cutD (.scr (intsD ns)) none (some 63) = some (.lst (intsD ns)) := by
      have := cutL_to (intsD ns) 63
      rw [show ((63 : Nat) : Int) = 63 from rfl, List.take_of_length_le (by rw [intsD_len]; exact hn)] at this
      show some (D.lst (cutL (intsD ns) none (some 63))) = _
      rw [this]
    simp -implicitDefEqProofs [cs, intsD_len, small (show ns.length ≤ 63 by omega), wipeS, lc, small (show 5 ≤ 5 by omega)]
    rfl
  · obtain ⟨i, _, rfl⟩ := List.mem_map.mp hx
    by_cases c : i < 0 <;> simp [c] <;> omega
end K49

set_option Elab.async false
set_option linter.all false
set_option maxRecDepth 100000
set_option maxHeartbeats 4000000
namespace K49
open PySem PySem.Spec PyProof.Rows L2 VL
theorem all_mk {l : PySem.W.OpenLaw} {w : World} {K : PySem.W.Frag} {h : Heap} {mg : Str → Option Value} {fa : Addr} (X : K.In h) (G : h.Ns mainGlobals mg) (hfa : mg "law" = some (.ref fa))
    {a_is_integer : Addr} {od_is_integer an_is_integer : Option Addr} {sl_is_integer : Array (Option Value)} {oc_is_integer kV_is_integer dc_is_integer pm_is_integer cd_is_integer ct_is_integer : Value} (q1_is_integer : PySem.W.nsIn K mainGlobals "is_integer" = some (some (.ref a_is_integer))) (q2_is_integer : K.lookup a_is_integer = some ⟨oc_is_integer, od_is_integer, .func (PySem.W.fnOf "is_integer" "is_integer" (defArgs (topS 1)) (defBody (topS 1)) (defScope (topS 1)) .none kV_is_integer dc_is_integer pm_is_integer an_is_integer cd_is_integer ct_is_integer), sl_is_integer⟩) (q3_is_integer : PySem.W.codeIn K cd_is_integer "is_integer" = true) (q4_is_integer : PySem.W.keepIn K (.ref a_is_integer) = true)
    {a_is_within : Addr} {od_is_within an_is_within : Option Addr} {sl_is_within : Array (Option Value)} {oc_is_within kV_is_within dc_is_within pm_is_within cd_is_within ct_is_within : Value} (q1_is_within : PySem.W.nsIn K mainGlobals "is_within" = some (some (.ref a_is_within))) (q2_is_within : K.lookup a_is_within = some ⟨oc_is_within, od_is_within, .func (PySem.W.fnOf "is_within" "is_within" (defArgs (topS 2)) (defBody (topS 2)) (defScope (topS 2)) .none kV_is_within dc_is_within pm_is_within an_is_within cd_is_within ct_is_within), sl_is_within⟩) (q3_is_within : PySem.W.codeIn K cd_is_within "is_within" = true) (q4_is_within : PySem.W.keepIn K (.ref a_is_within) = true)
    {a_is_sized : Addr} {od_is_sized an_is_sized : Option Addr} {sl_is_sized : Array (Option Value)} {oc_is_sized kV_is_sized dc_is_sized pm_is_sized cd_is_sized ct_is_sized : Value} (q1_is_sized : PySem.W.nsIn K mainGlobals "is_sized" = some (some (.ref a_is_sized))) (q2_is_sized : K.lookup a_is_sized = some ⟨oc_is_sized, od_is_sized, .func (PySem.W.fnOf "is_sized" "is_sized" (defArgs (topS 3)) (defBody (topS 3)) (defScope (topS 3)) .none kV_is_sized dc_is_sized pm_is_sized an_is_sized cd_is_sized ct_is_sized), sl_is_sized⟩) (q3_is_sized : PySem.W.codeIn K cd_is_sized "is_sized" = true) (q4_is_sized : PySem.W.keepIn K (.ref a_is_sized) = true)
    {a_is_film : Addr} {od_is_film an_is_film : Option Addr} {sl_is_film : Array (Option Value)} {oc_is_film kV_is_film dc_is_film pm_is_film cd_is_film ct_is_film : Value} (q1_is_film : PySem.W.nsIn K mainGlobals "is_film" = some (some (.ref a_is_film))) (q2_is_film : K.lookup a_is_film = some ⟨oc_is_film, od_is_film, .func (PySem.W.fnOf "is_film" "is_film" (defArgs (topS 17)) (defBody (topS 17)) (defScope (topS 17)) .none kV_is_film dc_is_film pm_is_film an_is_film cd_is_film ct_is_film), sl_is_film⟩) (q3_is_film : PySem.W.codeIn K cd_is_film "is_film" = true) (q4_is_film : PySem.W.keepIn K (.ref a_is_film) = true)
    {a_are_films : Addr} {od_are_films an_are_films : Option Addr} {sl_are_films : Array (Option Value)} {oc_are_films kV_are_films dc_are_films pm_are_films cd_are_films ct_are_films : Value} (q1_are_films : PySem.W.nsIn K mainGlobals "are_films" = some (some (.ref a_are_films))) (q2_are_films : K.lookup a_are_films = some ⟨oc_are_films, od_are_films, .func (PySem.W.fnOf "are_films" "are_films" (defArgs (topS 18)) (defBody (topS 18)) (defScope (topS 18)) .none kV_are_films dc_are_films pm_are_films an_are_films cd_are_films ct_are_films), sl_are_films⟩) (q3_are_films : PySem.W.codeIn K cd_are_films "are_films" = true) (q4_are_films : PySem.W.keepIn K (.ref a_are_films) = true)
    {a_check_films : Addr} {od_check_films an_check_films : Option Addr} {sl_check_films : Array (Option Value)} {oc_check_films kV_check_films dc_check_films pm_check_films cd_check_films ct_check_films : Value} (q1_check_films : PySem.W.nsIn K mainGlobals "check_films" = some (some (.ref a_check_films))) (q2_check_films : K.lookup a_check_films = some ⟨oc_check_films, od_check_films, .func (PySem.W.fnOf "check_films" "check_films" (defArgs (topS 19)) (defBody (topS 19)) (defScope (topS 19)) .none kV_check_films dc_check_films pm_check_films an_check_films cd_check_films ct_check_films), sl_check_films⟩) (q3_check_films : PySem.W.codeIn K cd_check_films "check_films" = true) (q4_check_films : PySem.W.keepIn K (.ref a_check_films) = true)
    {a_check_year_days : Addr} {od_check_year_days an_check_year_days : Option Addr} {sl_check_year_days : Array (Option Value)} {oc_check_year_days kV_check_year_days dc_check_year_days pm_check_year_days cd_check_year_days ct_check_year_days : Value} (q1_check_year_days : PySem.W.nsIn K mainGlobals "check_year_days" = some (some (.ref a_check_year_days))) (q2_check_year_days : K.lookup a_check_year_days = some ⟨oc_check_year_days, od_check_year_days, .func (PySem.W.fnOf "check_year_days" "check_year_days" (defArgs (topS 20)) (defBody (topS 20)) (defScope (topS 20)) .none kV_check_year_days dc_check_year_days pm_check_year_days an_check_year_days cd_check_year_days ct_check_year_days), sl_check_year_days⟩) (q3_check_year_days : PySem.W.codeIn K cd_check_year_days "check_year_days" = true) (q4_check_year_days : PySem.W.keepIn K (.ref a_check_year_days) = true)
    {a_can_be_sent : Addr} {od_can_be_sent an_can_be_sent : Option Addr} {sl_can_be_sent : Array (Option Value)} {oc_can_be_sent kV_can_be_sent dc_can_be_sent pm_can_be_sent cd_can_be_sent ct_can_be_sent : Value} (q1_can_be_sent : PySem.W.nsIn K mainGlobals "can_be_sent" = some (some (.ref a_can_be_sent))) (q2_can_be_sent : K.lookup a_can_be_sent = some ⟨oc_can_be_sent, od_can_be_sent, .func (PySem.W.fnOf "can_be_sent" "can_be_sent" (defArgs (topS 21)) (defBody (topS 21)) (defScope (topS 21)) .none kV_can_be_sent dc_can_be_sent pm_can_be_sent an_can_be_sent cd_can_be_sent ct_can_be_sent), sl_can_be_sent⟩) (q3_can_be_sent : PySem.W.codeIn K cd_can_be_sent "can_be_sent" = true) (q4_can_be_sent : PySem.W.keepIn K (.ref a_can_be_sent) = true)
    {a_raw_free_films : Addr} {od_raw_free_films an_raw_free_films : Option Addr} {sl_raw_free_films : Array (Option Value)} {oc_raw_free_films kV_raw_free_films dc_raw_free_films pm_raw_free_films cd_raw_free_films ct_raw_free_films : Value} (q1_raw_free_films : PySem.W.nsIn K mainGlobals "raw_free_films" = some (some (.ref a_raw_free_films))) (q2_raw_free_films : K.lookup a_raw_free_films = some ⟨oc_raw_free_films, od_raw_free_films, .func (PySem.W.fnOf "raw_free_films" "raw_free_films" (defArgs (topS 22)) (defBody (topS 22)) (defScope (topS 22)) .none kV_raw_free_films dc_raw_free_films pm_raw_free_films an_raw_free_films cd_raw_free_films ct_raw_free_films), sl_raw_free_films⟩) (q3_raw_free_films : PySem.W.codeIn K cd_raw_free_films "raw_free_films" = true) (q4_raw_free_films : PySem.W.keepIn K (.ref a_raw_free_films) = true)
    {a_is_sent_row : Addr} {od_is_sent_row an_is_sent_row : Option Addr} {sl_is_sent_row : Array (Option Value)} {oc_is_sent_row kV_is_sent_row dc_is_sent_row pm_is_sent_row cd_is_sent_row ct_is_sent_row : Value} (q1_is_sent_row : PySem.W.nsIn K mainGlobals "is_sent_row" = some (some (.ref a_is_sent_row))) (q2_is_sent_row : K.lookup a_is_sent_row = some ⟨oc_is_sent_row, od_is_sent_row, .func (PySem.W.fnOf "is_sent_row" "is_sent_row" (defArgs (topS 23)) (defBody (topS 23)) (defScope (topS 23)) .none kV_is_sent_row dc_is_sent_row pm_is_sent_row an_is_sent_row cd_is_sent_row ct_is_sent_row), sl_is_sent_row⟩) (q3_is_sent_row : PySem.W.codeIn K cd_is_sent_row "is_sent_row" = true) (q4_is_sent_row : PySem.W.keepIn K (.ref a_is_sent_row) = true)
    {a_is_year : Addr} {od_is_year an_is_year : Option Addr} {sl_is_year : Array (Option Value)} {oc_is_year kV_is_year dc_is_year pm_is_year cd_is_year ct_is_year : Value} (q1_is_year : PySem.W.nsIn K mainGlobals "is_year" = some (some (.ref a_is_year))) (q2_is_year : K.lookup a_is_year = some ⟨oc_is_year, od_is_year, .func (PySem.W.fnOf "is_year" "is_year" (defArgs (topS 24)) (defBody (topS 24)) (defScope (topS 24)) .none kV_is_year dc_is_year pm_is_year an_is_year cd_is_year ct_is_year), sl_is_year⟩) (q3_is_year : PySem.W.codeIn K cd_is_year "is_year" = true) (q4_is_year : PySem.W.keepIn K (.ref a_is_year) = true)
    {a_check_sent_films : Addr} {od_check_sent_films an_check_sent_films : Option Addr} {sl_check_sent_films : Array (Option Value)} {oc_check_sent_films kV_check_sent_films dc_check_sent_films pm_check_sent_films cd_check_sent_films ct_check_sent_films : Value} (q1_check_sent_films : PySem.W.nsIn K mainGlobals "check_sent_films" = some (some (.ref a_check_sent_films))) (q2_check_sent_films : K.lookup a_check_sent_films = some ⟨oc_check_sent_films, od_check_sent_films, .func (PySem.W.fnOf "check_sent_films" "check_sent_films" (defArgs (topS 25)) (defBody (topS 25)) (defScope (topS 25)) .none kV_check_sent_films dc_check_sent_films pm_check_sent_films an_check_sent_films cd_check_sent_films ct_check_sent_films), sl_check_sent_films⟩) (q3_check_sent_films : PySem.W.codeIn K cd_check_sent_films "check_sent_films" = true) (q4_check_sent_films : PySem.W.keepIn K (.ref a_check_sent_films) = true)
    {a_free_films : Addr} {od_free_films an_free_films : Option Addr} {sl_free_films : Array (Option Value)} {oc_free_films kV_free_films dc_free_films pm_free_films cd_free_films ct_free_films : Value} (q1_free_films : PySem.W.nsIn K mainGlobals "free_films" = some (some (.ref a_free_films))) (q2_free_films : K.lookup a_free_films = some ⟨oc_free_films, od_free_films, .func (PySem.W.fnOf "free_films" "free_films" (defArgs (topS 26)) (defBody (topS 26)) (defScope (topS 26)) .none kV_free_films dc_free_films pm_free_films an_free_films cd_free_films ct_free_films), sl_free_films⟩) (q3_free_films : PySem.W.codeIn K cd_free_films "free_films" = true) (q4_free_films : PySem.W.keepIn K (.ref a_free_films) = true)
    {a_runs_left : Addr} {od_runs_left an_runs_left : Option Addr} {sl_runs_left : Array (Option Value)} {oc_runs_left kV_runs_left dc_runs_left pm_runs_left cd_runs_left ct_runs_left : Value} (q1_runs_left : PySem.W.nsIn K mainGlobals "runs_left" = some (some (.ref a_runs_left))) (q2_runs_left : K.lookup a_runs_left = some ⟨oc_runs_left, od_runs_left, .func (PySem.W.fnOf "runs_left" "runs_left" (defArgs (topS 27)) (defBody (topS 27)) (defScope (topS 27)) .none kV_runs_left dc_runs_left pm_runs_left an_runs_left cd_runs_left ct_runs_left), sl_runs_left⟩) (q3_runs_left : PySem.W.codeIn K cd_runs_left "runs_left" = true) (q4_runs_left : PySem.W.keepIn K (.ref a_runs_left) = true)
    {a_all_years : Addr} {od_all_years an_all_years : Option Addr} {sl_all_years : Array (Option Value)} {oc_all_years kV_all_years dc_all_years pm_all_years cd_all_years ct_all_years : Value} (q1_all_years : PySem.W.nsIn K mainGlobals "all_years" = some (some (.ref a_all_years))) (q2_all_years : K.lookup a_all_years = some ⟨oc_all_years, od_all_years, .func (PySem.W.fnOf "all_years" "all_years" (defArgs (topS 28)) (defBody (topS 28)) (defScope (topS 28)) .none kV_all_years dc_all_years pm_all_years an_all_years cd_all_years ct_all_years), sl_all_years⟩) (q3_all_years : PySem.W.codeIn K cd_all_years "all_years" = true) (q4_all_years : PySem.W.keepIn K (.ref a_all_years) = true)
    {a_year_node : Addr} {od_year_node an_year_node : Option Addr} {sl_year_node : Array (Option Value)} {oc_year_node kV_year_node dc_year_node pm_year_node cd_year_node ct_year_node : Value} (q1_year_node : PySem.W.nsIn K mainGlobals "year_node" = some (some (.ref a_year_node))) (q2_year_node : K.lookup a_year_node = some ⟨oc_year_node, od_year_node, .func (PySem.W.fnOf "year_node" "year_node" (defArgs (topS 29)) (defBody (topS 29)) (defScope (topS 29)) .none kV_year_node dc_year_node pm_year_node an_year_node cd_year_node ct_year_node), sl_year_node⟩) (q3_year_node : PySem.W.codeIn K cd_year_node "year_node" = true) (q4_year_node : PySem.W.keepIn K (.ref a_year_node) = true)
    {a_year_told : Addr} {od_year_told an_year_told : Option Addr} {sl_year_told : Array (Option Value)} {oc_year_told kV_year_told dc_year_told pm_year_told cd_year_told ct_year_told : Value} (q1_year_told : PySem.W.nsIn K mainGlobals "year_told" = some (some (.ref a_year_told))) (q2_year_told : K.lookup a_year_told = some ⟨oc_year_told, od_year_told, .func (PySem.W.fnOf "year_told" "year_told" (defArgs (topS 30)) (defBody (topS 30)) (defScope (topS 30)) .none kV_year_told dc_year_told pm_year_told an_year_told cd_year_told ct_year_told), sl_year_told⟩) (q3_year_told : PySem.W.codeIn K cd_year_told "year_told" = true) (q4_year_told : PySem.W.keepIn K (.ref a_year_told) = true)
    {a_years_many : Addr} {od_years_many an_years_many : Option Addr} {sl_years_many : Array (Option Value)} {oc_years_many kV_years_many dc_years_many pm_years_many cd_years_many ct_years_many : Value} (q1_years_many : PySem.W.nsIn K mainGlobals "years_many" = some (some (.ref a_years_many))) (q2_years_many : K.lookup a_years_many = some ⟨oc_years_many, od_years_many, .func (PySem.W.fnOf "years_many" "years_many" (defArgs (topS 31)) (defBody (topS 31)) (defScope (topS 31)) .none kV_years_many dc_years_many pm_years_many an_years_many cd_years_many ct_years_many), sl_years_many⟩) (q3_years_many : PySem.W.codeIn K cd_years_many "years_many" = true) (q4_years_many : PySem.W.keepIn K (.ref a_years_many) = true)
    {a_sure_days : Addr} {od_sure_days an_sure_days : Option Addr} {sl_sure_days : Array (Option Value)} {oc_sure_days kV_sure_days dc_sure_days pm_sure_days cd_sure_days ct_sure_days : Value} (q1_sure_days : PySem.W.nsIn K mainGlobals "sure_days" = some (some (.ref a_sure_days))) (q2_sure_days : K.lookup a_sure_days = some ⟨oc_sure_days, od_sure_days, .func (PySem.W.fnOf "sure_days" "sure_days" (defArgs (topS 32)) (defBody (topS 32)) (defScope (topS 32)) .none kV_sure_days dc_sure_days pm_sure_days an_sure_days cd_sure_days ct_sure_days), sl_sure_days⟩) (q3_sure_days : PySem.W.codeIn K cd_sure_days "sure_days" = true) (q4_sure_days : PySem.W.keepIn K (.ref a_sure_days) = true)
    {a__law_hand : Addr} {od__law_hand an__law_hand : Option Addr} {sl__law_hand : Array (Option Value)} {oc__law_hand kV__law_hand dc__law_hand pm__law_hand cd__law_hand ct__law_hand : Value} (q1__law_hand : PySem.W.nsIn K mainGlobals "_law_hand" = some (some (.ref a__law_hand))) (q2__law_hand : K.lookup a__law_hand = some ⟨oc__law_hand, od__law_hand, .func (PySem.W.fnOf "_law_hand" "_law_hand" (defArgs (topS 34)) (defBody (topS 34)) (defScope (topS 34)) .none kV__law_hand dc__law_hand pm__law_hand an__law_hand cd__law_hand ct__law_hand), sl__law_hand⟩) (q3__law_hand : PySem.W.codeIn K cd__law_hand "_law_hand" = true) (q4__law_hand : PySem.W.keepIn K (.ref a__law_hand) = true)
    {a__law_draw : Addr} {od__law_draw an__law_draw : Option Addr} {sl__law_draw : Array (Option Value)} {oc__law_draw kV__law_draw dc__law_draw pm__law_draw cd__law_draw ct__law_draw : Value} (q1__law_draw : PySem.W.nsIn K mainGlobals "_law_draw" = some (some (.ref a__law_draw))) (q2__law_draw : K.lookup a__law_draw = some ⟨oc__law_draw, od__law_draw, .func (PySem.W.fnOf "_law_draw" "_law_draw" (defArgs (topS 35)) (defBody (topS 35)) (defScope (topS 35)) .none kV__law_draw dc__law_draw pm__law_draw an__law_draw cd__law_draw ct__law_draw), sl__law_draw⟩) (q3__law_draw : PySem.W.codeIn K cd__law_draw "_law_draw" = true) (q4__law_draw : PySem.W.keepIn K (.ref a__law_draw) = true)
    {a__law_some : Addr} {od__law_some an__law_some : Option Addr} {sl__law_some : Array (Option Value)} {oc__law_some kV__law_some dc__law_some pm__law_some cd__law_some ct__law_some : Value} (q1__law_some : PySem.W.nsIn K mainGlobals "_law_some" = some (some (.ref a__law_some))) (q2__law_some : K.lookup a__law_some = some ⟨oc__law_some, od__law_some, .func (PySem.W.fnOf "_law_some" "_law_some" (defArgs (topS 36)) (defBody (topS 36)) (defScope (topS 36)) .none kV__law_some dc__law_some pm__law_some an__law_some cd__law_some ct__law_some), sl__law_some⟩) (q3__law_some : PySem.W.codeIn K cd__law_some "_law_some" = true) (q4__law_some : PySem.W.keepIn K (.ref a__law_some) = true)
    {a__law_is : Addr} {od__law_is an__law_is : Option Addr} {sl__law_is : Array (Option Value)} {oc__law_is kV__law_is dc__law_is pm__law_is cd__law_is ct__law_is : Value} (q1__law_is : PySem.W.nsIn K mainGlobals "_law_is" = some (some (.ref a__law_is))) (q2__law_is : K.lookup a__law_is = some ⟨oc__law_is, od__law_is, .func (PySem.W.fnOf "_law_is" "_law_is" (defArgs (topS 37)) (defBody (topS 37)) (defScope (topS 37)) .none kV__law_is dc__law_is pm__law_is an__law_is cd__law_is ct__law_is), sl__law_is⟩) (q3__law_is : PySem.W.codeIn K cd__law_is "_law_is" = true) (q4__law_is : PySem.W.keepIn K (.ref a__law_is) = true)
    {a__law_films : Addr} {od__law_films an__law_films : Option Addr} {sl__law_films : Array (Option Value)} {oc__law_films kV__law_films dc__law_films pm__law_films cd__law_films ct__law_films : Value} (q1__law_films : PySem.W.nsIn K mainGlobals "_law_films" = some (some (.ref a__law_films))) (q2__law_films : K.lookup a__law_films = some ⟨oc__law_films, od__law_films, .func (PySem.W.fnOf "_law_films" "_law_films" (defArgs (topS 38)) (defBody (topS 38)) (defScope (topS 38)) .none kV__law_films dc__law_films pm__law_films an__law_films cd__law_films ct__law_films), sl__law_films⟩) (q3__law_films : PySem.W.codeIn K cd__law_films "_law_films" = true) (q4__law_films : PySem.W.keepIn K (.ref a__law_films) = true)
    {a__law_can : Addr} {od__law_can an__law_can : Option Addr} {sl__law_can : Array (Option Value)} {oc__law_can kV__law_can dc__law_can pm__law_can cd__law_can ct__law_can : Value} (q1__law_can : PySem.W.nsIn K mainGlobals "_law_can" = some (some (.ref a__law_can))) (q2__law_can : K.lookup a__law_can = some ⟨oc__law_can, od__law_can, .func (PySem.W.fnOf "_law_can" "_law_can" (defArgs (topS 39)) (defBody (topS 39)) (defScope (topS 39)) .none kV__law_can dc__law_can pm__law_can an__law_can cd__law_can ct__law_can), sl__law_can⟩) (q3__law_can : PySem.W.codeIn K cd__law_can "_law_can" = true) (q4__law_can : PySem.W.keepIn K (.ref a__law_can) = true)
    {a__law_years : Addr} {od__law_years an__law_years : Option Addr} {sl__law_years : Array (Option Value)} {oc__law_years kV__law_years dc__law_years pm__law_years cd__law_years ct__law_years : Value} (q1__law_years : PySem.W.nsIn K mainGlobals "_law_years" = some (some (.ref a__law_years))) (q2__law_years : K.lookup a__law_years = some ⟨oc__law_years, od__law_years, .func (PySem.W.fnOf "_law_years" "_law_years" (defArgs (topS 40)) (defBody (topS 40)) (defScope (topS 40)) .none kV__law_years dc__law_years pm__law_years an__law_years cd__law_years ct__law_years), sl__law_years⟩) (q3__law_years : PySem.W.codeIn K cd__law_years "_law_years" = true) (q4__law_years : PySem.W.keepIn K (.ref a__law_years) = true)
    {a__law_node : Addr} {od__law_node an__law_node : Option Addr} {sl__law_node : Array (Option Value)} {oc__law_node kV__law_node dc__law_node pm__law_node cd__law_node ct__law_node : Value} (q1__law_node : PySem.W.nsIn K mainGlobals "_law_node" = some (some (.ref a__law_node))) (q2__law_node : K.lookup a__law_node = some ⟨oc__law_node, od__law_node, .func (PySem.W.fnOf "_law_node" "_law_node" (defArgs (topS 41)) (defBody (topS 41)) (defScope (topS 41)) .none kV__law_node dc__law_node pm__law_node an__law_node cd__law_node ct__law_node), sl__law_node⟩) (q3__law_node : PySem.W.codeIn K cd__law_node "_law_node" = true) (q4__law_node : PySem.W.keepIn K (.ref a__law_node) = true)
    {a__law_world : Addr} {od__law_world an__law_world : Option Addr} {sl__law_world : Array (Option Value)} {oc__law_world kV__law_world dc__law_world pm__law_world cd__law_world ct__law_world : Value} (q1__law_world : PySem.W.nsIn K mainGlobals "_law_world" = some (some (.ref a__law_world))) (q2__law_world : K.lookup a__law_world = some ⟨oc__law_world, od__law_world, .func (PySem.W.fnOf "_law_world" "_law_world" (defArgs (topS 42)) (defBody (topS 42)) (defScope (topS 42)) .none kV__law_world dc__law_world pm__law_world an__law_world cd__law_world ct__law_world), sl__law_world⟩) (q3__law_world : PySem.W.codeIn K cd__law_world "_law_world" = true) (q4__law_world : PySem.W.keepIn K (.ref a__law_world) = true)
    {a__law_is_sent_right : Addr} {od__law_is_sent_right an__law_is_sent_right : Option Addr} {sl__law_is_sent_right : Array (Option Value)} {oc__law_is_sent_right kV__law_is_sent_right dc__law_is_sent_right pm__law_is_sent_right cd__law_is_sent_right ct__law_is_sent_right : Value} (q1__law_is_sent_right : PySem.W.nsIn K mainGlobals "_law_is_sent_right" = some (some (.ref a__law_is_sent_right))) (q2__law_is_sent_right : K.lookup a__law_is_sent_right = some ⟨oc__law_is_sent_right, od__law_is_sent_right, .func (PySem.W.fnOf "_law_is_sent_right" "_law_is_sent_right" (defArgs (topS 43)) (defBody (topS 43)) (defScope (topS 43)) .none kV__law_is_sent_right dc__law_is_sent_right pm__law_is_sent_right an__law_is_sent_right cd__law_is_sent_right ct__law_is_sent_right), sl__law_is_sent_right⟩) (q3__law_is_sent_right : PySem.W.codeIn K cd__law_is_sent_right "_law_is_sent_right" = true) (q4__law_is_sent_right : PySem.W.keepIn K (.ref a__law_is_sent_right) = true)
    {a__law_is_right : Addr} {od__law_is_right an__law_is_right : Option Addr} {sl__law_is_right : Array (Option Value)} {oc__law_is_right kV__law_is_right dc__law_is_right pm__law_is_right cd__law_is_right ct__law_is_right : Value} (q1__law_is_right : PySem.W.nsIn K mainGlobals "_law_is_right" = some (some (.ref a__law_is_right))) (q2__law_is_right : K.lookup a__law_is_right = some ⟨oc__law_is_right, od__law_is_right, .func (PySem.W.fnOf "_law_is_right" "_law_is_right" (defArgs (topS 44)) (defBody (topS 44)) (defScope (topS 44)) .none kV__law_is_right dc__law_is_right pm__law_is_right an__law_is_right cd__law_is_right ct__law_is_right), sl__law_is_right⟩) (q3__law_is_right : PySem.W.codeIn K cd__law_is_right "_law_is_right" = true) (q4__law_is_right : PySem.W.keepIn K (.ref a__law_is_right) = true)
    {a_law : Addr} {od_law an_law : Option Addr} {sl_law : Array (Option Value)} {oc_law kV_law dc_law pm_law cd_law ct_law : Value} (q1_law : PySem.W.nsIn K mainGlobals "law" = some (some (.ref a_law))) (q2_law : K.lookup a_law = some ⟨oc_law, od_law, .func (PySem.W.fnOf "law" "law" (defArgs (topS 45)) (defBody (topS 45)) (defScope (topS 45)) .none kV_law dc_law pm_law an_law cd_law ct_law), sl_law⟩) (q3_law : PySem.W.codeIn K cd_law "law" = true) (q4_law : PySem.W.keepIn K (.ref a_law) = true)
    (n_abs : PySem.W.nsIn K mainGlobals "abs" = some none)
    (n_all : PySem.W.nsIn K mainGlobals "all" = some none)
    (n_any : PySem.W.nsIn K mainGlobals "any" = some none)
    (n_bool : PySem.W.nsIn K mainGlobals "bool" = some none)
    (n_dict : PySem.W.nsIn K mainGlobals "dict" = some none)
    (n_enumerate : PySem.W.nsIn K mainGlobals "enumerate" = some none)
    (n_int : PySem.W.nsIn K mainGlobals "int" = some none)
    (n_isinstance : PySem.W.nsIn K mainGlobals "isinstance" = some none)
    (n_len : PySem.W.nsIn K mainGlobals "len" = some none)
    (n_list : PySem.W.nsIn K mainGlobals "list" = some none)
    (n_max : PySem.W.nsIn K mainGlobals "max" = some none)
    (n_min : PySem.W.nsIn K mainGlobals "min" = some none)
    (n_range : PySem.W.nsIn K mainGlobals "range" = some none)
    (n_str : PySem.W.nsIn K mainGlobals "str" = some none)
    (n_tuple : PySem.W.nsIn K mainGlobals "tuple" = some none)
    (n_zip : PySem.W.nsIn K mainGlobals "zip" = some none)
    {t_MOST_FILMS : Tok} (c_MOST_FILMS : PySem.W.nsIn K mainGlobals "MOST_FILMS" = some (some (.int 4 t_MOST_FILMS)))
    {t_MOST_FILM_DAY : Tok} (c_MOST_FILM_DAY : PySem.W.nsIn K mainGlobals "MOST_FILM_DAY" = some (some (.int 20 t_MOST_FILM_DAY)))
    {t_MOST_HOLD : Tok} (c_MOST_HOLD : PySem.W.nsIn K mainGlobals "MOST_HOLD" = some (some (.int 4 t_MOST_HOLD)))
    {t_MOST_RUNS : Tok} (c_MOST_RUNS : PySem.W.nsIn K mainGlobals "MOST_RUNS" = some (some (.int 4 t_MOST_RUNS)))
    {t_MOST_YEAR : Tok} (c_MOST_YEAR : PySem.W.nsIn K mainGlobals "MOST_YEAR" = some (some (.int 6 t_MOST_YEAR)))
    {t_YEAR_FOUND : Tok} (c_YEAR_FOUND : PySem.W.nsIn K mainGlobals "YEAR_FOUND" = some (some (.str "year" t_YEAR_FOUND)))
    {t_YEAR_TREE : Tok} (c_YEAR_TREE : PySem.W.nsIn K mainGlobals "YEAR_TREE" = some (some (.str "tree" t_YEAR_TREE))) :
    ∃ fd : FuncData, (∀ (s : Shared) (v : Value), BindsTo s fd ⟨[v], []⟩ [("script", v)]) ∧ ∀ base : Heap, K.In base → base.Ns mainGlobals mg → FnOk l.prog w K mg base (L2.CX l.prog w) 24 fa fd ["script"] (spLaw TP K) := by
  let F : Facts K mg := {
    a_is_integer := a_is_integer, d_is_integer := _, F_is_integer := fun_mk (st := topS 1) q2_is_integer q3_is_integer q4_is_integer, g_is_integer := PySem.W.mg_of X G q1_is_integer, k_is_integer := q4_is_integer, b_is_integer := (fun_mk (st := topS 1) q2_is_integer q3_is_integer q4_is_integer).binds (ps := ["thing"]) fun _ _ _ _ _ _ us hl => match us, hl with | [_], _ => rfl,
    a_is_within := a_is_within, d_is_within := _, F_is_within := fun_mk (st := topS 2) q2_is_within q3_is_within q4_is_within, g_is_within := PySem.W.mg_of X G q1_is_within, k_is_within := q4_is_within, b_is_within := (fun_mk (st := topS 2) q2_is_within q3_is_within q4_is_within).binds (ps := ["thing", "low", "high"]) fun _ _ _ _ _ _ us hl => match us, hl with | [_, _, _], _ => rfl,
    a_is_sized := a_is_sized, d_is_sized := _, F_is_sized := fun_mk (st := topS 3) q2_is_sized q3_is_sized q4_is_sized, g_is_sized := PySem.W.mg_of X G q1_is_sized, k_is_sized := q4_is_sized, b_is_sized := (fun_mk (st := topS 3) q2_is_sized q3_is_sized q4_is_sized).binds (ps := ["thing", "low", "high"]) fun _ _ _ _ _ _ us hl => match us, hl with | [_, _, _], _ => rfl,
    a_is_film := a_is_film, d_is_film := _, F_is_film := fun_mk (st := topS 17) q2_is_film q3_is_film q4_is_film, g_is_film := PySem.W.mg_of X G q1_is_film, k_is_film := q4_is_film, b_is_film := (fun_mk (st := topS 17) q2_is_film q3_is_film q4_is_film).binds (ps := ["thing"]) fun _ _ _ _ _ _ us hl => match us, hl with | [_], _ => rfl,
    a_are_films := a_are_films, d_are_films := _, F_are_films := fun_mk (st := topS 18) q2_are_films q3_are_films q4_are_films, g_are_films := PySem.W.mg_of X G q1_are_films, k_are_films := q4_are_films, b_are_films := (fun_mk (st := topS 18) q2_are_films q3_are_films q4_are_films).binds (ps := ["thing"]) fun _ _ _ _ _ _ us hl => match us, hl with | [_], _ => rfl,
    a_check_films := a_check_films, d_check_films := _, F_check_films := fun_mk (st := topS 19) q2_check_films q3_check_films q4_check_films, g_check_films := PySem.W.mg_of X G q1_check_films, k_check_films := q4_check_films, b_check_films := (fun_mk (st := topS 19) q2_check_films q3_check_films q4_check_films).binds (ps := ["films"]) fun _ _ _ _ _ _ us hl => match us, hl with | [_], _ => rfl,
    a_check_year_days := a_check_year_days, d_check_year_days := _, F_check_year_days := fun_mk (st := topS 20) q2_check_year_days q3_check_year_days q4_check_year_days, g_check_year_days := PySem.W.mg_of X G q1_check_year_days, k_check_year_days := q4_check_year_days, b_check_year_days := (fun_mk (st := topS 20) q2_check_year_days q3_check_year_days q4_check_year_days).binds (ps := ["films", "days"]) fun _ _ _ _ _ _ us hl => match us, hl with | [_, _], _ => rfl,
    a_can_be_sent := a_can_be_sent, d_can_be_sent := _, F_can_be_sent := fun_mk (st := topS 21) q2_can_be_sent q3_can_be_sent q4_can_be_sent, g_can_be_sent := PySem.W.mg_of X G q1_can_be_sent, k_can_be_sent := q4_can_be_sent, b_can_be_sent := (fun_mk (st := topS 21) q2_can_be_sent q3_can_be_sent q4_can_be_sent).binds (ps := ["films", "sent", "film", "is_held"]) fun _ _ _ _ _ _ us hl => match us, hl with | [_, _, _, _], _ => rfl,
    a_raw_free_films := a_raw_free_films, d_raw_free_films := _, F_raw_free_films := fun_mk (st := topS 22) q2_raw_free_films q3_raw_free_films q4_raw_free_films, g_raw_free_films := PySem.W.mg_of X G q1_raw_free_films, k_raw_free_films := q4_raw_free_films, b_raw_free_films := (fun_mk (st := topS 22) q2_raw_free_films q3_raw_free_films q4_raw_free_films).binds (ps := ["films", "sent", "is_held"]) fun _ _ _ _ _ _ us hl => match us, hl with | [_, _, _], _ => rfl,
    a_is_sent_row := a_is_sent_row, d_is_sent_row := _, F_is_sent_row := fun_mk (st := topS 23) q2_is_sent_row q3_is_sent_row q4_is_sent_row, g_is_sent_row := PySem.W.mg_of X G q1_is_sent_row, k_is_sent_row := q4_is_sent_row, b_is_sent_row := (fun_mk (st := topS 23) q2_is_sent_row q3_is_sent_row q4_is_sent_row).binds (ps := ["films", "thing", "most", "is_held"]) fun _ _ _ _ _ _ us hl => match us, hl with | [_, _, _, _], _ => rfl,
    a_is_year := a_is_year, d_is_year := _, F_is_year := fun_mk (st := topS 24) q2_is_year q3_is_year q4_is_year, g_is_year := PySem.W.mg_of X G q1_is_year, k_is_year := q4_is_year, b_is_year := (fun_mk (st := topS 24) q2_is_year q3_is_year q4_is_year).binds (ps := ["films", "days", "thing"]) fun _ _ _ _ _ _ us hl => match us, hl with | [_, _, _], _ => rfl,
    a_check_sent_films := a_check_sent_films, d_check_sent_films := _, F_check_sent_films := fun_mk (st := topS 25) q2_check_sent_films q3_check_sent_films q4_check_sent_films, g_check_sent_films := PySem.W.mg_of X G q1_check_sent_films, k_check_sent_films := q4_check_sent_films, b_check_sent_films := (fun_mk (st := topS 25) q2_check_sent_films q3_check_sent_films q4_check_sent_films).binds (ps := ["films", "sent"]) fun _ _ _ _ _ _ us hl => match us, hl with | [_, _], _ => rfl,
    a_free_films := a_free_films, d_free_films := _, F_free_films := fun_mk (st := topS 26) q2_free_films q3_free_films q4_free_films, g_free_films := PySem.W.mg_of X G q1_free_films, k_free_films := q4_free_films, b_free_films := (fun_mk (st := topS 26) q2_free_films q3_free_films q4_free_films).binds (ps := ["films", "sent"]) fun _ _ _ _ _ _ us hl => match us, hl with | [_, _], _ => rfl,
    a_runs_left := a_runs_left, d_runs_left := _, F_runs_left := fun_mk (st := topS 27) q2_runs_left q3_runs_left q4_runs_left, g_runs_left := PySem.W.mg_of X G q1_runs_left, k_runs_left := q4_runs_left, b_runs_left := (fun_mk (st := topS 27) q2_runs_left q3_runs_left q4_runs_left).binds (ps := ["films", "sent"]) fun _ _ _ _ _ _ us hl => match us, hl with | [_, _], _ => rfl,
    a_all_years := a_all_years, d_all_years := _, F_all_years := fun_mk (st := topS 28) q2_all_years q3_all_years q4_all_years, g_all_years := PySem.W.mg_of X G q1_all_years, k_all_years := q4_all_years, b_all_years := (fun_mk (st := topS 28) q2_all_years q3_all_years q4_all_years).binds (ps := ["films", "days", "is_held"]) fun _ _ _ _ _ _ us hl => match us, hl with | [_, _, _], _ => rfl,
    a_year_node := a_year_node, d_year_node := _, F_year_node := fun_mk (st := topS 29) q2_year_node q3_year_node q4_year_node, g_year_node := PySem.W.mg_of X G q1_year_node, k_year_node := q4_year_node, b_year_node := (fun_mk (st := topS 29) q2_year_node q3_year_node q4_year_node).binds (ps := ["films", "days", "sent"]) fun _ _ _ _ _ _ us hl => match us, hl with | [_, _, _], _ => rfl,
    a_year_told := a_year_told, d_year_told := _, F_year_told := fun_mk (st := topS 30) q2_year_told q3_year_told q4_year_told, g_year_told := PySem.W.mg_of X G q1_year_told, k_year_told := q4_year_told, b_year_told := (fun_mk (st := topS 30) q2_year_told q3_year_told q4_year_told).binds (ps := ["films", "days"]) fun _ _ _ _ _ _ us hl => match us, hl with | [_, _], _ => rfl,
    a_years_many := a_years_many, d_years_many := _, F_years_many := fun_mk (st := topS 31) q2_years_many q3_years_many q4_years_many, g_years_many := PySem.W.mg_of X G q1_years_many, k_years_many := q4_years_many, b_years_many := (fun_mk (st := topS 31) q2_years_many q3_years_many q4_years_many).binds (ps := ["films", "days"]) fun _ _ _ _ _ _ us hl => match us, hl with | [_, _], _ => rfl,
    a_sure_days := a_sure_days, d_sure_days := _, F_sure_days := fun_mk (st := topS 32) q2_sure_days q3_sure_days q4_sure_days, g_sure_days := PySem.W.mg_of X G q1_sure_days, k_sure_days := q4_sure_days, b_sure_days := (fun_mk (st := topS 32) q2_sure_days q3_sure_days q4_sure_days).binds (ps := ["films", "days"]) fun _ _ _ _ _ _ us hl => match us, hl with | [_, _], _ => rfl,
    a__law_hand := a__law_hand, d__law_hand := _, F__law_hand := fun_mk (st := topS 34) q2__law_hand q3__law_hand q4__law_hand, g__law_hand := PySem.W.mg_of X G q1__law_hand, k__law_hand := q4__law_hand, b__law_hand := (fun_mk (st := topS 34) q2__law_hand q3__law_hand q4__law_hand).binds (ps := ["script"]) fun _ _ _ _ _ _ us hl => match us, hl with | [_], _ => rfl,
    a__law_draw := a__law_draw, d__law_draw := _, F__law_draw := fun_mk (st := topS 35) q2__law_draw q3__law_draw q4__law_draw, g__law_draw := PySem.W.mg_of X G q1__law_draw, k__law_draw := q4__law_draw, b__law_draw := (fun_mk (st := topS 35) q2__law_draw q3__law_draw q4__law_draw).binds (ps := ["hand", "limit"]) fun _ _ _ _ _ _ us hl => match us, hl with | [_, _], _ => rfl,
    a__law_some := a__law_some, d__law_some := _, F__law_some := fun_mk (st := topS 36) q2__law_some q3__law_some q4__law_some, g__law_some := PySem.W.mg_of X G q1__law_some, k__law_some := q4__law_some, b__law_some := (fun_mk (st := topS 36) q2__law_some q3__law_some q4__law_some).binds (ps := ["hand", "items"]) fun _ _ _ _ _ _ us hl => match us, hl with | [_, _], _ => rfl,
    a__law_is := a__law_is, d__law_is := _, F__law_is := fun_mk (st := topS 37) q2__law_is q3__law_is q4__law_is, g__law_is := PySem.W.mg_of X G q1__law_is, k__law_is := q4__law_is, b__law_is := (fun_mk (st := topS 37) q2__law_is q3__law_is q4__law_is).binds (ps := ["thing", "due"]) fun _ _ _ _ _ _ us hl => match us, hl with | [_, _], _ => rfl,
    a__law_films := a__law_films, d__law_films := _, F__law_films := fun_mk (st := topS 38) q2__law_films q3__law_films q4__law_films, g__law_films := PySem.W.mg_of X G q1__law_films, k__law_films := q4__law_films, b__law_films := (fun_mk (st := topS 38) q2__law_films q3__law_films q4__law_films).binds (ps := ["hand", "many", "days"]) fun _ _ _ _ _ _ us hl => match us, hl with | [_, _, _], _ => rfl,
    a__law_can := a__law_can, d__law_can := _, F__law_can := fun_mk (st := topS 39) q2__law_can q3__law_can q4__law_can, g__law_can := PySem.W.mg_of X G q1__law_can, k__law_can := q4__law_can, b__law_can := (fun_mk (st := topS 39) q2__law_can q3__law_can q4__law_can).binds (ps := ["films", "sent", "film"]) fun _ _ _ _ _ _ us hl => match us, hl with | [_, _, _], _ => rfl,
    a__law_years := a__law_years, d__law_years := _, F__law_years := fun_mk (st := topS 40) q2__law_years q3__law_years q4__law_years, g__law_years := PySem.W.mg_of X G q1__law_years, k__law_years := q4__law_years, b__law_years := (fun_mk (st := topS 40) q2__law_years q3__law_years q4__law_years).binds (ps := ["films", "days"]) fun _ _ _ _ _ _ us hl => match us, hl with | [_, _], _ => rfl,
    a__law_node := a__law_node, d__law_node := _, F__law_node := fun_mk (st := topS 41) q2__law_node q3__law_node q4__law_node, g__law_node := PySem.W.mg_of X G q1__law_node, k__law_node := q4__law_node, b__law_node := (fun_mk (st := topS 41) q2__law_node q3__law_node q4__law_node).binds (ps := ["films", "days", "sent", "depth"]) fun _ _ _ _ _ _ us hl => match us, hl with | [_, _, _, _], _ => rfl,
    a__law_world := a__law_world, d__law_world := _, F__law_world := fun_mk (st := topS 42) q2__law_world q3__law_world q4__law_world, g__law_world := PySem.W.mg_of X G q1__law_world, k__law_world := q4__law_world, b__law_world := (fun_mk (st := topS 42) q2__law_world q3__law_world q4__law_world).binds (ps := ["hand"]) fun _ _ _ _ _ _ us hl => match us, hl with | [_], _ => rfl,
    a__law_is_sent_right := a__law_is_sent_right, d__law_is_sent_right := _, F__law_is_sent_right := fun_mk (st := topS 43) q2__law_is_sent_right q3__law_is_sent_right q4__law_is_sent_right, g__law_is_sent_right := PySem.W.mg_of X G q1__law_is_sent_right, k__law_is_sent_right := q4__law_is_sent_right, b__law_is_sent_right := (fun_mk (st := topS 43) q2__law_is_sent_right q3__law_is_sent_right q4__law_is_sent_right).binds (ps := ["hand", "films", "rows", "days"]) fun _ _ _ _ _ _ us hl => match us, hl with | [_, _, _, _], _ => rfl,
    a__law_is_right := a__law_is_right, d__law_is_right := _, F__law_is_right := fun_mk (st := topS 44) q2__law_is_right q3__law_is_right q4__law_is_right, g__law_is_right := PySem.W.mg_of X G q1__law_is_right, k__law_is_right := q4__law_is_right, b__law_is_right := (fun_mk (st := topS 44) q2__law_is_right q3__law_is_right q4__law_is_right).binds (ps := ["hand"]) fun _ _ _ _ _ _ us hl => match us, hl with | [_], _ => rfl,
    a_law := a_law, d_law := _, F_law := fun_mk (st := topS 45) q2_law q3_law q4_law, g_law := PySem.W.mg_of X G q1_law, k_law := q4_law, b_law := (fun_mk (st := topS 45) q2_law q3_law q4_law).binds (ps := ["script"]) fun _ _ _ _ _ _ us hl => match us, hl with | [_], _ => rfl,
    n_abs := PySem.W.mg_none_of X G n_abs,
    n_all := PySem.W.mg_none_of X G n_all,
    n_any := PySem.W.mg_none_of X G n_any,
    n_bool := PySem.W.mg_none_of X G n_bool,
    n_dict := PySem.W.mg_none_of X G n_dict,
    n_enumerate := PySem.W.mg_none_of X G n_enumerate,
    n_int := PySem.W.mg_none_of X G n_int,
    n_isinstance := PySem.W.mg_none_of X G n_isinstance,
    n_len := PySem.W.mg_none_of X G n_len,
    n_list := PySem.W.mg_none_of X G n_list,
    n_max := PySem.W.mg_none_of X G n_max,
    n_min := PySem.W.mg_none_of X G n_min,
    n_range := PySem.W.mg_none_of X G n_range,
    n_str := PySem.W.mg_none_of X G n_str,
    n_tuple := PySem.W.mg_none_of X G n_tuple,
    n_zip := PySem.W.mg_none_of X G n_zip,
    c_MOST_FILMS := ⟨t_MOST_FILMS, PySem.W.mg_of X G c_MOST_FILMS⟩,
    c_MOST_FILM_DAY := ⟨t_MOST_FILM_DAY, PySem.W.mg_of X G c_MOST_FILM_DAY⟩,
    c_MOST_HOLD := ⟨t_MOST_HOLD, PySem.W.mg_of X G c_MOST_HOLD⟩,
    c_MOST_RUNS := ⟨t_MOST_RUNS, PySem.W.mg_of X G c_MOST_RUNS⟩,
    c_MOST_YEAR := ⟨t_MOST_YEAR, PySem.W.mg_of X G c_MOST_YEAR⟩,
    c_YEAR_FOUND := ⟨t_YEAR_FOUND, PySem.W.mg_of X G c_YEAR_FOUND⟩,
    c_YEAR_TREE := ⟨t_YEAR_TREE, PySem.W.mg_of X G c_YEAR_TREE⟩ }
  have e := hfa.symm.trans F.g_law
  cases e
  exact ⟨_, fun s v => .of_eq rfl, fun base _ _ => ok_law F hand_ok⟩
end K49
open PySem PySem.W PyProof.Rows
set_option maxHeartbeats 0 in
theorem PySem.Challenge.cw_wavehouse_k49_whole_years_of_films_or_tr_holds : PySem.Challenge.rw_wavehouse_k49_whole_years_of_films_or_tr.Holds := by
  w_on; o_law; k_head; (case hw => w_witness2)
  k_fill
  refine L2.walk_of (l := PySem.Challenge.rw_wavehouse_k49_whole_years_of_films_or_tr) (n := 63) (k := 24) (x := "script") (CX := fun w => L2.CX PySem.Challenge.rw_wavehouse_k49_whole_years_of_films_or_tr.prog w) (sp := fun w => VL.spLaw K49.TP _) rfl (by decide) rfl ⟨rfl, by decide, by decide⟩ (fun w h Y => PySem.W.kIn_of Y) ?F (fun _ _ a ns hl _ hS => ⟨a, ns, rfl, hS, hl, (fun p hp => (nomatch hp)), fun _ => rfl⟩) (fun _ _ _ _ _ (h : L2.CX _ _ _ _ _ _ _ _) => by obtain ⟨_, _, _, _, _, _, _, _, _, _, _, _, z⟩ := h; exact z)
  case F =>
    intro w mg fa h KX G hmg
    refine' K49.all_mk KX G hmg ?q1_is_integer ?q2_is_integer ?q3_is_integer ?q4_is_integer ?q1_is_within ?q2_is_within ?q3_is_within ?q4_is_within ?q1_is_sized ?q2_is_sized ?q3_is_sized ?q4_is_sized ?q1_is_film ?q2_is_film ?q3_is_film ?q4_is_film ?q1_are_films ?q2_are_films ?q3_are_films ?q4_are_films ?q1_check_films ?q2_check_films ?q3_check_films ?q4_check_films ?q1_check_year_days ?q2_check_year_days ?q3_check_year_days ?q4_check_year_days ?q1_can_be_sent ?q2_can_be_sent ?q3_can_be_sent ?q4_can_be_sent ?q1_raw_free_films ?q2_raw_free_films ?q3_raw_free_films ?q4_raw_free_films ?q1_is_sent_row ?q2_is_sent_row ?q3_is_sent_row ?q4_is_sent_row ?q1_is_year ?q2_is_year ?q3_is_year ?q4_is_year ?q1_check_sent_films ?q2_check_sent_films ?q3_check_sent_films ?q4_check_sent_films ?q1_free_films ?q2_free_films ?q3_free_films ?q4_free_films ?q1_runs_left ?q2_runs_left ?q3_runs_left ?q4_runs_left ?q1_all_years ?q2_all_years ?q3_all_years ?q4_all_years ?q1_year_node ?q2_year_node ?q3_year_node ?q4_year_node ?q1_year_told ?q2_year_told ?q3_year_told ?q4_year_told ?q1_years_many ?q2_years_many ?q3_years_many ?q4_years_many ?q1_sure_days ?q2_sure_days ?q3_sure_days ?q4_sure_days ?q1__law_hand ?q2__law_hand ?q3__law_hand ?q4__law_hand ?q1__law_draw ?q2__law_draw ?q3__law_draw ?q4__law_draw ?q1__law_some ?q2__law_some ?q3__law_some ?q4__law_some ?q1__law_is ?q2__law_is ?q3__law_is ?q4__law_is ?q1__law_films ?q2__law_films ?q3__law_films ?q4__law_films ?q1__law_can ?q2__law_can ?q3__law_can ?q4__law_can ?q1__law_years ?q2__law_years ?q3__law_years ?q4__law_years ?q1__law_node ?q2__law_node ?q3__law_node ?q4__law_node ?q1__law_world ?q2__law_world ?q3__law_world ?q4__law_world ?q1__law_is_sent_right ?q2__law_is_sent_right ?q3__law_is_sent_right ?q4__law_is_sent_right ?q1__law_is_right ?q2__law_is_right ?q3__law_is_right ?q4__law_is_right ?q1_law ?q2_law ?q3_law ?q4_law ?n_abs ?n_all ?n_any ?n_bool ?n_dict ?n_enumerate ?n_int ?n_isinstance ?n_len ?n_list ?n_max ?n_min ?n_range ?n_str ?n_tuple ?n_zip ?c_MOST_FILMS ?c_MOST_FILM_DAY ?c_MOST_HOLD ?c_MOST_RUNS ?c_MOST_YEAR ?c_YEAR_FOUND ?c_YEAR_TREE
    (case q1_is_integer => k_is); (case q2_is_integer => k_is); (case q3_is_integer => k_is); (case q4_is_integer => k_is); (case q1_is_within => k_is); (case q2_is_within => k_is); (case q3_is_within => k_is); (case q4_is_within => k_is); (case q1_is_sized => k_is); (case q2_is_sized => k_is); (case q3_is_sized => k_is); (case q4_is_sized => k_is); (case q1_is_film => k_is); (case q2_is_film => k_is); (case q3_is_film => k_is); (case q4_is_film => k_is); (case q1_are_films => k_is); (case q2_are_films => k_is); (case q3_are_films => k_is); (case q4_are_films => k_is); (case q1_check_films => k_is); (case q2_check_films => k_is); (case q3_check_films => k_is); (case q4_check_films => k_is); (case q1_check_year_days => k_is); (case q2_check_year_days => k_is); (case q3_check_year_days => k_is); (case q4_check_year_days => k_is); (case q1_can_be_sent => k_is); (case q2_can_be_sent => k_is); (case q3_can_be_sent => k_is); (case q4_can_be_sent => k_is); (case q1_raw_free_films => k_is); (case q2_raw_free_films => k_is); (case q3_raw_free_films => k_is); (case q4_raw_free_films => k_is); (case q1_is_sent_row => k_is); (case q2_is_sent_row => k_is); (case q3_is_sent_row => k_is); (case q4_is_sent_row => k_is); (case q1_is_year => k_is); (case q2_is_year => k_is); (case q3_is_year => k_is); (case q4_is_year => k_is); (case q1_check_sent_films => k_is); (case q2_check_sent_films => k_is); (case q3_check_sent_films => k_is); (case q4_check_sent_films => k_is); (case q1_free_films => k_is); (case q2_free_films => k_is); (case q3_free_films => k_is); (case q4_free_films => k_is); (case q1_runs_left => k_is); (case q2_runs_left => k_is); (case q3_runs_left => k_is); (case q4_runs_left => k_is); (case q1_all_years => k_is); (case q2_all_years => k_is); (case q3_all_years => k_is); (case q4_all_years => k_is); (case q1_year_node => k_is); (case q2_year_node => k_is); (case q3_year_node => k_is); (case q4_year_node => k_is); (case q1_year_told => k_is); (case q2_year_told => k_is); (case q3_year_told => k_is); (case q4_year_told => k_is); (case q1_years_many => k_is); (case q2_years_many => k_is); (case q3_years_many => k_is); (case q4_years_many => k_is); (case q1_sure_days => k_is); (case q2_sure_days => k_is); (case q3_sure_days => k_is); (case q4_sure_days => k_is); (case q1__law_hand => k_is); (case q2__law_hand => k_is); (case q3__law_hand => k_is); (case q4__law_hand => k_is); (case q1__law_draw => k_is); (case q2__law_draw => k_is); (case q3__law_draw => k_is); (case q4__law_draw => k_is); (case q1__law_some => k_is); (case q2__law_some => k_is); (case q3__law_some => k_is); (case q4__law_some => k_is); (case q1__law_is => k_is); (case q2__law_is => k_is); (case q3__law_is => k_is); (case q4__law_is => k_is); (case q1__law_films => k_is); (case q2__law_films => k_is); (case q3__law_films => k_is); (case q4__law_films => k_is); (case q1__law_can => k_is); (case q2__law_can => k_is); (case q3__law_can => k_is); (case q4__law_can => k_is); (case q1__law_years => k_is); (case q2__law_years => k_is); (case q3__law_years => k_is); (case q4__law_years => k_is); (case q1__law_node => k_is); (case q2__law_node => k_is); (case q3__law_node => k_is); (case q4__law_node => k_is); (case q1__law_world => k_is); (case q2__law_world => k_is); (case q3__law_world => k_is); (case q4__law_world => k_is); (case q1__law_is_sent_right => k_is); (case q2__law_is_sent_right => k_is); (case q3__law_is_sent_right => k_is); (case q4__law_is_sent_right => k_is); (case q1__law_is_right => k_is); (case q2__law_is_right => k_is); (case q3__law_is_right => k_is); (case q4__law_is_right => k_is); (case q1_law => k_is); (case q2_law => k_is); (case q3_law => k_is); (case q4_law => k_is); (case n_abs => k_is); (case n_all => k_is); (case n_any => k_is); (case n_bool => k_is); (case n_dict => k_is); (case n_enumerate => k_is); (case n_int => k_is); (case n_isinstance => k_is); (case n_len => k_is); (case n_list => k_is); (case n_max => k_is); (case n_min => k_is); (case n_range => k_is); (case n_str => k_is); (case n_tuple => k_is); (case n_zip => k_is); (case c_MOST_FILMS => k_is); (case c_MOST_FILM_DAY => k_is); (case c_MOST_HOLD => k_is); (case c_MOST_RUNS => k_is); (case c_MOST_YEAR => k_is); (case c_YEAR_FOUND => k_is); (case c_YEAR_TREE => k_is)

