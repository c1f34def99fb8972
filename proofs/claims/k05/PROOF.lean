import PyProof.Rows.All
import Wide.All
import OpenK.AllK
import Wide.FinOn
import HandS.ForMost
import HandS.ForExc
import HandS.Flow
import HandS.Deep
import HandS.Wide
import HandS.IsInst
import HandS.TryMany
import HandS.TupAny
import KE.GoesMore
import HandS.Defaults
import HandS.Head0
import HandS.Head1
import HandS.Head2
import HandS.HeadEnd
import HandS.HeadHook1
import HandS.HeadHook2
import HandS.Style
import HandS.SetFor
import HandS.Strs
import HandS.TryOnly
import HandS.ExcOwn
import HandS.ExcIs
import KE.DataFind
import HandS.More
import KE.KDictPairs
import HandS.Text
import HandS.StrSplit
import PyProof.LongRange
import HandS.List
import HandS.Conv
import HandS.Zip
import PySem.Challenge.RW_chainhouse_k05_whole_again_changes_nothi
set_option Elab.async false
set_option linter.all false
set_option maxRecDepth 100000
set_option maxHeartbeats 4000000
section
/-! Core0: tuples that are known to have no dict of their own: each new tuple as a frozen one. -/
namespace Co
open PySem PySem.Spec PyProof.Rows L2
/-- what is made at p: a tuple, without a dict -/
abbrev NewT (H : Hp) (xs : List V) (Q : VK) : Prop := ∀ p o, H p = none → o.dict = none → Q (.ref p) (upd H p (.frz o (.tup xs)))
section
variable {X : Cx} {es : List Expr} {pos : Pos} {t : TA}
def tTupD (t : TA) : TE := fun σ H Q => t σ H fun xs H1 => xs.length ≤ sizeLine ∧ NewT H1 xs Q
theorem pe_tupD {x1} (h : PA X es t) : PE X (.Tuple es x1 pos) (tTupD t) := by
  refine ⟨fun pins s σ H Q I hq => ?_⟩
  refine wpAny_Tuple_spliced (thn (h.run pos pins s σ H _ I hq) fun us s1 ⟨xs, H1, I1, r, z, q⟩ => ⟨by rw [← r.length]; exact z, ?_⟩)
  have hf : H1 s1.heap.objs.size = none := I1.hok.fresh (Nat.le_refl _)
  refine ⟨.ref s1.heap.objs.size, upd H1 s1.heap.objs.size (.frz { cls := .type "tuple", data := .seq us.toArray } (.tup xs)), I1.laid (t' := s1.toks) (fun b u e => Heap.get?_push_of_some _ e) (Nat.le_refl _) ?_, rfl, q _ _ hf rfl⟩
  exact ⟨Heap.get?_push_size _ rfl, z, us, r, ⟨_, Heap.get?_push_size _ rfl, rfl, _, rfl⟩⟩
def rCatTD (K : PySem.W.Frag) : R2 := fun x y H Q => ∃ a b xs ys, x = .ref a ∧ y = .ref b ∧ SqT K H a xs ∧ SqT K H b ys ∧ xs ≠ [] ∧ xs.length + ys.length ≤ sizeLine ∧
  (ys = [] → Q (.ref a) H) ∧ (ys ≠ [] → NewT H (xs ++ ys) Q)
theorem op_catTD : OpR X (binaryOp .Add) (rCatTD X.K) := by
  intro pins s σ H x y v u Q I rx ry h
  obtain ⟨a, b, xs, ys, rfl, rfl, ha, hb, hx, hz, q1, q2⟩ := h
  cases rx
  cases ry
  obtain ⟨its, r1, p1, _⟩ := I.tuple ha
  obtain ⟨its2, r2, p2, _⟩ := I.tuple hb
  refine HT.cat_tup p1 p2 (fun z => hx (r1.nil_iff.mp z)) (fun z => ⟨.ref a, H, I, rfl, q1 (r2.nil_iff.mp z)⟩) (fun z => ?_) (by rw [← r1.length, ← r2.length]; exact hz)
  refine ⟨.ref s.heap.objs.size, _, I.laid (t' := s.toks) (o := .frz _ (.tup (xs ++ ys))) (fun b ob q => Heap.get?_push_of_some _ q) (Nat.le_refl _) ⟨Heap.get?_push_size _ rfl, ?_⟩, rfl, q2 (fun w => z (r2.nil_iff.mpr w)) _ _ (I.hok.fresh (Nat.le_refl _)) rfl⟩
  exact ⟨by rw [List.length_append]; exact hz, _, r1.append r2, IsTup.new _ _⟩
def rCatAD (K : PySem.W.Frag) : R2 := fun x y H Q => ∃ a b xs ys, x = .ref a ∧ y = .ref b ∧ SqT K H a xs ∧ SqT K H b ys ∧ xs.length + ys.length ≤ sizeLine ∧
  (xs = [] → Q (.ref b) H) ∧ (xs ≠ [] → ys = [] → Q (.ref a) H) ∧ (xs ≠ [] → ys ≠ [] → NewT H (xs ++ ys) Q)
theorem op_catAD : OpR X (binaryOp .Add) (rCatAD X.K) := by
  intro pins s σ H x y v u Q I rx ry h
  obtain ⟨a, b, xs, ys, rfl, rfl, ha, hb, hz, q0, q1, q2⟩ := h
  by_cases hx : xs = []
  · subst hx
    cases rx
    cases ry
    obtain ⟨its, r1, p1, _⟩ := I.tuple ha
    obtain ⟨its2, r2, p2, _⟩ := I.tuple hb
    cases r1
    exact cat_tup0 p1 p2 ⟨.ref b, H, I, rfl, q0 rfl⟩
  · exact op_catTD pins s σ H _ _ v u Q I rx ry ⟨a, b, xs, ys, rfl, rfl, ha, hb, hx, hz, q1 hx, q2 hx⟩
def rSlTD (K : PySem.W.Frag) : V → Option Int → Option Int → Hp → VK → Prop := fun x lo hi H Q => ∃ a xs, x = .ref a ∧ SqT K H a xs ∧
  ¬ (HT.sIx xs.length 0 lo = 0 ∧ HT.sIx xs.length xs.length hi = xs.length) ∧ NewT H (cutV xs lo hi) Q
theorem sl_tupD : SlR X (rSlTD X.K) := by
  intro pins s σ H x v vl vu lo hi sl Q I rx hs pl pu h
  obtain ⟨a, xs, rfl, hx, hw, q⟩ := h
  cases rx
  obtain ⟨its, r, ht, hz⟩ := I.tuple hx
  have hlen : its.toArray.size = xs.length := by rw [List.size_toArray]; exact r.length.symm
  refine ⟨"tuple", _, PyProof.Rows.slot_tuple_getitem.lookup, ht.typeIs, ?_⟩
  refine HT.getItem_tuple_cut ht hs pl pu (by rw [hlen]; exact hw) ?_ (by rw [hlen]; exact hz)
  rw [hlen]
  refine ⟨.ref s.heap.objs.size, _, I.laid (t' := s.toks) (o := .frz _ (.tup (cutV xs lo hi))) (fun b ob q => Heap.get?_push_of_some _ q) (Nat.le_refl _) ⟨Heap.get?_push_size _ rfl, ?_⟩, rfl, q _ _ (I.hok.fresh (Nat.le_refl _)) rfl⟩
  exact ⟨Nat.le_trans (cutV_length xs lo hi) hz, _, (r.drop (HT.sIx xs.length 0 lo)).take (HT.sIx xs.length xs.length hi - HT.sIx xs.length 0 lo), IsTup.new _ _⟩
def rSlAD (K : PySem.W.Frag) : V → Option Int → Option Int → Hp → VK → Prop := fun x lo hi H Q => ∃ a xs, x = .ref a ∧ SqT K H a xs ∧
  (HT.sIx xs.length 0 lo = 0 ∧ HT.sIx xs.length xs.length hi = xs.length → Q (.ref a) H) ∧ (¬ (HT.sIx xs.length 0 lo = 0 ∧ HT.sIx xs.length xs.length hi = xs.length) → NewT H (cutV xs lo hi) Q)
theorem sl_tupAD : SlR X (rSlAD X.K) := by
  intro pins s σ H x v vl vu lo hi sl Q I rx hs pl pu h
  obtain ⟨a, xs, rfl, hx, q1, q2⟩ := h
  by_cases hw : HT.sIx xs.length 0 lo = 0 ∧ HT.sIx xs.length xs.length hi = xs.length
  · cases rx
    obtain ⟨its, r, ht, hz⟩ := I.tuple hx
    have hlen : its.toArray.size = xs.length := by rw [List.size_toArray]; exact r.length.symm
    refine ⟨"tuple", _, PyProof.Rows.slot_tuple_getitem.lookup, ht.typeIs, ?_⟩
    exact getItem_tuple_whole ht hs pl pu (by rw [hlen]; exact hw) ⟨.ref a, H, I, rfl, q1 hw⟩
  · exact sl_tupD pins s σ H _ v vl vu lo hi sl Q I rx hs pl pu ⟨a, xs, rfl, hx, hw, q2 hw⟩
def rTupleD (K : PySem.W.Frag) : List V → Hp → VK → Prop := fun xs H Q => ∃ p ys, xs = [.ref p] ∧ ((SqL K H p ys ∧ NewT H ys Q) ∨ (SqT K H p ys ∧ Q (.ref p) H))
theorem call_tuple_ofD : CallR X (.type "tuple") (rTupleD X.K) := by
  intro pins s σ H xs us Q I r h
  obtain ⟨p, ys, rfl, h⟩ := h
  obtain ⟨u, rfl, rx⟩ := vals1 r
  cases rx
  rcases h with ⟨hq, q⟩ | ⟨hq, q⟩
  · obtain ⟨its, r', pl, hz⟩ := I.list hq
    have hlen := r'.length
    refine call_tuple_list pl.isList (fun h' kp => ?_) (by simp only [List.size_toArray] <;> omega)
    have I1 : Inv X pins σ H { s with heap := h' } := I.kept (t' := s.toks) kp
    have I2 : Inv X pins σ (upd H h'.objs.size (.frz { cls := .type "tuple", data := .seq its.toArray } (.tup ys))) { s with heap := h'.push { cls := .type "tuple", data := .seq its.toArray } } :=
      I1.laid (t' := s.toks) (fun b o e => Heap.get?_push_of_some _ e) (Nat.le_refl _) (show ObjOk X.prog X.w _ _ _ (.frz _ (.tup ys)) from ⟨Heap.get?_push_size _ rfl, hz, its, r', IsTup.new _ _⟩)
    exact ⟨.ref h'.objs.size, _, I2, rfl, q _ _ (I1.hok.fresh (Nat.le_refl _)) rfl⟩
  · obtain ⟨its, r', pl, hz⟩ := I.tuple hq
    exact call_tuple_same pl ⟨.ref p, H, I, rfl, q⟩
end
/-! ### enumerate -/
def IteD (K : PySem.W.Frag) (a : Addr) : It :=
  ⟨fun i H => ∃ (xs : List V) (x : V), SqL K H a xs ∧ xs[i]? = some x, fun i H v H' => ∃ T o x, v = .ref T ∧ H T = none ∧ o.dict = none ∧ H' = upd H T (.frz o (.tup [.int (i : Nat), x])) ∧ ∀ xs, SqL K H a xs → xs[i]? = some x, fun i H => ∃ xs : List V, SqL K H a xs ∧ xs.length ≤ i⟩
theorem turn_enumD {P : Program} {w : World} {K : PySem.W.Frag} {elts : List Expr} {kk : Nat} {tpos : Pos} (a e it : Addr) :
    Turn P w K (.Tuple elts kk tpos) (IteD K a) [e, it] e (fun i h => (∃ old, IsEnum h e it ((i : Nat) : Int) old) ∧ h.IsListIter it a i ∧ e ≠ it) where
  mem := by simp
  obj := fun i h st b hb => by
    obtain ⟨⟨old, he⟩, ⟨o, ho, hc, hd⟩, _⟩ := st
    have e' : b = e ∨ b = it := by simpa using hb
    rcases e' with z | z
    · rw [z]; exact ⟨_, he, fun v q => nomatch q⟩
    · rw [z]; exact ⟨o, ho, fun v q => by rw [hd] at q; cases q⟩
  keep := fun i h h' st k => let ⟨⟨old, he⟩, hi, hne⟩ := st; ⟨⟨old, k e (by simp) _ he⟩, hi.at fun o q => k it (by simp) o q, hne⟩
  item := by
    intro X hP hw hK hc i pins s σ H E I hf st hg
    subst hP hw hK
    obtain ⟨⟨old, he⟩, hit, hne⟩ := st
    obtain ⟨xs, x, hq, hx⟩ := hg
    obtain ⟨its, rv, p, hz⟩ := I.list hq
    obtain ⟨u, hu, ru⟩ := rv.get hx
    have hel : e < s.heap.objs.size := Heap.lt_size he
    have hil : it < s.heap.objs.size := by obtain ⟨_, q, _⟩ := hit; exact Heap.lt_size q
    refine wpAny_pyNext_enum_item he hit p.isList (x := u) (by simpa using hu) hne fun h' ho hit' hT hsz hk => ?_
    refine ⟨_, rfl, wpAny_letOwnedTupleGo_enum (s := { s with heap := h', toks := s.toks + 1 }) ho fun h'' he' sb => ?_⟩
    have hT2 : h''.get? s.heap.objs.size = some { cls := .type "tuple", data := .seq #[.int i s.toks, u] } := (sb.2 _ (Nat.ne_of_gt hel)).trans hT
    have new : ObjOk X.prog X.w (upd H s.heap.objs.size (.frz { cls := .type "tuple", data := .seq #[.int i s.toks, u] } (.tup [.int (i : Nat), x]))) h'' s.heap.objs.size (.frz { cls := .type "tuple", data := .seq #[.int i s.toks, u] } (.tup [.int (i : Nat), x])) :=
      ⟨hT2, by show 2 ≤ sizeLine; decide, [.int i s.toks, u], .cons ⟨_, rfl⟩ (.cons ru .nil), ⟨_, hT2, rfl, _, rfl⟩⟩
    have I1 : Inv X pins σ (upd H s.heap.objs.size (.frz { cls := .type "tuple", data := .seq #[.int i s.toks, u] } (.tup [.int (i : Nat), x]))) { s with heap := h'', toks := s.toks + 1 } :=
      I.turnedNew (ch := [e, it]) (fun b ob hb q => (sb.2 b (fun z => hb (by simp [z]))).trans (hk b ob (fun z => hb (by simp [z])) (fun z => hb (by simp [z])) q)) hf (Nat.le_refl _) new
    refine ⟨.ref s.heap.objs.size, _, I1, rfl, ⟨_, _, x, rfl, I.hok.fresh (Nat.le_refl _), rfl, rfl, fun ys hy => by rw [I.list_inj hy hq]; exact hx⟩, ⟨⟨u, ?_⟩, hit'.at fun o q => (sb.2 it (Ne.symm hne)).trans q, hne⟩, fun b hb => ?_⟩
    · have e1 : ((i + 1 : Nat) : Int) = (i : Int) + 1 := by omega
      rw [e1]; exact he'
    · have hb' : b < s.heap.objs.size := by
        have e' : b = e ∨ b = it := by simpa using hb
        rcases e' with z | z
        · rw [z]; exact hel
        · rw [z]; exact hil
      rw [upd_ne (Nat.ne_of_lt hb')]
      exact (hf b hb).1
  done := by
    intro X hP hw hK hc i pins s σ H E I hf st hg
    subst hP hw hK
    obtain ⟨⟨old, he⟩, hit, hne⟩ := st
    obtain ⟨xs, hq, hx⟩ := hg
    obtain ⟨its, rv, p, hz⟩ := I.list hq
    obtain ⟨f0, f1, f2, f3, f4, f5⟩ := hf it (by simp)
    have hl := rv.length
    exact wpAny_pyNext_enum_end (I.ok.hd hc) he hit p.isList (by simp; omega) fun h' eb => ⟨rfl, I.turned (t' := s.toks) (fun b o hb q => eb b o hb q) f0 f1 f3 f4 f5⟩
  self := fun A i s Q E st h => let ⟨⟨_, he⟩, _⟩ := st; wpAny_pyIter_enum he h
def iEnumD (K : PySem.W.Frag) (ta : TA) : TI := fun σ H R => ta σ H fun vs H1 => ∃ a xs, vs = [.ref a] ∧ SqL K H1 a xs ∧ R (IteD K a) H1
theorem pi_enumD {X : Cx} {e : Expr} {ta : TA} {p pos tpos : Pos} {elts : List Expr} {kk : Nat} (hg : Gl X "enumerate") (hm : X.mg "enumerate" = none) (ha : PA X [e] ta) (hs : starEach [e] X.env = [(false, eval e X.env)] := by rfl) :
    PI X (.Tuple elts kk tpos) (.Call (.Name "enumerate" p) [e] [] pos) (iEnumD X.K ta) := by
  refine ⟨fun pins s σ H R I h => ?_⟩
  refine Call_ (ld_blt I hg hm boot_enumerate (PyProof.Rows.callWith_type1 (thn (ha.run pos pins s σ H _ I h) fun us s1 ⟨vs, H1, I1, r1, q1⟩ => ?_) hs rfl))
  obtain ⟨a, xs, ex, hq, q⟩ := q1
  subst ex
  cases r1 with
  | cons r rr =>
    cases rr
    cases r
    obtain ⟨its, rv, p', hz⟩ := I1.list hq
    refine call_enumerate_list p'.isList fun h' he hit hsz hk => wpAny_pyIter_enum he ?_
    have I2 : Inv X pins σ H1 { s1 with heap := h' } := I1.kept (t' := s1.toks) hk
    refine ⟨s1.heap.objs.size + 1, [s1.heap.objs.size + 1, s1.heap.objs.size], _, _, H1, rfl, I2, turn_enumD a (s1.heap.objs.size + 1) s1.heap.objs.size, ⟨⟨.none, he⟩, hit, Nat.succ_ne_self _⟩, fun b hb => ?_, q⟩
    have e' : b = s1.heap.objs.size + 1 ∨ b = s1.heap.objs.size := by simpa using hb
    have hle : s1.heap.objs.size ≤ b := by
      rcases e' with z | z
      · rw [z]; exact Nat.le_add_right _ _
      · rw [z]; exact Nat.le_refl _
    exact I1.fpOk hle (I1.hok.fresh hle)
/-! .. of a tuple -/
set_option maxHeartbeats 1000000 in
theorem meets_enumerate_newT (l : Addr) (items : Array Value) (n : Nat) (dct : Option Addr) (sl : Array (Option Value)) :
    Meets (Builtin.«enumerate.__new__» ⟨[.type "enumerate", .ref l], []⟩) (fun _ R s => s.heap.get? l = some { cls := .type "tuple", dict := dct, data := .seq items n, slots := sl } ∧
      R (.ok (.ret (.ref (s.heap.push { cls := .type "tuple_iterator", data := .fields #[.ref l, .int 0 0] }).objs.size)))
        { s with heap := (s.heap.push { cls := .type "tuple_iterator", data := .fields #[.ref l, .int 0 0] }).push { cls := .type "enumerate", data := .fields #[.none, .bool false, .ref s.heap.objs.size, rawInt 0, .none, .none] } }) :=
  .of_wp fun prog w A R s h => by
    obtain ⟨hp, g, d, tk, os⟩ := s; obtain ⟨hl, h⟩ := h
    have hsub := sub_enumerate
    have hL : Heap.IsTuple (Shared.heap ⟨hp, g, d, tk, os⟩) l items := ⟨_, hl, rfl, n, rfl⟩
    wp_walk using AutoSeq1.wpAny_loadPart' hl
    refine wpAny_stack_any fun st => wpAny_pure ?_
    split
    · rename_i c _ _ _ _ _
      cases (c == Value.type "enumerate")
      · wp_walk using AutoSeq1.wpAny_loadPart' hl, wpAny_pyIter_tuple hL
        exact ⟨_, rfl, h⟩
      · wp_walk using AutoSeq1.wpAny_loadPart' hl, wpAny_pyIter_tuple hL
        exact ⟨_, rfl, h⟩
    · wp_walk using AutoSeq1.wpAny_loadPart' hl, wpAny_pyIter_tuple hL
      exact ⟨_, rfl, h⟩
theorem call_enumerate_tuple {prog : Program} {w : World} {A : Around} {E : Value → Shared → Prop} {s : Shared} {l : Addr} {items : Array Value} {Q : Value → Shared → Prop} (hL : s.heap.IsTuple l items)
    (h : ∀ h', IsEnum h' (s.heap.objs.size + 1) s.heap.objs.size 0 .none → h'.IsTupleIter s.heap.objs.size l 0 → h'.objs.size = s.heap.objs.size + 2 →
      (∀ b o, s.heap.get? b = some o → h'.get? b = some o) → Q (.ref (s.heap.objs.size + 1)) { s with heap := h' }) :
    wpAny (model prog w) A (call (.type "enumerate") [.ref l]) Q E s := by
  obtain ⟨⟨c, dct, dt, sl⟩, hl, hc, n, hd⟩ := hL
  replace hc : c = .type "tuple" := hc
  replace hd : dt = .seq items n := hd
  subst hc hd
  refine callType_new F.called_enumerate (by decide) (F.typeCall_enumerate_1 _) (F.newCall_enumerate_1 _) (fun obj => F.args_object_init_2 obj _) F.entry_enumerate_new
    (meets_enumerate_newT l items n dct sl) ⟨hl, ?_⟩
  have hz : (s.heap.push { cls := .type "tuple_iterator", data := .fields #[.ref l, .int 0 0] }).objs.size = s.heap.objs.size + 1 := Heap.size_push ..
  show _ ∧ _
  rw [hz]
  have he : IsEnum ((s.heap.push { cls := .type "tuple_iterator", data := .fields #[.ref l, .int 0 0] }).push
      { cls := .type "enumerate", data := .fields #[.none, .bool false, .ref s.heap.objs.size, rawInt 0, .none, .none] }) (s.heap.objs.size + 1) s.heap.objs.size 0 .none := by
    have := Heap.get?_push_size (s.heap.push { cls := .type "tuple_iterator", data := .fields #[.ref l, .int 0 0] })
      (o := { cls := .type "enumerate", data := .fields #[.none, .bool false, .ref s.heap.objs.size, rawInt 0, .none, .none] }) rfl
    rw [hz] at this; exact this
  refine ⟨⟨_, he, rfl⟩, h _ he ⟨_, Heap.get?_push_of_some _ (Heap.get?_push_size _ rfl), rfl, rfl⟩ (by rw [Heap.size_push, hz]) fun b o x => Heap.get?_push_of_some _ (Heap.get?_push_of_some _ x)⟩
theorem enum_endT {prog : Program} {w : World} {A : Around} {E : Value → Shared → Prop} {s : Shared} {e it t : Addr} {items : Array Value} {k : Nat} {i : Int} {old : Value} {Q : Option Value → Shared → Prop} (hh : A.handled = none)
    (he : IsEnum s.heap e it i old) (hit : s.heap.IsTupleIter it t k) (ht : s.heap.IsTuple t items) (hx : items[k]? = none)
    (hQ : ∀ h', Heap.ExtBut it s.heap h' → Q none { s with heap := h' }) : wpAny (model prog w) A (pyNext (.ref e)) Q E s := by
  have hT : s.TypeIs (.ref e) "enumerate" := ⟨_, he, rfl⟩
  unfold pyNext
  refine wpAny_bind (wpAny_attempt (wpAny_callSpecial?_slot (name := Str.ofString "__next__") hT F.slot_enumerate_next
    (wpAny_call_entry F.slot_enumerate_next hT F.entry_enumerate_next ?_ (F.args_enumerate_next_1 _))))
  show wpAny _ _ (field (.ref e) 2 >>= _) _ _ _
  refine wpAny_bind (wpAny_field he rfl (x := .ref it) rfl ?_)
  refine wpAny_bind (wpAny_nextOf_tuple_end hh hit ht hx fun h' x he' hx' => ?_)
  obtain ⟨o, ho, hc⟩ := hx'
  refine wpAny_bind (wpAny_isInstance (T := "StopIteration") (b := true) ⟨o, ho, hc⟩ isSubtype_stop ?_)
  exact wpAny_pure (hQ _ he')
def IteT (K : PySem.W.Frag) (a : Addr) : It :=
  ⟨fun i H => ∃ (xs : List V) (x : V), SqT K H a xs ∧ xs[i]? = some x, fun i H v H' => ∃ T o x, v = .ref T ∧ H T = none ∧ o.dict = none ∧ H' = upd H T (.frz o (.tup [.int (i : Nat), x])) ∧ ∀ xs, SqT K H a xs → xs[i]? = some x, fun i H => ∃ xs : List V, SqT K H a xs ∧ xs.length ≤ i⟩
theorem turn_enumT {P : Program} {w : World} {K : PySem.W.Frag} {elts : List Expr} {kk : Nat} {tpos : Pos} (a e it : Addr) (hai : a ≠ it) :
    Turn P w K (.Tuple elts kk tpos) (IteT K a) [e, it] e (fun i h => (∃ old, IsEnum h e it ((i : Nat) : Int) old) ∧ h.IsTupleIter it a i ∧ e ≠ it ∧ a ≠ e) where
  mem := by simp
  obj := fun i h st b hb => by
    obtain ⟨⟨old, he⟩, ⟨o, ho, hc, hd⟩, _⟩ := st
    have e' : b = e ∨ b = it := by simpa using hb
    rcases e' with z | z
    · rw [z]; exact ⟨_, he, fun v q => nomatch q⟩
    · rw [z]; exact ⟨o, ho, fun v q => by rw [hd] at q; cases q⟩
  keep := fun i h h' st k => let ⟨⟨old, he⟩, hi, hne⟩ := st; ⟨⟨old, k e (by simp) _ he⟩, hi.at fun o q => k it (by simp) o q, hne⟩
  item := by
    intro X hP hw hK hc i pins s σ H E I hf st hg
    subst hP hw hK
    obtain ⟨⟨old, he⟩, hit, hne, hae⟩ := st
    obtain ⟨xs, x, hq, hx⟩ := hg
    obtain ⟨its, rv, p, hz⟩ := I.tuple hq
    obtain ⟨u, hu, ru⟩ := rv.get hx
    have hel : e < s.heap.objs.size := Heap.lt_size he
    have hil : it < s.heap.objs.size := by obtain ⟨_, q, _⟩ := hit; exact Heap.lt_size q
    have hi : i < its.toArray.size := by
      have := (List.getElem?_eq_some_iff.mp hu).1
      simpa using this
    refine wpAny_pyNext_enum_itemD (Draws.tuple (A := X.A.in1) (I.ok.hd hc) it a hai its.toArray) he ⟨hit, p⟩ hi hne (by simp; exact ⟨hne, Ne.symm hae⟩) fun y h' tk hy ho hst hT hsz hk => ?_
    have ey : y = u := by
      have := hy.symm.trans (show its.toArray[i]? = some u by simpa using hu)
      exact Option.some.inj this
    subst ey
    refine ⟨_, rfl, wpAny_letOwnedTupleGo_enum (s := { s with heap := h', toks := tk + 1 }) ho fun h'' he' sb => ?_⟩
    have hT2 : h''.get? s.heap.objs.size = some { cls := .type "tuple", data := .seq #[.int i tk, y] } := (sb.2 _ (Nat.ne_of_gt hel)).trans hT
    have new : ObjOk X.prog X.w (upd H s.heap.objs.size (.frz { cls := .type "tuple", data := .seq #[.int i tk, y] } (.tup [.int (i : Nat), x]))) h'' s.heap.objs.size (.frz { cls := .type "tuple", data := .seq #[.int i tk, y] } (.tup [.int (i : Nat), x])) :=
      ⟨hT2, by show 2 ≤ sizeLine; decide, [.int i tk, y], .cons ⟨_, rfl⟩ (.cons ru .nil), ⟨_, hT2, rfl, _, rfl⟩⟩
    have I1 : Inv X pins σ (upd H s.heap.objs.size (.frz { cls := .type "tuple", data := .seq #[.int i tk, y] } (.tup [.int (i : Nat), x]))) { s with heap := h'', toks := tk + 1 } :=
      I.turnedNew (ch := [e, it]) (fun b ob hb q => (sb.2 b (fun z => hb (by simp [z]))).trans (hk b ob (fun z => hb (by simp [z])) (fun z => hb (by simp [z])) q)) hf (Nat.le_refl _) new
    refine ⟨.ref s.heap.objs.size, _, I1, rfl, ⟨_, _, x, rfl, I.hok.fresh (Nat.le_refl _), rfl, rfl, fun ys hy => by rw [I.tuple_inj hy hq]; exact hx⟩, ⟨⟨y, ?_⟩, hst.1.at fun o q => (sb.2 it (Ne.symm hne)).trans q, hne, hae⟩, fun b hb => ?_⟩
    · have e1 : ((i + 1 : Nat) : Int) = (i : Int) + 1 := by omega
      rw [e1]; exact he'
    · have hb' : b < s.heap.objs.size := by
        have e' : b = e ∨ b = it := by simpa using hb
        rcases e' with z | z
        · rw [z]; exact hel
        · rw [z]; exact hil
      rw [upd_ne (Nat.ne_of_lt hb')]
      exact (hf b hb).1
  done := by
    intro X hP hw hK hc i pins s σ H E I hf st hg
    subst hP hw hK
    obtain ⟨⟨old, he⟩, hit, hne, hae⟩ := st
    obtain ⟨xs, hq, hx⟩ := hg
    obtain ⟨its, rv, p, hz⟩ := I.tuple hq
    obtain ⟨f0, f1, f2, f3, f4, f5⟩ := hf it (by simp)
    have hl := rv.length
    exact enum_endT (I.ok.hd hc) he hit p (by simp; omega) fun h' eb => ⟨rfl, I.turned (t' := s.toks) (fun b o hb q => eb b o hb q) f0 f1 f3 f4 f5⟩
  self := fun A i s Q E st h => let ⟨⟨_, he⟩, _⟩ := st; wpAny_pyIter_enum he h
def iEnumT (K : PySem.W.Frag) (ta : TA) : TI := fun σ H R => ta σ H fun vs H1 => ∃ a xs, vs = [.ref a] ∧ SqT K H1 a xs ∧ R (IteT K a) H1
def iEnumA (K : PySem.W.Frag) (ta : TA) : TI := fun σ H R => ta σ H fun vs H1 => ∃ a xs, vs = [.ref a] ∧ ((SqL K H1 a xs ∧ R (IteD K a) H1) ∨ (SqT K H1 a xs ∧ R (IteT K a) H1))
theorem pi_enumA {X : Cx} {e : Expr} {ta : TA} {p pos tpos : Pos} {elts : List Expr} {kk : Nat} (hg : Gl X "enumerate") (hm : X.mg "enumerate" = none) (ha : PA X [e] ta) (hs : starEach [e] X.env = [(false, eval e X.env)] := by rfl) :
    PI X (.Tuple elts kk tpos) (.Call (.Name "enumerate" p) [e] [] pos) (iEnumA X.K ta) := by
  refine ⟨fun pins s σ H R I h => ?_⟩
  refine Call_ (ld_blt I hg hm boot_enumerate (PyProof.Rows.callWith_type1 (thn (ha.run pos pins s σ H _ I h) fun us s1 ⟨vs, H1, I1, r1, q1⟩ => ?_) hs rfl))
  obtain ⟨a, xs, ex, hq⟩ := q1
  subst ex
  cases r1 with
  | cons r rr =>
    cases rr
    cases r
    have fin : ∀ b, b ∈ [s1.heap.objs.size + 1, s1.heap.objs.size] → s1.heap.objs.size ≤ b := fun b hb => by
      have e' : b = s1.heap.objs.size + 1 ∨ b = s1.heap.objs.size := by simpa using hb
      rcases e' with z | z
      · rw [z]; exact Nat.le_add_right _ _
      · rw [z]; exact Nat.le_refl _
    rcases hq with ⟨hq, q⟩ | ⟨hq, q⟩
    · obtain ⟨its, rv, p', hz⟩ := I1.list hq
      refine call_enumerate_list p'.isList fun h' he hit hsz hk => wpAny_pyIter_enum he ?_
      have I2 : Inv X pins σ H1 { s1 with heap := h' } := I1.kept (t' := s1.toks) hk
      exact ⟨s1.heap.objs.size + 1, [s1.heap.objs.size + 1, s1.heap.objs.size], _, _, H1, rfl, I2, turn_enumD a (s1.heap.objs.size + 1) s1.heap.objs.size, ⟨⟨.none, he⟩, hit, Nat.succ_ne_self _⟩, fun b hb => I1.fpOk (fin b hb) (I1.hok.fresh (fin b hb)), q⟩
    · obtain ⟨its, rv, p', hz⟩ := I1.tuple hq
      have hlt : a < s1.heap.objs.size := by obtain ⟨o, ho, _⟩ := p'; exact Heap.lt_size ho
      refine call_enumerate_tuple p' fun h' he hit hsz hk => wpAny_pyIter_enum he ?_
      have I2 : Inv X pins σ H1 { s1 with heap := h' } := I1.kept (t' := s1.toks) hk
      exact ⟨s1.heap.objs.size + 1, [s1.heap.objs.size + 1, s1.heap.objs.size], _, _, H1, rfl, I2, turn_enumT a (s1.heap.objs.size + 1) s1.heap.objs.size (Nat.ne_of_lt hlt), ⟨⟨.none, he⟩, hit, Nat.succ_ne_self _, Nat.ne_of_lt (Nat.lt_succ_of_lt hlt)⟩, fun b hb => I1.fpOk (fin b hb) (I1.hok.fresh (fin b hb)), q⟩
end Co
end
section
/-! Core1: values by value, a heap of live objects, the relation to HandS' abstract heap, readings of that relation. -/
namespace Co
open PySem PySem.Spec PyProof.Rows L2

/-- a value: tuples, lists that nobody changes, objects that nobody changes are by value; a live object by its address -/
inductive Cv where
  | non | bl (b : Bool) | int (i : Int) | str (x : Str) | tup (xs : List Cv) | lv (xs : List Cv) | fz (xs : List Cv) | ov (c : String) (fs : List (Str × Cv)) | ref (a : Addr)
  deriving Inhabited

/-- a live object -/
inductive Cob where
  | lst (xs : List Cv) | dct (kvs : List (Key × Cv)) | ins (c : String) (fs : List (Str × Cv)) | exc (c : String) | lck (tg : Obj × List (Key × V)) (kvs : List (Key × Cv))

abbrev CH := Addr → Option Cob
def cup (h : CH) (a : Addr) (o : Cob) : CH := fun b => if b = a then some o else h b
def cdel (h : CH) (a : Addr) : CH := fun b => if b = a then none else h b
theorem cup_same {h : CH} {a : Addr} {o : Cob} : cup h a o a = some o := by unfold cup; rw [if_pos rfl]
theorem cup_ne {h : CH} {a b : Addr} {o : Cob} (e : b ≠ a) : cup h a o b = h b := by unfold cup; rw [if_neg e]
theorem cup_cup {h : CH} {a : Addr} {o u : Cob} : cup (cup h a o) a u = cup h a u := by funext b; unfold cup; split <;> rfl
theorem cdel_cup {h : CH} {a : Addr} {o : Cob} (e : h a = none) : cdel (cup h a o) a = h := by
  funext b; unfold cdel cup; split
  · next q => rw [q, e]
  · rfl
theorem cup_id {h : CH} {a : Addr} {o : Cob} (e : h a = some o) : cup h a o = h := by
  funext b; unfold cup; split
  · next q => rw [q, e]
  · rfl

/-- the core's heap, and which tracked objects are live (some may be hidden from the core) -/
structure Wh where
  c : CH
  l : Addr → Prop
def wup (h : Wh) (a : Addr) (o : Cob) : Wh := ⟨cup h.c a o, fun b => b = a ∨ h.l b⟩
def wdel (h : Wh) (a : Addr) : Wh := ⟨cdel h.c a, fun b => b ≠ a ∧ h.l b⟩
def whide (h : Wh) (a : Addr) : Wh := ⟨h.c, fun b => b = a ∨ h.l b⟩
def wshow (h : Wh) (a : Addr) : Wh := ⟨h.c, fun b => b ≠ a ∧ h.l b⟩
/-- a list that nobody changes -/
def LvOk (K : PySem.W.Frag) (H : Hp) (h : Wh) (a : Addr) (xs : List V) : Prop :=
  (H a = some (.lst xs) ∧ ¬ h.l a) ∨ (∃ o, H a = some (.frz o (.lst xs))) ∨
    ∃ (o : Obj) (its : Array Value) (n : Nat), K.lookup a = some o ∧ o.cls = .type "list" ∧ o.dict = none ∧ o.data = .seq its n ∧ its.size ≤ sizeLine ∧ Vals xs its.toList
theorem LvOk.sq {K : PySem.W.Frag} {H : Hp} {h : Wh} {a : Addr} {xs : List V} (x : LvOk K H h a xs) : SqL K H a xs := by
  rcases x with ⟨x, _⟩ | x | x
  · exact .inl (.inl x)
  · exact .inl (.inr x)
  · exact .inr x

/-- the tuple at a has no dict of its own -/
def Dl (K : PySem.W.Frag) (H : Hp) (a : Addr) : Prop := (∃ o xs, H a = some (.frz o (.tup xs)) ∧ o.dict = none) ∨ ∃ o, K.lookup a = some o ∧ o.dict = none
mutual
inductive RelC (K : PySem.W.Frag) (cm : String → Addr) (H : Hp) (h : Wh) : Cv → V → Prop
  | non : RelC K cm H h .non .non
  | bl (b : Bool) : RelC K cm H h (.bl b) (.bl b)
  | int (i : Int) : RelC K cm H h (.int i) (.int i)
  | str (x : Str) : RelC K cm H h (.str x) (.str x)
  | ref (a : Addr) : RelC K cm H h (.ref a) (.ref a)
  | tup {a : Addr} {Vs : List V} {xs : List Cv} (e : SqT K H a Vs) (d : Dl K H a) (r : RelCs K cm H h xs Vs) : RelC K cm H h (.tup xs) (.ref a)
  | lv {a : Addr} {Vs : List V} {xs : List Cv} (e : H a = some (.lst Vs)) (n : ¬ h.l a) (r : RelCs K cm H h xs Vs) : RelC K cm H h (.lv xs) (.ref a)
  | fz {a : Addr} {Vs : List V} {xs : List Cv} (e : LvOk K H h a Vs) (r : RelCs K cm H h xs Vs) : RelC K cm H h (.fz xs) (.ref a)
  | ov {a dx : Addr} {c : String} {fs : List (Str × Cv)} {fV : List (Str × V)} (e : H a = some (.ins (cm c) dx fV)) (n : ¬ h.l a) (r : RelCf K cm H h fs fV) : RelC K cm H h (.ov c fs) (.ref a)
inductive RelCs (K : PySem.W.Frag) (cm : String → Addr) (H : Hp) (h : Wh) : List Cv → List V → Prop
  | nil : RelCs K cm H h [] []
  | cons {x : Cv} {v : V} {xs : List Cv} {vs : List V} (r : RelC K cm H h x v) (t : RelCs K cm H h xs vs) : RelCs K cm H h (x :: xs) (v :: vs)
inductive RelCf (K : PySem.W.Frag) (cm : String → Addr) (H : Hp) (h : Wh) : List (Str × Cv) → List (Str × V) → Prop
  | nil : RelCf K cm H h [] []
  | cons {f : Str} {x : Cv} {v : V} {xs : List (Str × Cv)} {vs : List (Str × V)} (r : RelC K cm H h x v) (t : RelCf K cm H h xs vs) : RelCf K cm H h ((f, x) :: xs) ((f, v) :: vs)
end

/-- what is not live stays -/
structure Le0 (H : Hp) (h : Wh) (H' : Hp) (h' : Wh) : Prop where
  st : ∀ a o, H a = some o → ¬ h.l a → H' a = some o ∧ ¬ h'.l a
/-- what is tracked and not the core's stays -/
structure Le (H : Hp) (h : Wh) (H' : Hp) (h' : Wh) : Prop where
  st : ∀ a o, H a = some o → h.c a = none → H' a = some o ∧ h'.c a = none ∧ (h'.l a ↔ h.l a)
theorem Le.refl {H : Hp} {h : Wh} : Le H h H h := ⟨fun _ _ e n => ⟨e, n, Iff.rfl⟩⟩
theorem Le.trans {H H1 H2 : Hp} {h h1 h2 : Wh} (x : Le H h H1 h1) (y : Le H1 h1 H2 h2) : Le H h H2 h2 := ⟨fun a o e n => let ⟨e1, n1, i1⟩ := x.st a o e n; let ⟨e2, n2, i2⟩ := y.st a o e1 n1; ⟨e2, n2, i2.trans i1⟩⟩

/-- at a: an error of the class at C that was caught and is kept -/
def exk (a C : Addr) : HO := .ext fun h => ∃ oe : Obj, h.get? a = some oe ∧ oe.cls = .ref C ∧ oe.dict = none ∧ ∃ vs, oe.data = .fields vs
theorem exk_tup {a C : Addr} (xs : List V) : exk a C ≠ .tup xs := fun z => by
  have z' : HO.ext _ = HO.tup xs := z
  cases z'
theorem exk_frz {a C : Addr} (o : Obj) (x : HO) : exk a C ≠ .frz o x := fun z => by
  have z' : HO.ext _ = HO.frz o x := z
  cases z'
/-- a live object and what is tracked there -/
def OkO (K : PySem.W.Frag) (cm : String → Addr) (H : Hp) (h : Wh) (a : Addr) : Cob → Prop
  | .lst xs => ∃ Vs, H a = some (.lst Vs) ∧ RelCs K cm H h xs Vs
  | .dct kvs => ∃ kV, H a = some (.dK kV) ∧ Paired (fun (p : Key × Cv) (q : Key × V) => p.1 = q.1 ∧ RelC K cm H h p.2 q.2) kvs kV
  | .ins c fs => ∃ dx fV, H a = some (.ins (cm c) dx fV) ∧ RelCf K cm H h fs fV
  | .exc c => H a = some (exk a (cm c))
  | .lck tg kvs => H a = some (.frz tg.1 (.dK tg.2)) ∧ Paired (fun (p : Key × Cv) (q : Key × V) => p.1 = q.1 ∧ RelC K cm H h p.2 q.2) kvs tg.2
structure Rst (K : PySem.W.Frag) (cm : String → Addr) (H : Hp) (h : Wh) : Prop where
  obj : ∀ a o, h.c a = some o → OkO K cm H h a o
  cl : ∀ a o, h.c a = some o → h.l a
  liv : ∀ a, h.l a → ∃ u, H a = some u ∧ (∀ xs, u ≠ .tup xs) ∧ (∀ ob x, (∀ kV, x ≠ .dK kV) → u ≠ .frz ob x)

section
variable {K : PySem.W.Frag} {cm : String → Addr} {H H' : Hp} {h h' : Wh} {a p : Addr}
theorem Rst.nl (S : Rst K cm H h) (n : H a = none) : ¬ h.l a := fun q => by
  obtain ⟨u, e1, _⟩ := S.liv a q
  rw [n] at e1
  cases e1
theorem Rst.nc (S : Rst K cm H h) (n : ¬ h.l a) : h.c a = none := by
  cases e : h.c a with
  | none => rfl
  | some o => exact (n (S.cl _ _ e)).elim
theorem Rst.dead (S : Rst K cm H h) (n : H a = none) : h.c a = none := S.nc (S.nl n)
theorem Rst.tupDead (S : Rst K cm H h) {xs : List V} (e : H a = some (.tup xs)) : ¬ h.l a := fun q => by
  obtain ⟨u, e1, e2, _⟩ := S.liv a q
  rw [e] at e1
  exact absurd (Option.some.inj e1).symm (e2 xs)
theorem Rst.frzDead (S : Rst K cm H h) {ob : Obj} {x : HO} (e : H a = some (.frz ob x)) (nd : ∀ kV, x ≠ .dK kV := by intro _ z; cases z) : ¬ h.l a := fun q => by
  obtain ⟨u, e1, _, e2⟩ := S.liv a q
  rw [e] at e1
  exact absurd (Option.some.inj e1).symm (e2 ob x nd)
theorem Le.z (S : Rst K cm H h) (l : Le H h H' h') : Le0 H h H' h' := ⟨fun a o e n => let ⟨e1, _, i1⟩ := l.st a o e (S.nc n); ⟨e1, fun q => n (i1.mp q)⟩⟩
theorem Le0.sqT (S : Rst K cm H h) (l : Le0 H h H' h') {Vs : List V} (e : SqT K H a Vs) : SqT K H' a Vs := by
  rcases e with (e | ⟨o, e⟩) | e
  · exact .inl (.inl (l.st _ _ e (S.tupDead e)).1)
  · exact .inl (.inr ⟨o, (l.st _ _ e (S.frzDead e)).1⟩)
  · exact .inr e
theorem Le0.dl (S : Rst K cm H h) (l : Le0 H h H' h') (e : Dl K H a) : Dl K H' a := by
  rcases e with ⟨o, xs, e, d⟩ | e
  · exact .inl ⟨o, xs, (l.st _ _ e (S.frzDead e)).1, d⟩
  · exact .inr e
theorem Le.dl (S : Rst K cm H h) (l : Le H h H' h') (e : Dl K H a) : Dl K H' a := (l.z S).dl S e
theorem Le0.lvOk (S : Rst K cm H h) (l : Le0 H h H' h') {Vs : List V} (e : LvOk K H h a Vs) : LvOk K H' h' a Vs := by
  rcases e with ⟨e, n⟩ | ⟨o, e⟩ | e
  · exact .inl (l.st _ _ e n)
  · exact .inr (.inl ⟨o, (l.st _ _ e (S.frzDead e)).1⟩)
  · exact .inr (.inr e)
theorem Le.sqT (S : Rst K cm H h) (l : Le H h H' h') {Vs : List V} (e : SqT K H a Vs) : SqT K H' a Vs := (l.z S).sqT S e
theorem Le.lvOk (S : Rst K cm H h) (l : Le H h H' h') {Vs : List V} (e : LvOk K H h a Vs) : LvOk K H' h' a Vs := (l.z S).lvOk S e
mutual
theorem RelC.mono0 (S : Rst K cm H h) (l : Le0 H h H' h') : ∀ {x : Cv} {v : V}, RelC K cm H h x v → RelC K cm H' h' x v
  | _, _, .non => .non
  | _, _, .bl b => .bl b
  | _, _, .int b => .int b
  | _, _, .str b => .str b
  | _, _, .ref b => .ref b
  | _, _, .tup e d r => .tup (l.sqT S e) (l.dl S d) (RelCs.mono0 S l r)
  | _, _, .lv e n r => .lv (l.st _ _ e n).1 (l.st _ _ e n).2 (RelCs.mono0 S l r)
  | _, _, .fz e r => .fz (l.lvOk S e) (RelCs.mono0 S l r)
  | _, _, .ov e n r => .ov (l.st _ _ e n).1 (l.st _ _ e n).2 (RelCf.mono0 S l r)
theorem RelCs.mono0 (S : Rst K cm H h) (l : Le0 H h H' h') : ∀ {x : List Cv} {v : List V}, RelCs K cm H h x v → RelCs K cm H' h' x v
  | _, _, .nil => .nil
  | _, _, .cons r t => .cons (RelC.mono0 S l r) (RelCs.mono0 S l t)
theorem RelCf.mono0 (S : Rst K cm H h) (l : Le0 H h H' h') : ∀ {x : List (Str × Cv)} {v : List (Str × V)}, RelCf K cm H h x v → RelCf K cm H' h' x v
  | _, _, .nil => .nil
  | _, _, .cons r t => .cons (RelC.mono0 S l r) (RelCf.mono0 S l t)
end
theorem RelC.mono (S : Rst K cm H h) (l : Le H h H' h') {x : Cv} {v : V} (r : RelC K cm H h x v) : RelC K cm H' h' x v := r.mono0 S (l.z S)
theorem RelCs.mono (S : Rst K cm H h) (l : Le H h H' h') {x : List Cv} {v : List V} (r : RelCs K cm H h x v) : RelCs K cm H' h' x v := r.mono0 S (l.z S)
theorem RelCf.mono (S : Rst K cm H h) (l : Le H h H' h') {x : List (Str × Cv)} {v : List (Str × V)} (r : RelCf K cm H h x v) : RelCf K cm H' h' x v := r.mono0 S (l.z S)
theorem RelCs.length {xs : List Cv} {vs : List V} (r : RelCs K cm H h xs vs) : xs.length = vs.length := by
  induction xs generalizing vs with
  | nil => cases r; rfl
  | cons x xs ih => cases r with | cons r t => simp [ih t]
theorem RelCs.get {xs : List Cv} {vs : List V} (r : RelCs K cm H h xs vs) {i : Nat} {x : Cv} (e : xs[i]? = some x) : ∃ v, vs[i]? = some v ∧ RelC K cm H h x v := by
  induction xs generalizing vs i with
  | nil => simp at e
  | cons y xs ih =>
    cases r with
    | cons r t =>
      cases i with
      | zero => simp at e; subst e; exact ⟨_, rfl, r⟩
      | succ i => simp at e; obtain ⟨v, e1, e2⟩ := ih t e; exact ⟨v, by simpa using e1, e2⟩
theorem RelCs.append {xs ys : List Cv} {vs us : List V} (r : RelCs K cm H h xs vs) (q : RelCs K cm H h ys us) : RelCs K cm H h (xs ++ ys) (vs ++ us) := by
  induction xs generalizing vs with
  | nil => cases r; exact q
  | cons y xs ih => cases r with | cons r t => exact .cons r (ih t)
theorem RelCs.take {xs : List Cv} {vs : List V} (r : RelCs K cm H h xs vs) (n : Nat) : RelCs K cm H h (xs.take n) (vs.take n) := by
  induction xs generalizing vs n with
  | nil => cases r; simp; exact .nil
  | cons y xs ih => cases r with | cons r t => cases n with | zero => exact .nil | succ n => exact .cons r (ih t n)
theorem RelCs.drop {xs : List Cv} {vs : List V} (r : RelCs K cm H h xs vs) (n : Nat) : RelCs K cm H h (xs.drop n) (vs.drop n) := by
  induction xs generalizing vs n with
  | nil => cases r; simp; exact .nil
  | cons y xs ih => cases r with | cons r t => cases n with | zero => exact .cons r t | succ n => exact ih t n
theorem RelCs.set {xs : List Cv} {vs : List V} (r : RelCs K cm H h xs vs) (n : Nat) {x : Cv} {v : V} (q : RelC K cm H h x v) : RelCs K cm H h (xs.set n x) (vs.set n v) := by
  induction xs generalizing vs n with
  | nil => cases r; exact .nil
  | cons y xs ih => cases r with | cons r t => cases n with | zero => exact .cons q t | succ n => exact .cons r (ih t n)
theorem RelCs.rev {xs : List Cv} {vs : List V} (r : RelCs K cm H h xs vs) : RelCs K cm H h xs.reverse vs.reverse := by
  induction xs generalizing vs with
  | nil => cases r; exact .nil
  | cons y xs ih => cases r with | cons r t => rw [List.reverse_cons, List.reverse_cons]; exact (ih t).append (.cons r .nil)
theorem RelCs.erase {xs : List Cv} {vs : List V} (r : RelCs K cm H h xs vs) (n : Nat) : RelCs K cm H h (xs.eraseIdx n) (vs.eraseIdx n) := by
  induction xs generalizing vs n with
  | nil => cases r; exact .nil
  | cons y xs ih => cases r with | cons r t => cases n with | zero => exact t | succ n => exact .cons r (ih t n)
theorem RelCs.ints {ns : List Int} : RelCs K cm H h (ns.map .int) (ns.map .int) := by
  induction ns with
  | nil => exact .nil
  | cons n ns ih => exact .cons (.int n) ih
theorem RelCs.inv_ints : ∀ {ns : List Int} {vs : List V}, RelCs K cm H h (ns.map .int) vs → vs = ns.map .int
  | [], _, .nil => rfl
  | _ :: _, _, .cons (.int _) t => by rw [RelCs.inv_ints t]; rfl
theorem RelCs.inv_strs : ∀ {ns : List Str} {vs : List V}, RelCs K cm H h (ns.map .str) vs → vs = ns.map .str
  | [], _, .nil => rfl
  | _ :: _, _, .cons (.str _) t => by rw [RelCs.inv_strs t]; rfl
theorem RelCs.inv_bls : ∀ {ns : List Bool} {vs : List V}, RelCs K cm H h (ns.map .bl) vs → vs = ns.map .bl
  | [], _, .nil => rfl
  | _ :: _, _, .cons (.bl _) t => by rw [RelCs.inv_bls t]; rfl

theorem OkO.mono0 (S : Rst K cm H h) (l : Le0 H h H' h') {o : Cob} (x : OkO K cm H h a o) (e : ∀ u, H a = some u → H' a = some u) : OkO K cm H' h' a o := by
  cases o with
  | lst xs => obtain ⟨Vs, e1, r⟩ := x; exact ⟨Vs, e _ e1, r.mono0 S l⟩
  | dct xs => obtain ⟨Vs, e1, r⟩ := x; exact ⟨Vs, e _ e1, L2.Paired.mapP r fun _ _ q => ⟨q.1, q.2.mono0 S l⟩⟩
  | ins c xs => obtain ⟨dx, Vs, e1, r⟩ := x; exact ⟨dx, Vs, e _ e1, r.mono0 S l⟩
  | exc c => exact e _ x
  | lck tg xs => obtain ⟨e1, r⟩ := x; exact ⟨e _ e1, L2.Paired.mapP r fun _ _ q => ⟨q.1, q.2.mono0 S l⟩⟩
theorem OkO.live {o : Cob} (x : OkO K cm H h a o) : ∃ u, H a = some u ∧ (∀ xs, u ≠ .tup xs) ∧ (∀ ob x, (∀ kV, x ≠ .dK kV) → u ≠ .frz ob x) := by
  cases o with
  | lst xs => obtain ⟨Vs, e1, _⟩ := x; exact ⟨_, e1, fun _ z => (by cases z), fun _ _ _ z => (by cases z)⟩
  | dct xs => obtain ⟨Vs, e1, _⟩ := x; exact ⟨_, e1, fun _ z => (by cases z), fun _ _ _ z => (by cases z)⟩
  | ins c xs => obtain ⟨_, Vs, e1, _⟩ := x; exact ⟨_, e1, fun _ z => (by cases z), fun _ _ _ z => (by cases z)⟩
  | exc c => exact ⟨_, x, exk_tup, fun o x _ => exk_frz o x⟩
  | lck tg xs => obtain ⟨e1, _⟩ := x; exact ⟨_, e1, fun _ z => (by cases z), fun _ _ n z => by cases z; exact n _ rfl⟩
/-- a new object that is tracked alone -/
theorem Le.plain (S : Rst K cm H h) (n : H p = none) {o : HO} : Le H h (upd H p o) h := ⟨fun b u e q => ⟨by rw [upd_ne (ne_of_none e n)]; exact e, q, Iff.rfl⟩⟩
theorem Rst.plain (S : Rst K cm H h) (n : H p = none) {o : HO} : Rst K cm (upd H p o) h :=
  ⟨fun b u e => (S.obj b u e).mono0 S ((Le.plain S n).z S) fun w z => by rw [upd_ne (ne_of_none z n)]; exact z, S.cl, fun b q => let ⟨u, e, k⟩ := S.liv b q; ⟨u, by rw [upd_ne (ne_of_none e n)]; exact e, k⟩⟩
/-- a new live object -/
theorem Le.new (S : Rst K cm H h) (n : H p = none) {o : HO} {u : Cob} : Le H h (upd H p o) (wup h p u) := ⟨fun b w e q =>
  have ne := ne_of_none e n
  ⟨by rw [upd_ne ne]; exact e, (cup_ne ne).trans q, ⟨fun z => z.elim (fun y => (ne y).elim) id, .inr⟩⟩⟩
theorem Rst.new (S : Rst K cm H h) (n : H p = none) {o : HO} {u : Cob} (x : OkO K cm (upd H p o) (wup h p u) p u) : Rst K cm (upd H p o) (wup h p u) := by
  refine ⟨fun b w e => ?_, fun b w e => ?_, fun b q => ?_⟩
  · by_cases q : b = p
    · subst q
      have e' : cup h.c b u b = some w := e
      rw [cup_same] at e'
      cases e'
      exact x
    · have e' : cup h.c p u b = some w := e
      rw [cup_ne q] at e'
      exact (S.obj b w e').mono0 S ((Le.new S n).z S) fun z y => by rw [upd_ne q]; exact y
  · by_cases q : b = p
    · exact .inl q
    · have e' : cup h.c p u b = some w := e
      rw [cup_ne q] at e'
      exact .inr (S.cl b w e')
  · rcases q with rfl | q
    · exact x.live
    · obtain ⟨v, e, k⟩ := S.liv b q
      exact ⟨v, by rw [upd_ne (ne_of_none e n)]; exact e, k⟩
/-- a live object is written -/
theorem Le.write (S : Rst K cm H h) {o u : Cob} {w : HO} (e : h.c a = some o) : Le H h (upd H a w) (wup h a u) := ⟨fun b z q n => by
  have ne : b ≠ a := fun y => by rw [y, e] at n; cases n
  exact ⟨by rw [upd_ne ne]; exact q, (cup_ne ne).trans n, ⟨fun z => z.elim (fun y => (ne y).elim) id, .inr⟩⟩⟩
theorem Rst.write (S : Rst K cm H h) {o u : Cob} {w : HO} (e : h.c a = some o) (x : OkO K cm (upd H a w) (wup h a u) a u) : Rst K cm (upd H a w) (wup h a u) := by
  refine ⟨fun b z q => ?_, fun b z q => ?_, fun b q => ?_⟩
  · by_cases y : b = a
    · subst y
      have q' : cup h.c b u b = some z := q
      rw [cup_same] at q'
      cases q'
      exact x
    · have q' : cup h.c a u b = some z := q
      rw [cup_ne y] at q'
      exact (S.obj b z q').mono0 S ((Le.write S e).z S) fun _ r => by rw [upd_ne y]; exact r
  · by_cases y : b = a
    · exact .inl y
    · have q' : cup h.c a u b = some z := q
      rw [cup_ne y] at q'
      exact .inr (S.cl b z q')
  · by_cases y : b = a
    · subst y
      exact x.live
    · rcases q with q | q
      · exact (y q).elim
      · obtain ⟨v, e1, k⟩ := S.liv b q
        exact ⟨v, by rw [upd_ne y]; exact e1, k⟩
/-- a live object is frozen -/
theorem Le.freeze {o : Cob} (e : h.c a = some o) : Le H h H (wdel h a) := ⟨fun b z q n => by
  have ne : b ≠ a := fun y => by rw [y, e] at n; cases n
  exact ⟨q, by show cdel h.c a b = none; unfold cdel; rw [if_neg ne]; exact n, ⟨fun z => z.2, fun z => ⟨ne, z⟩⟩⟩⟩
theorem Rst.freeze (S : Rst K cm H h) {o : Cob} (e : h.c a = some o) : Rst K cm H (wdel h a) := by
  refine ⟨fun b z q => ?_, fun b z q => ?_, fun b q => S.liv b q.2⟩
  · have q' : cdel h.c a b = some z := q
    unfold cdel at q'
    split at q'
    · cases q'
    · exact (S.obj b z q').mono0 S ((Le.freeze e).z S) fun _ r => r
  · have q' : cdel h.c a b = some z := q
    unfold cdel at q'
    split at q'
    · cases q'
    · next ne => exact ⟨ne, S.cl b z q'⟩
/-- a new object, live but hidden from the core -/
theorem Le.hide (S : Rst K cm H h) (n : H p = none) {o : HO} : Le H h (upd H p o) (whide h p) := ⟨fun b w e q =>
  have ne := ne_of_none e n
  ⟨by rw [upd_ne ne]; exact e, q, ⟨fun z => z.elim (fun y => (ne y).elim) id, .inr⟩⟩⟩
theorem Rst.hide (S : Rst K cm H h) (n : H p = none) {xs : List V} : Rst K cm (upd H p (.lst xs)) (whide h p) := by
  refine ⟨fun b w e => ?_, fun b w e => .inr (S.cl b w e), fun b q => ?_⟩
  · have ne : b ≠ p := fun q => by
      have := S.dead n
      rw [← q] at this
      have e' : h.c b = some w := e
      rw [this] at e'
      cases e'
    exact (S.obj b w e).mono0 S ((Le.hide S n).z S) fun z y => by rw [upd_ne ne]; exact y
  · rcases q with rfl | q
    · exact ⟨_, upd_same, fun _ z => (by cases z), fun _ _ _ z => (by cases z)⟩
    · obtain ⟨v, e, k⟩ := S.liv b q
      exact ⟨v, by rw [upd_ne (ne_of_none e n)]; exact e, k⟩
/-- a hidden one is written -/
theorem Le0.hid (q : h.l p) {o : HO} : Le0 H h (upd H p o) h := ⟨fun b w e n =>
  have ne : b ≠ p := fun y => n (y ▸ q)
  ⟨by rw [upd_ne ne]; exact e, n⟩⟩
theorem Rst.hid (S : Rst K cm H h) (q : h.l p) (n : h.c p = none) {xs : List V} : Rst K cm (upd H p (.lst xs)) h := by
  refine ⟨fun b w e => ?_, S.cl, fun b r => ?_⟩
  · have ne : b ≠ p := fun y => by rw [y, n] at e; cases e
    exact (S.obj b w e).mono0 S (Le0.hid q) fun z y => by rw [upd_ne ne]; exact y
  · by_cases y : b = p
    · subst y
      exact ⟨_, upd_same, fun _ z => (by cases z), fun _ _ _ z => (by cases z)⟩
    · obtain ⟨v, e, k⟩ := S.liv b r
      exact ⟨v, by rw [upd_ne y]; exact e, k⟩
/-- a hidden one is shown as a value -/
theorem Le0.shw : Le0 H h H (wshow h p) := ⟨fun b w e n => ⟨e, fun q => n q.2⟩⟩
theorem Rst.shw (S : Rst K cm H h) (n : h.c p = none) : Rst K cm H (wshow h p) :=
  ⟨fun b w e => (S.obj b w e).mono0 S Le0.shw fun _ y => y, fun b w e => ⟨(fun y => by
    have e' : h.c b = some w := e
    rw [y, n] at e'
    cases e'), S.cl b w e⟩, fun b q => S.liv b q.2⟩
end
end Co
end
section
/-! Core2: readings by the core's state; expressions, tests, statements, loops, defs. -/
namespace Co
open PySem PySem.Spec L2

abbrev CEnv := List (Option Cv)
abbrev Xc := String × List (Str × Cv)
abbrev XQ := Xc → CH → Prop
abbrev CT := CEnv → CH → (Cv → CH → Prop) → XQ → Prop
abbrev CTs := CEnv → CH → (List Cv → CH → Prop) → XQ → Prop
abbrev CB := CEnv → CH → (Bool → CH → Prop) → XQ → Prop
structure CEnds where
  nx : CEnv → CH → Prop
  rt : Cv → CH → Prop
  bk : CEnv → CH → Prop
  ct : CEnv → CH → Prop
  ex : Xc → CEnv → CH → Prop
abbrev CS := CEnv → CH → CEnds → Prop

section defs
variable (K : PySem.W.Frag) (cm : String → Addr)
structure REnv (H : Hp) (h : Wh) (env : CEnv) (σ : St) : Prop where
  len : env.length = σ.length
  at_ : ∀ (i : Nat) (c : Cv), env[i]? = some (some c) → ∃ v, σ[i]? = some (some v) ∧ RelC K cm H h c v
def RelX (H : Hp) (h : Wh) (x : Xc) (cls : Value) (d : Option Addr) : Prop :=
  cls = .ref (cm x.1) ∧ ((x.2 = [] ∧ d = none) ∨ ∃ dx fV, x.2 ≠ [] ∧ d = some dx ∧ H dx = some (.xd fV) ∧ ¬ h.l dx ∧ RelCf K cm H h x.2 fV)
def Cnv (H : Hp) (h : Wh) (q : Cv → CH → Prop) (Q : VK) : Prop := ∀ H' h' z V, Le H h H' h' → Rst K cm H' h' → RelC K cm H' h' z V → q z h'.c → Q V H'
def CnvL (H : Hp) (h : Wh) (q : List Cv → CH → Prop) (Q : List V → Hp → Prop) : Prop := ∀ H' h' z V, Le H h H' h' → Rst K cm H' h' → RelCs K cm H' h' z V → q z h'.c → Q V H'
def CnvB (H : Hp) (h : Wh) (q : Bool → CH → Prop) (Q : Bool → Hp → Prop) : Prop := ∀ H' h' b, Le H h H' h' → Rst K cm H' h' → q b h'.c → Q b H'
def CnvX (H : Hp) (h : Wh) (σ : St) (e : XQ) (W : WX) : Prop := ∀ H' h' x cls d, Le H h H' h' → Rst K cm H' h' → RelX K cm H' h' x cls d → e x h'.c → W cls d σ H'
def CnvS (H : Hp) (h : Wh) (q : CEnv → CH → Prop) (Q : St → Hp → Prop) : Prop := ∀ H' h' env σ, Le H h H' h' → Rst K cm H' h' → REnv K cm H' h' env σ → q env h'.c → Q σ H'
def CnvW (H : Hp) (h : Wh) (e : Xc → CEnv → CH → Prop) (W : WX) : Prop := ∀ H' h' env σ x cls d, Le H h H' h' → Rst K cm H' h' → REnv K cm H' h' env σ → RelX K cm H' h' x cls d → e x env h'.c → W cls d σ H'
def eOf (W : WX) (c : CT) : TE := fun σ H Q => ∃ h env q e, Rst K cm H h ∧ REnv K cm H h env σ ∧ c env h.c q e ∧ Cnv K cm H h q Q ∧ CnvX K cm H h σ e W
def aOf (W : WX) (c : CTs) : TA := fun σ H Q => ∃ h env q e, Rst K cm H h ∧ REnv K cm H h env σ ∧ c env h.c q e ∧ CnvL K cm H h q Q ∧ CnvX K cm H h σ e W
def bOf (W : WX) (c : CB) : TT := fun σ H Q => ∃ h env q e, Rst K cm H h ∧ REnv K cm H h env σ ∧ c env h.c q e ∧ CnvB K cm H h q Q ∧ CnvX K cm H h σ e W
def sOf (W : WX) (c : CS) : TS := fun D σ H => ∃ h env R, Rst K cm H h ∧ REnv K cm H h env σ ∧ c env h.c R ∧
  CnvS K cm H h R.nx D.nx ∧ Cnv K cm H h R.rt D.rt ∧ CnvS K cm H h R.bk D.bk ∧ CnvS K cm H h R.ct D.ct ∧ CnvW K cm H h R.ex W
end defs

section
variable {K : PySem.W.Frag} {cm : String → Addr} {H H' : Hp} {h h' : Wh} {W : WX} {σ : St} {env : CEnv}
theorem REnv.mono (S : Rst K cm H h) (l : Le H h H' h') (r : REnv K cm H h env σ) : REnv K cm H' h' env σ := ⟨r.len, fun i c e => let ⟨v, e1, r1⟩ := r.at_ i c e; ⟨v, e1, r1.mono S l⟩⟩
theorem REnv.set (r : REnv K cm H h env σ) (i : Nat) {c : Cv} {v : V} (q : RelC K cm H h c v) : REnv K cm H h (env.set i (some c)) (σ.set i (some v)) := ⟨by simp [r.len], fun j c' e => by
  by_cases hj : i = j
  · subst hj
    rw [List.getElem?_set] at e
    rw [if_pos rfl] at e
    split at e
    · cases e
      exact ⟨v, by rw [List.getElem?_set, if_pos rfl, if_pos (by rw [← r.len]; assumption)], q⟩
    · cases e
  · rw [List.getElem?_set_ne hj] at e
    rw [List.getElem?_set_ne hj]
    exact r.at_ j c' e⟩
theorem REnv.unset (r : REnv K cm H h env σ) (i : Nat) : REnv K cm H h (env.set i none) (σ.set i none) := ⟨by simp [r.len], fun j c' e => by
  by_cases hj : i = j
  · subst hj
    rw [List.getElem?_set] at e
    rw [if_pos rfl] at e
    split at e <;> cases e
  · rw [List.getElem?_set_ne hj] at e
    rw [List.getElem?_set_ne hj]
    exact r.at_ j c' e⟩
def cwipe (env : CEnv) : List Nat → CEnv
  | [] => env
  | v :: vs => (cwipe env vs).set v none
theorem REnv.wipe (r : REnv K cm H h env σ) : ∀ vs : List Nat, REnv K cm H h (cwipe env vs) (L2.wipe σ vs)
  | [] => r
  | v :: vs => (r.wipe vs).unset v
theorem Cnv.mono {q : Cv → CH → Prop} {Q : VK} (c : Cnv K cm H h q Q) (l : Le H h H' h') : Cnv K cm H' h' q Q := fun _ _ _ _ l2 => c _ _ _ _ (l.trans l2)
theorem CnvL.mono {q : List Cv → CH → Prop} {Q : List V → Hp → Prop} (c : CnvL K cm H h q Q) (l : Le H h H' h') : CnvL K cm H' h' q Q := fun _ _ _ _ l2 => c _ _ _ _ (l.trans l2)
theorem CnvB.mono {q : Bool → CH → Prop} {Q : Bool → Hp → Prop} (c : CnvB K cm H h q Q) (l : Le H h H' h') : CnvB K cm H' h' q Q := fun _ _ _ l2 => c _ _ _ (l.trans l2)
theorem CnvX.mono {e : XQ} (c : CnvX K cm H h σ e W) (l : Le H h H' h') : CnvX K cm H' h' σ e W := fun _ _ _ _ _ l2 => c _ _ _ _ _ (l.trans l2)
theorem CnvS.mono {q : CEnv → CH → Prop} {Q : St → Hp → Prop} (c : CnvS K cm H h q Q) (l : Le H h H' h') : CnvS K cm H' h' q Q := fun _ _ _ _ l2 => c _ _ _ _ (l.trans l2)
theorem CnvW.mono {e : Xc → CEnv → CH → Prop} (c : CnvW K cm H h e W) (l : Le H h H' h') : CnvW K cm H' h' e W := fun _ _ _ _ _ _ _ l2 => c _ _ _ _ _ _ _ (l.trans l2)
theorem CnvW.toX {e : Xc → CEnv → CH → Prop} (c : CnvW K cm H h e W) (S : Rst K cm H h) (r : REnv K cm H h env σ) : CnvX K cm H h σ (fun x h => e x env h) W := fun _ _ _ _ _ l s rx q => c _ _ _ _ _ _ _ l s (r.mono S l) rx q
end

section weak
variable {X : Cx}
theorem weakE {e : Expr} {t t' : TE} (w : ∀ σ H Q, t' σ H Q → t σ H Q) (p : PE X e t) : PE X e t' := ⟨fun pins s σ H Q I h => p.run pins s σ H Q I (w _ _ _ h)⟩
theorem weakT {e : Expr} {t t' : TT} (w : ∀ σ H Q, t' σ H Q → t σ H Q) (p : PT X e t) : PT X e t' := ⟨fun pins s σ H Q I h => p.run pins s σ H Q I (w _ _ _ h)⟩
theorem weakW {e : Expr} {t t' : TT} (w : ∀ σ H Q, t' σ H Q → t σ H Q) (p : PW X e t) : PW X e t' := ⟨fun wh pins s σ H Q I h => p.run wh pins s σ H Q I (w _ _ _ h)⟩
theorem weakA {e : List Expr} {t t' : TA} (w : ∀ σ H Q, t' σ H Q → t σ H Q) (p : PA X e t) : PA X e t' := ⟨fun po pins s σ H Q I h => p.run po pins s σ H Q I (w _ _ _ h)⟩
theorem weakS {e : Stmt} {t t' : TS} (w : ∀ D σ H, t' D σ H → t D σ H) (p : PS X e t) : PS X e t' := ⟨fun pins s σ H D I h => p.run pins s σ H D I (w _ _ _ h)⟩
theorem weakSs {e : List Stmt} {t t' : TS} (w : ∀ D σ H, t' D σ H → t D σ H) (p : PSs X e t) : PSs X e t' := ⟨fun pins s σ H D I h => p.run pins s σ H D I (w _ _ _ h)⟩
end weak

section expr
variable {X : Cx} {cm : String → Addr} {W : WX} {pos : Pos} {a b c : Expr} {ca cb cc : CT}

/-! ### names, constants -/
def cVar (i : Nat) : CT := fun env h q _ => match env[i]? with | some (some v) => q v h | _ => False
def cC (v : Cv) : CT := fun _ h q _ => q v h
theorem ce_var {i : Nat} {x : Str} (hN : X.N[i]? = some x) (hv : Vis X.env.scope x) (hd : (x == ("__debug__" : Str)) = false := by decide) (hcd : (x == ("__classdict__" : Str)) = false := by decide) :
    PE X (.Name x pos) (eOf X.K cm W (cVar i)) := weakE (fun σ H Q ⟨h, env, q, e, S, R, hc, k, _⟩ => by
  unfold cVar at hc
  split at hc
  · next v e1 =>
    obtain ⟨V, e2, r⟩ := R.at_ _ _ e1
    exact ⟨V, e2, k _ _ _ _ .refl S r hc⟩
  · exact hc.elim) (pe_var hN hv hd hcd)
theorem ce_int {i : Int} {j} : PE X (.Constant (.int i) j pos) (eOf X.K cm W (cC (.int i))) := weakE (fun σ H Q ⟨h, env, q, e, S, R, hc, k, _⟩ => k _ _ _ _ .refl S (.int i) hc) pe_int
theorem ce_bl {i : Bool} {j} : PE X (.Constant (.bool i) j pos) (eOf X.K cm W (cC (.bl i))) := weakE (fun σ H Q ⟨h, env, q, e, S, R, hc, k, _⟩ => k _ _ _ _ .refl S (.bl i) hc) pe_bl
theorem ce_str {i : Str} {j} : PE X (.Constant (.str i) j pos) (eOf X.K cm W (cC (.str i))) := weakE (fun σ H Q ⟨h, env, q, e, S, R, hc, k, _⟩ => k _ _ _ _ .refl S (.str i) hc) pe_str
theorem ce_non {j} : PE X (.Constant .none j pos) (eOf X.K cm W (cC .non)) := weakE (fun σ H Q ⟨h, env, q, e, S, R, hc, k, _⟩ => k _ _ _ _ .refl S .non hc) pe_non
/-- a constant of the module -/
theorem ce_glob {x : Str} {v : Cv} {V : V} {u : Value} (hg : Gl X x) (hm : X.mg x = some u) (r : RelV V u) (rc : ∀ H h, RelC X.K cm H h v V) (hd : (x == ("__debug__" : Str)) = false := by decide) :
    PE X (.Name x pos) (eOf X.K cm W (cC v)) := weakE (fun σ H Q ⟨h, env, q, e, S, R, hc, k, _⟩ => k _ _ _ _ .refl S (rc _ _) hc) (pe_glob hg hm r hd)

/-! ### operators by values -/
abbrev CG := Cv → Cv → CH → (Cv → CH → Prop) → Prop
def cOp2 (g : CG) (ca cb : CT) : CT := fun env h q e => ca env h (fun x h1 => cb env h1 (fun y h2 => g x y h2 q) e) e
/-- the core's operation g is answered by the layer's r -/
def OpC (K : PySem.W.Frag) (cm : String → Addr) (r : R2) (g : CG) : Prop := ∀ H (h : Wh) x y V U q Q, Rst K cm H h → RelC K cm H h x V → RelC K cm H h y U → g x y h.c q → Cnv K cm H h q Q → r V U H Q
theorem ce_op {op : Operator} {r : R2} {g : CG} (ho : OpR X (binaryOp op) r) (hg : OpC X.K cm r g) (ha : PE X a (eOf X.K cm W ca)) (hb : PE X b (eOf X.K cm W cb)) :
    PE X (.BinOp a op b pos) (eOf X.K cm W (cOp2 g ca cb)) := weakE (fun σ H Q ⟨h, env, q, e, S, R, hc, k, kx⟩ =>
  ⟨h, env, _, e, S, R, hc, fun H1 h1 x V l1 S1 r1 c1 => ⟨h1, env, _, e, S1, R.mono S l1, c1, fun H2 h2 y U l2 S2 r2 c2 => hg _ _ _ _ _ _ _ _ S2 (r1.mono S1 l2) r2 c2 (k.mono (l1.trans l2)), kx.mono l1⟩, kx⟩) (pe_op ho ha hb)
theorem ce_cmp {op : CmpOp} {r : R2} {g : CG} (ho : OpR X (compareOp op) r) (hg : OpC X.K cm r g) (ha : PE X a (eOf X.K cm W ca)) (hb : PE X b (eOf X.K cm W cb)) (hm : behindInMarks op b = false) :
    PE X (.Compare a [op] [b] pos) (eOf X.K cm W (cOp2 g ca cb)) := weakE (fun σ H Q ⟨h, env, q, e, S, R, hc, k, kx⟩ =>
  ⟨h, env, _, e, S, R, hc, fun H1 h1 x V l1 S1 r1 c1 => ⟨h1, env, _, e, S1, R.mono S l1, c1, fun H2 h2 y U l2 S2 r2 c2 => hg _ _ _ _ _ _ _ _ S2 (r1.mono S1 l2) r2 c2 (k.mono (l1.trans l2)), kx.mono l1⟩, kx⟩) (pe_cmpR ho ha hb hm)
/-- a value that is a truth, as a test -/
def cTest (c : CT) : CB := fun env h q e => c env h (fun x h1 => match x with | .bl b => q b h1 | _ => False) e
theorem cTest_conv {K : PySem.W.Frag} {H : Hp} {h : Wh} {q : Bool → CH → Prop} {Q : Bool → Hp → Prop} (k : CnvB K cm H h q Q) :
    Cnv K cm H h (fun x h1 => match x with | .bl b => q b h1 | _ => False) (fun x H' => ∃ b, x = .bl b ∧ Q b H') := fun H' h' z V l S r c => by
  cases r <;> first | exact c.elim | exact ⟨_, rfl, k _ _ _ l S c⟩
theorem ct_cmp {op : CmpOp} {r : R2} {g : CG} (ho : OpR X (compareOp op) r) (hg : OpC X.K cm r g) (ha : PE X a (eOf X.K cm W ca)) (hb : PE X b (eOf X.K cm W cb)) (hm : behindInMarks op b = false) :
    PT X (.Compare a [op] [b] pos) (bOf X.K cm W (cTest (cOp2 g ca cb))) := weakT (fun σ H Q ⟨h, env, q, e, S, R, hc, k, kx⟩ =>
  ⟨h, env, _, e, S, R, hc, fun H1 h1 x V l1 S1 r1 c1 => ⟨h1, env, _, e, S1, R.mono S l1, c1, fun H2 h2 y U l2 S2 r2 c2 => hg _ _ _ _ _ _ _ _ S2 (r1.mono S1 l2) r2 c2 (cTest_conv (k.mono (l1.trans l2))), kx.mono l1⟩, kx⟩) (pt_cmpR ho ha hb hm)
/-- a op b op' c -/
def cChain (g g' : CG) (ca cb cc : CT) : CT := fun env h q e => ca env h (fun x h1 => cb env h1 (fun y h2 => g x y h2 (fun z h3 => match z with | .bl b => if b = true then cc env h3 (fun w h4 => g' y w h4 q) e else q (.bl false) h3 | _ => False)) e) e
theorem cChain_conv {K : PySem.W.Frag} {r r' : R2} {g g' : CG} {tc : TE} {σ : St} {env : CEnv} {H : Hp} {h : Wh} {y : Cv} {U : V} {q : Cv → CH → Prop} {Q : VK} {e : XQ} (hg' : OpC K cm r' g') (S : Rst K cm H h) (R : REnv K cm H h env σ) (ry : RelC K cm H h y U)
    (htc : ∀ H1 Q, eOf K cm W cc σ H1 Q → tc σ H1 Q) (k : Cnv K cm H h q Q) (kx : CnvX K cm H h σ e W) :
    Cnv K cm H h (fun z h3 => match z with | .bl b => if b = true then cc env h3 (fun w h4 => g' y w h4 q) e else q (.bl false) h3 | _ => False)
      (fun z H3 => ∃ b, z = .bl b ∧ (if b = true then tc σ H3 (fun w' H4 => r' U w' H4 Q) else Q (.bl false) H3)) := fun H3 h3 z V l3 S3 r3 c3 => by
  cases r3 <;> first | exact c3.elim | skip
  next b =>
    refine ⟨_, rfl, ?_⟩
    cases b with
    | false => exact k _ _ _ _ l3 S3 (.bl _) c3
    | true => exact htc _ _ ⟨h3, env, _, e, S3, R.mono S l3, c3, fun H4 h4 w T l4 S4 r4 c4 => hg' _ _ _ _ _ _ _ _ S4 (ry.mono S (l3.trans l4)) r4 c4 (k.mono (l3.trans l4)), kx.mono l3⟩
theorem ce_chain {op op' : CmpOp} {r r' : R2} {g g' : CG} (ho : OpR X (compareOp op) r) (ho' : OpR X (compareOp op') r') (hg : OpC X.K cm r g) (hg' : OpC X.K cm r' g') (ha : PE X a (eOf X.K cm W ca)) (hb : PE X b (eOf X.K cm W cb)) (hc : PE X c (eOf X.K cm W cc))
    (hm : lastMarks [op, op'] [b, c] = false := by with_unfolding_all rfl) : PE X (.Compare a [op, op'] [b, c] pos) (eOf X.K cm W (cChain g g' ca cb cc)) := weakE (fun σ H Q ⟨h, env, q, e, S, R, hc, k, kx⟩ =>
  ⟨h, env, _, e, S, R, hc, fun H1 h1 x V l1 S1 r1 c1 => ⟨h1, env, _, e, S1, R.mono S l1, c1, fun H2 h2 y U l2 S2 r2 c2 =>
    hg _ _ _ _ _ _ _ _ S2 (r1.mono S1 l2) r2 c2 (cChain_conv (g := g) (r := r) hg' S2 (R.mono S (l1.trans l2)) r2 (fun _ _ z => z) (k.mono (l1.trans l2)) (kx.mono (l1.trans l2))), kx.mono l1⟩, kx⟩) (pe_chain ho ho' ha hb hc hm)
theorem ct_chain {op op' : CmpOp} {r r' : R2} {g g' : CG} (ho : OpR X (compareOp op) r) (ho' : OpR X (compareOp op') r') (hg : OpC X.K cm r g) (hg' : OpC X.K cm r' g') (ha : PE X a (eOf X.K cm W ca)) (hb : PE X b (eOf X.K cm W cb)) (hc : PE X c (eOf X.K cm W cc))
    (hm : lastMarks [op, op'] [b, c] = false := by with_unfolding_all rfl) : PT X (.Compare a [op, op'] [b, c] pos) (bOf X.K cm W (cTest (cChain g g' ca cb cc))) := weakT (fun σ H Q ⟨h, env, q, e, S, R, hc, k, kx⟩ =>
  ⟨h, env, _, e, S, R, hc, fun H1 h1 x V l1 S1 r1 c1 => ⟨h1, env, _, e, S1, R.mono S l1, c1, fun H2 h2 y U l2 S2 r2 c2 =>
    hg _ _ _ _ _ _ _ _ S2 (r1.mono S1 l2) r2 c2 (cChain_conv (g := g) (r := r) hg' S2 (R.mono S (l1.trans l2)) r2 (fun _ _ z => z) (cTest_conv (k.mono (l1.trans l2))) (kx.mono (l1.trans l2))), kx.mono l1⟩, kx⟩) (pt_chain ho ho' ha hb hc hm)

/-! ### one place -/
abbrev CU := Cv → CH → (Cv → CH → Prop) → Prop
def cOp1 (g : CU) (ca : CT) : CT := fun env h q e => ca env h (fun x h1 => g x h1 q) e
def UnC (K : PySem.W.Frag) (cm : String → Addr) (r : V → Hp → VK → Prop) (g : CU) : Prop := ∀ H (h : Wh) x V q Q, Rst K cm H h → RelC K cm H h x V → g x h.c q → Cnv K cm H h q Q → r V H Q
theorem ce_un {op : UnaryOp} {r : V → Hp → VK → Prop} {g : CU} (ho : UnR X (unaryOp op) r) (hg : UnC X.K cm r g) (ha : PE X a (eOf X.K cm W ca)) : PE X (.UnaryOp op a pos) (eOf X.K cm W (cOp1 g ca)) := weakE (fun σ H Q ⟨h, env, q, e, S, R, hc, k, kx⟩ =>
  ⟨h, env, _, e, S, R, hc, fun H1 h1 x V l1 S1 r1 c1 => hg _ _ _ _ _ _ S1 r1 c1 (k.mono l1), kx⟩) (pe_un ho ha)

/-! ### truth -/
def cTru (x : Cv) (h : CH) (q : Bool → Prop) : Prop :=
  match x with
  | .non => q false
  | .bl b => q b
  | .int i => q (i != 0)
  | .str y => y.length ≤ sizeLine ∧ q ((y.length : Int) != 0)
  | .tup xs => q (!xs.isEmpty)
  | .lv xs => q (!xs.isEmpty)
  | .fz xs => q (!xs.isEmpty)
  | .ref a => match h a with | some (.lst xs) => q (!xs.isEmpty) | some (.dct kvs) => q (!kvs.isEmpty) | _ => False
  | .ov _ _ => False
theorem RelCs.emp {K : PySem.W.Frag} {H : Hp} {h : Wh} {xs : List Cv} {vs : List V} (r : RelCs K cm H h xs vs) : vs.isEmpty = xs.isEmpty := by cases r <;> rfl
theorem Paired.emp {α β : Type} {p : α → β → Prop} {xs : List α} {vs : List β} (r : Paired p xs vs) : vs.isEmpty = xs.isEmpty := by cases r <;> rfl
theorem cTru_ok {K : PySem.W.Frag} {H : Hp} {h : Wh} {x : Cv} {V : V} {q : Bool → Prop} (S : Rst K cm H h) (r : RelC K cm H h x V) (c : cTru x h.c q) : ∃ k, TruV K V H k ∧ q k := by
  cases r with
  | non => exact ⟨_, rfl, c⟩
  | bl b => exact ⟨_, rfl, c⟩
  | int i => exact ⟨_, rfl, c⟩
  | str y => exact ⟨_, ⟨c.1, rfl⟩, c.2⟩
  | tup e d r => exact ⟨_, .inr (.inl ⟨_, e, rfl⟩), by rw [r.emp]; exact c⟩
  | lv e n r => exact ⟨_, .inl ⟨_, .inl (.inl e), rfl⟩, by rw [r.emp]; exact c⟩
  | fz e r => exact ⟨_, .inl ⟨_, e.sq, rfl⟩, by rw [r.emp]; exact c⟩
  | ref a =>
    unfold cTru at c
    dsimp only at c
    split at c
    · next xs e =>
      obtain ⟨Vs, e1, r1⟩ := S.obj _ _ e
      exact ⟨_, .inl ⟨_, .inl (.inl e1), rfl⟩, by rw [r1.emp]; exact c⟩
    · next xs e =>
      obtain ⟨Vs, e1, r1⟩ := S.obj _ _ e
      exact ⟨_, .inr (.inr ⟨_, e1, rfl⟩), by rw [Paired.emp r1]; exact c⟩
    · exact c.elim
  | ov _ _ _ => exact c.elim
/-- any value's truth, as a test -/
def cTt (c : CT) : CB := fun env h q e => c env h (fun x h1 => cTru x h1 fun b => q b h1) e
theorem ct_truth (ha : PE X a (eOf X.K cm W ca)) (he : ∀ whole, isTrue a X.env whole = (do let v ← whole; standAt a.pos; holding [v] (truthy v))) : PT X a (bOf X.K cm W (cTt ca)) := weakT (fun σ H Q ⟨h, env, q, e, S, R, hc, k, kx⟩ =>
  ⟨h, env, _, e, S, R, hc, fun H1 h1 x V l1 S1 r1 c1 => by
    obtain ⟨b, t, c⟩ := cTru_ok S1 r1 c1
    exact ⟨b, t, k _ _ _ l1 S1 c⟩, kx⟩) (pt_truth ha he)

/-! ### and, or, not: tests -/
section tests
variable {cA cB' : CB} {rest : List Expr}
def cAnd (t u : CB) : CB := fun env h q e => t env h (fun b h1 => if b = true then u env h1 q e else q false h1) e
def cOr (t u : CB) : CB := fun env h q e => t env h (fun b h1 => if b = true then q true h1 else u env h1 q e) e
def cNot (t : CB) : CB := fun env h q e => t env h (fun b h1 => q (!b) h1) e
theorem cw_and1 (ha : PT X a (bOf X.K cm W cA)) : PW X (.BoolOp .And [a] pos) (bOf X.K cm W cA) := pw_and1 ha
theorem cw_or1 (ha : PT X a (bOf X.K cm W cA)) : PW X (.BoolOp .Or [a] pos) (bOf X.K cm W cA) := pw_or1 ha
theorem cw_and (ha : PT X a (bOf X.K cm W cA)) (hb : PW X (.BoolOp .And (b :: rest) pos) (bOf X.K cm W cB')) : PW X (.BoolOp .And (a :: b :: rest) pos) (bOf X.K cm W (cAnd cA cB')) := weakW (fun σ H Q ⟨h, env, q, e, S, R, hc, k, kx⟩ =>
  ⟨h, env, _, e, S, R, hc, fun H1 h1 x l1 S1 c1 => by
    cases x with
    | true => exact ⟨h1, env, q, e, S1, R.mono S l1, c1, k.mono l1, kx.mono l1⟩
    | false => exact k _ _ _ l1 S1 c1, kx⟩) (pw_and ha hb)
theorem cw_or (ha : PT X a (bOf X.K cm W cA)) (hb : PW X (.BoolOp .Or (b :: rest) pos) (bOf X.K cm W cB')) : PW X (.BoolOp .Or (a :: b :: rest) pos) (bOf X.K cm W (cOr cA cB')) := weakW (fun σ H Q ⟨h, env, q, e, S, R, hc, k, kx⟩ =>
  ⟨h, env, _, e, S, R, hc, fun H1 h1 x l1 S1 c1 => by
    cases x with
    | false => exact ⟨h1, env, q, e, S1, R.mono S l1, c1, k.mono l1, kx.mono l1⟩
    | true => exact k _ _ _ l1 S1 c1, kx⟩) (pw_or ha hb)
theorem ct_not (ha : PT X a (bOf X.K cm W cA)) : PT X (.UnaryOp .Not a pos) (bOf X.K cm W (cNot cA)) := weakT (fun σ H Q ⟨h, env, q, e, S, R, hc, k, kx⟩ =>
  ⟨h, env, _, e, S, R, hc, fun H1 h1 x l1 S1 c1 => k _ _ _ l1 S1 c1, kx⟩) (pt_not ha)
end tests
/-! ### .. as values -/
def cAndV (ca cb : CT) : CT := fun env h q e => ca env h (fun x h1 => cTru x h1 fun b => if b = true then cb env h1 q e else q x h1) e
def cOrV (ca cb : CT) : CT := fun env h q e => ca env h (fun x h1 => cTru x h1 fun b => if b = true then q x h1 else cb env h1 q e) e
def cNotV (ca : CT) : CT := fun env h q e => ca env h (fun x h1 => cTru x h1 fun b => q (.bl (!b)) h1) e
theorem ce_one {op} {t : TE} (h : PE X a t) : PE X (.BoolOp op [a] pos) t := pe_one h
theorem ce_and {rest : List Expr} (ha : PE X a (eOf X.K cm W ca)) (hb : PE X (.BoolOp .And (b :: rest) pos) (eOf X.K cm W cb)) : PE X (.BoolOp .And (a :: b :: rest) pos) (eOf X.K cm W (cAndV ca cb)) := weakE (fun σ H Q ⟨h, env, q, e, S, R, hc, k, kx⟩ =>
  ⟨h, env, _, e, S, R, hc, fun H1 h1 x V l1 S1 r1 c1 => by
    obtain ⟨b, t, c⟩ := cTru_ok S1 r1 c1
    refine ⟨b, t, ?_⟩
    cases b with
    | true => exact ⟨h1, env, q, e, S1, R.mono S l1, c, k.mono l1, kx.mono l1⟩
    | false => exact k _ _ _ _ l1 S1 r1 c, kx⟩) (pe_andT ha hb)
theorem ce_or {rest : List Expr} (ha : PE X a (eOf X.K cm W ca)) (hb : PE X (.BoolOp .Or (b :: rest) pos) (eOf X.K cm W cb)) : PE X (.BoolOp .Or (a :: b :: rest) pos) (eOf X.K cm W (cOrV ca cb)) := weakE (fun σ H Q ⟨h, env, q, e, S, R, hc, k, kx⟩ =>
  ⟨h, env, _, e, S, R, hc, fun H1 h1 x V l1 S1 r1 c1 => by
    obtain ⟨b, t, c⟩ := cTru_ok S1 r1 c1
    refine ⟨b, t, ?_⟩
    cases b with
    | false => exact ⟨h1, env, q, e, S1, R.mono S l1, c, k.mono l1, kx.mono l1⟩
    | true => exact k _ _ _ _ l1 S1 r1 c, kx⟩) (pe_orT ha hb)
theorem ce_not (ha : PE X a (eOf X.K cm W ca)) : PE X (.UnaryOp .Not a pos) (eOf X.K cm W (cNotV ca)) := weakE (fun σ H Q ⟨h, env, q, e, S, R, hc, k, kx⟩ =>
  ⟨h, env, _, e, S, R, hc, fun H1 h1 x V l1 S1 r1 c1 => by
    obtain ⟨b, t, c⟩ := cTru_ok S1 r1 c1
    exact ⟨b, t, k _ _ _ _ l1 S1 (.bl _) c⟩, kx⟩) (pe_notT ha)
/-- a if t else b -/
def cIfE (t : CB) (ca cb : CT) : CT := fun env h q e => t env h (fun b h1 => if b = true then ca env h1 q e else cb env h1 q e) e
theorem ce_ifE {cA : CB} (hc : PT X c (bOf X.K cm W cA)) (ha : PE X a (eOf X.K cm W ca)) (hb : PE X b (eOf X.K cm W cb)) : PE X (.IfExp c a b pos) (eOf X.K cm W (cIfE cA ca cb)) := weakE (fun σ H Q ⟨h, env, q, e, S, R, hc, k, kx⟩ =>
  ⟨h, env, _, e, S, R, hc, fun H1 h1 x l1 S1 c1 => by
    cases x with
    | true => exact ⟨h1, env, q, e, S1, R.mono S l1, c1, k.mono l1, kx.mono l1⟩
    | false => exact ⟨h1, env, q, e, S1, R.mono S l1, c1, k.mono l1, kx.mono l1⟩, kx⟩) (pe_ifExp hc ha hb)

/-! ### argument lists, displays -/
section args
variable {es : List Expr} {cas : CTs}
def cNil : CTs := fun _ h q _ => q [] h
def cCons (ca : CT) (cs : CTs) : CTs := fun env h q e => ca env h (fun x h1 => cs env h1 (fun xs h2 => q (x :: xs) h2) e) e
theorem ca_nil : PA X [] (aOf X.K cm W cNil) := weakA (fun σ H Q ⟨h, env, q, e, S, R, hc, k, kx⟩ => k _ _ _ _ .refl S .nil hc) pa_nil
theorem ca_cons (ha : PE X a (eOf X.K cm W ca)) (hr : PA X es (aOf X.K cm W cas)) (hs : starEach (a :: es) X.env = (false, eval a X.env) :: starEach es X.env := by rfl) : PA X (a :: es) (aOf X.K cm W (cCons ca cas)) := weakA (fun σ H Q ⟨h, env, q, e, S, R, hc, k, kx⟩ =>
  ⟨h, env, _, e, S, R, hc, fun H1 h1 x V l1 S1 r1 c1 => ⟨h1, env, _, e, S1, R.mono S l1, c1, fun H2 h2 xs Vs l2 S2 r2 c2 => k _ _ _ _ (l1.trans l2) S2 (.cons (r1.mono S1 l2) r2) c2, kx.mono l1⟩, kx⟩) (pa_cons ha hr hs)
def cTup (cs : CTs) : CT := fun env h q e => cs env h (fun xs h1 => xs.length ≤ 1000 ∧ q (.tup xs) h1) e
def cLv (cs : CTs) : CT := fun env h q e => cs env h (fun xs h1 => xs.length ≤ 1000 ∧ q (.lv xs) h1) e
def cLst (cs : CTs) : CT := fun env h q e => cs env h (fun xs h1 => xs.length ≤ 1000 ∧ ∀ p, h1 p = none → q (.ref p) (cup h1 p (.lst xs))) e
theorem newTup {K : PySem.W.Frag} {H : Hp} {h : Wh} {q : Cv → CH → Prop} {Q : VK} {xs : List Cv} {Vs : List V} (S : Rst K cm H h) (r : RelCs K cm H h xs Vs) (c : q (.tup xs) h.c) (k : Cnv K cm H h q Q) :
    NewT H Vs Q := fun p o n d => k _ _ _ _ (Le.plain S n) (S.plain n) (.tup (.inl (.inr ⟨o, upd_same⟩)) (.inl ⟨o, _, upd_same, d⟩) (r.mono S (Le.plain S n))) c
theorem newLv {K : PySem.W.Frag} {H : Hp} {h : Wh} {q : Cv → CH → Prop} {Q : VK} {xs : List Cv} {Vs : List V} (S : Rst K cm H h) (r : RelCs K cm H h xs Vs) (c : q (.lv xs) h.c) (k : Cnv K cm H h q Q) :
    ∀ p, H p = none → Q (.ref p) (upd H p (.lst Vs)) := fun p n => k _ _ _ _ (Le.plain S n) (S.plain n) (.lv upd_same (S.nl n) (r.mono S (Le.plain S n))) c
theorem newLst {K : PySem.W.Frag} {H : Hp} {h : Wh} {q : Cv → CH → Prop} {Q : VK} {xs : List Cv} {Vs : List V} (S : Rst K cm H h) (r : RelCs K cm H h xs Vs) (c : ∀ p, h.c p = none → q (.ref p) (cup h.c p (.lst xs))) (k : Cnv K cm H h q Q) :
    ∀ p, H p = none → Q (.ref p) (upd H p (.lst Vs)) := fun p n => k _ _ _ _ (Le.new S n) (S.new (u := .lst xs) n ⟨_, upd_same, r.mono S (Le.new S n)⟩) (.ref p) (c p (S.dead n))
theorem ln1000 {n : Nat} (e : n ≤ 1000) : n ≤ sizeLine := Nat.le_trans e (by decide)
theorem ce_tup {x1} (ha : PA X es (aOf X.K cm W cas)) : PE X (.Tuple es x1 pos) (eOf X.K cm W (cTup cas)) := weakE (fun σ H Q ⟨h, env, q, e, S, R, hc, k, kx⟩ =>
  ⟨h, env, _, e, S, R, hc, fun H1 h1 xs Vs l1 S1 r1 c1 => ⟨by rw [← r1.length]; exact ln1000 c1.1, newTup S1 r1 c1.2 (k.mono l1)⟩, kx⟩) (pe_tupD ha)
theorem ce_lv (ha : PA X es (aOf X.K cm W cas)) : PE X (.List es pos) (eOf X.K cm W (cLv cas)) := weakE (fun σ H Q ⟨h, env, q, e, S, R, hc, k, kx⟩ =>
  ⟨h, env, _, e, S, R, hc, fun H1 h1 xs Vs l1 S1 r1 c1 => ⟨by rw [← r1.length]; exact ln1000 c1.1, newLv S1 r1 c1.2 (k.mono l1)⟩, kx⟩) (pe_lst ha)
theorem ce_lst (ha : PA X es (aOf X.K cm W cas)) : PE X (.List es pos) (eOf X.K cm W (cLst cas)) := weakE (fun σ H Q ⟨h, env, q, e, S, R, hc, k, kx⟩ =>
  ⟨h, env, _, e, S, R, hc, fun H1 h1 xs Vs l1 S1 r1 c1 => ⟨by rw [← r1.length]; exact ln1000 c1.1, newLst S1 r1 c1.2 (k.mono l1)⟩, kx⟩) (pe_lst ha)

/-! ### calls of what is built in -/
abbrev CF := List Cv → CH → (Cv → CH → Prop) → Prop
def cCall (g : CF) (cs : CTs) : CT := fun env h q e => cs env h (fun xs h1 => g xs h1 q) e
def CallC (K : PySem.W.Frag) (cm : String → Addr) (r : List V → Hp → VK → Prop) (g : CF) : Prop := ∀ H (h : Wh) xs Vs q Q, Rst K cm H h → RelCs K cm H h xs Vs → g xs h.c q → Cnv K cm H h q Q → r Vs H Q
theorem ce_callB {x : Str} {p : Pos} {id : String} {r : List V → Hp → VK → Prop} {g : CF} (hcr : CallR X (.builtin id) r) (hcc : CallC X.K cm r g) (hg : Gl X x) (hm : X.mg x = none) (hv : bootBuiltins x = some (.builtin id)) (ha : PA X (a :: es) (aOf X.K cm W cas)) (hn : x ≠ "__name__" := by decide) (hdb : (x == ("__debug__" : Str)) = false := by decide)
    (he : starEach (a :: es) X.env = (false, eval a X.env) :: starEach es X.env := by rfl) (hpl : (backTo pos (starEach es X.env)).any (·.1) = false := by rfl) : PE X (.Call (.Name x p) (a :: es) [] pos) (eOf X.K cm W (cCall g cas)) := weakE (fun σ H Q ⟨h, env, q, e, S, R, hc, k, kx⟩ =>
  ⟨h, env, _, e, S, R, hc, fun H1 h1 xs Vs l1 S1 r1 c1 => hcc _ _ _ _ _ _ S1 r1 c1 (k.mono l1), kx⟩) (pe_callB hcr hg hm hv ha hn hdb he hpl)
theorem ce_callTy {x : Str} {p : Pos} {id : String} {r : List V → Hp → VK → Prop} {g : CF} (hcr : CallR X (.type id) r) (hcc : CallC X.K cm r g) (hg : Gl X x) (hm : X.mg x = none) (hv : bootBuiltins x = some (.type id)) (ha : PA X (a :: es) (aOf X.K cm W cas)) (hn : x ≠ "__name__" := by decide) (hdb : (x == ("__debug__" : Str)) = false := by decide)
    (he : starEach (a :: es) X.env = (false, eval a X.env) :: starEach es X.env := by rfl) (hpl : (backTo pos (starEach es X.env)).any (·.1) = false := by rfl) : PE X (.Call (.Name x p) (a :: es) [] pos) (eOf X.K cm W (cCall g cas)) := weakE (fun σ H Q ⟨h, env, q, e, S, R, hc, k, kx⟩ =>
  ⟨h, env, _, e, S, R, hc, fun H1 h1 xs Vs l1 S1 r1 c1 => hcc _ _ _ _ _ _ S1 r1 c1 (k.mono l1), kx⟩) (pe_callTy hcr hg hm hv ha hn hdb he hpl)
/-! ### a built-in's method -/
def cMt (g : Cv → List Cv → CH → (Cv → CH → Prop) → Prop) (co : CT) (cs : CTs) : CT := fun env h q e => co env h (fun x h1 => cs env h1 (fun xs h2 => g x xs h2 q) e) e
end args

/-! ### subscripts, slices -/
theorem ce_ix {r : R2} {g : CG} (hr : IxR X r) (hg : OpC X.K cm r g) (ha : PE X a (eOf X.K cm W ca)) (hb : PE X b (eOf X.K cm W cb)) (hs : PlainIx b) : PE X (.Subscript a b pos) (eOf X.K cm W (cOp2 g ca cb)) := weakE (fun σ H Q ⟨h, env, q, e, S, R, hc, k, kx⟩ =>
  ⟨h, env, _, e, S, R, hc, fun H1 h1 x V l1 S1 r1 c1 => ⟨h1, env, _, e, S1, R.mono S l1, c1, fun H2 h2 y U l2 S2 r2 c2 => hg _ _ _ _ _ _ _ _ S2 (r1.mono S1 l2) r2 c2 (k.mono (l1.trans l2)), kx.mono l1⟩, kx⟩) (pe_ix hr ha hb hs)
abbrev CO := CEnv → CH → (Option Int → CH → Prop) → XQ → Prop
def oOf (K : PySem.W.Frag) (cm : String → Addr) (W : WX) (c : CO) : TO := fun σ H Q => ∃ (h : Wh) (env : CEnv) (q : Option Int → CH → Prop) (e : XQ), Rst K cm H h ∧ REnv K cm H h env σ ∧ c env h.c q e ∧ (∀ H' h' b, Le H h H' h' → Rst K cm H' h' → q b h'.c → Q b H') ∧ CnvX K cm H h σ e W
def cNoPart : CO := fun _ h q _ => q none h
def cPart (ca : CT) : CO := fun env h q e => ca env h (fun x h1 => match x with | .int i => q (some i) h1 | _ => False) e
theorem co_none : PO X none (oOf X.K cm W cNoPart) := ⟨fun pins s σ H Q I ⟨h, env, q, e, S, R, hc, k, kx⟩ => po_none.run pins s σ H Q I (k _ _ _ .refl S hc)⟩
theorem co_some (ha : PE X a (eOf X.K cm W ca)) : PO X (some a) (oOf X.K cm W (cPart ca)) := ⟨fun pins s σ H Q I ⟨h, env, q, e, S, R, hc, k, kx⟩ => (po_some ha).run pins s σ H Q I
  ⟨h, env, _, e, S, R, hc, fun H1 h1 x V l1 S1 r1 c1 => by
    cases r1 <;> first | exact c1.elim | exact ⟨_, rfl, k _ _ _ l1 S1 c1⟩, kx⟩⟩
abbrev CSl := Cv → Option Int → Option Int → CH → (Cv → CH → Prop) → Prop
def SlC (K : PySem.W.Frag) (cm : String → Addr) (r : V → Option Int → Option Int → Hp → VK → Prop) (g : CSl) : Prop := ∀ H (h : Wh) x V lo hi q Q, Rst K cm H h → RelC K cm H h x V → g x lo hi h.c q → Cnv K cm H h q Q → r V lo hi H Q
def cSl (g : CSl) (ca : CT) (cl cu : CO) : CT := fun env h q e => ca env h (fun x h1 => cl env h1 (fun l h2 => cu env h2 (fun u h3 => g x l u h3 q) e) e) e
theorem ce_slice {lo hi : Option Expr} {p2 : Pos} {cl cu : CO} {r : V → Option Int → Option Int → Hp → VK → Prop} {g : CSl} (hr : SlR X r) (hg : SlC X.K cm r g) (ha : PE X a (eOf X.K cm W ca)) (hl : PO X lo (oOf X.K cm W cl)) (hu : PO X hi (oOf X.K cm W cu)) :
    PE X (.Subscript a (.Slice lo hi none p2) pos) (eOf X.K cm W (cSl g ca cl cu)) := weakE (fun σ H Q ⟨h, env, q, e, S, R, hc, k, kx⟩ =>
  ⟨h, env, _, e, S, R, hc, fun H1 h1 x V l1 S1 r1 c1 => ⟨h1, env, _, e, S1, R.mono S l1, c1, fun H2 h2 lo' l2 S2 c2 => ⟨h2, env, _, e, S2, R.mono S (l1.trans l2), c2, fun H3 h3 hi' l3 S3 c3 =>
    hg _ _ _ _ _ _ _ _ S3 (r1.mono S1 (l2.trans l3)) c3 (k.mono ((l1.trans l2).trans l3)), kx.mono (l1.trans l2)⟩, kx.mono l1⟩, kx⟩) (pe_slice hr ha hl hu)
end expr
end Co
end
section
/-! Core3: fields, calls of defs, methods, classes; statements; loops; comprehensions. -/
namespace Co
open PySem PySem.Spec L2

/-! ### fields -/
def cput (f : Str) (v : Cv) : List (Str × Cv) → List (Str × Cv)
  | [] => [(f, v)]
  | (k, x) :: r => if k = f then (k, v) :: r else (k, x) :: cput f v r
section
variable {K : PySem.W.Frag} {cm : String → Addr} {H : Hp} {h : Wh}
theorem RelCf.look {f : Str} {x : Cv} : ∀ {fs : List (Str × Cv)} {fV : List (Str × V)}, RelCf K cm H h fs fV → fs.lookup f = some x → ∃ V, fV.lookup f = some V ∧ RelC K cm H h x V
  | _, _, .nil, e => by simp at e
  | (g, y) :: _, _, .cons r t, e => by
    rw [List.lookup_cons] at e ⊢
    cases q : f == g with
    | true => rw [q] at e; cases e; exact ⟨_, rfl, r⟩
    | false => rw [q] at e; exact RelCf.look t e
theorem RelCf.lookN {f : Str} : ∀ {fs : List (Str × Cv)} {fV : List (Str × V)}, RelCf K cm H h fs fV → fs.lookup f = none → fV.lookup f = none
  | _, _, .nil, e => rfl
  | (g, y) :: _, _, .cons r t, e => by
    rw [List.lookup_cons] at e ⊢
    cases q : f == g with
    | true => rw [q] at e; cases e
    | false => rw [q] at e; exact RelCf.lookN t e
theorem RelCf.put {f : Str} {x : Cv} {V : V} (q : RelC K cm H h x V) : ∀ {fs : List (Str × Cv)} {fV : List (Str × L2.V)}, RelCf K cm H h fs fV → RelCf K cm H h (cput f x fs) (putF f V fV)
  | _, _, .nil => .cons q .nil
  | (g, y) :: _, _, .cons r t => by
    unfold cput putF
    split
    · exact .cons q t
    · exact .cons r (RelCf.put q t)
theorem RelCf.length : ∀ {fs : List (Str × Cv)} {fV : List (Str × V)}, RelCf K cm H h fs fV → fs.length = fV.length
  | _, _, .nil => rfl
  | _, _, .cons _ t => by simp [RelCf.length t]
/-- an object's class and fields, live or not -/
def cObj (x : Cv) (h : CH) (k : String → List (Str × Cv) → Prop) : Prop :=
  match x with
  | .ref a => match h a with | some (.ins c fs) => k c fs | _ => False
  | .ov c fs => k c fs
  | _ => False
theorem cObj_ok {x : Cv} {V : V} {k : String → List (Str × Cv) → Prop} (S : Rst K cm H h) (r : RelC K cm H h x V) (c : cObj x h.c k) : ∃ a dx c fs fV, V = .ref a ∧ H a = some (.ins (cm c) dx fV) ∧ RelCf K cm H h fs fV ∧ k c fs := by
  cases r <;> first | exact c.elim | skip
  · next a =>
    unfold cObj at c
    dsimp only at c
    split at c
    · next cl fs e =>
      obtain ⟨dx, fV, e1, r1⟩ := S.obj _ _ e
      exact ⟨a, dx, cl, fs, fV, rfl, e1, r1, c⟩
    · exact c.elim
  · next a dx cl fs fV e n r => exact ⟨a, dx, cl, fs, fV, rfl, e, r, c⟩
end

section
variable {X : Cx} {cm : String → Addr} {W : WX} {pos pos' : Pos} {o v : Expr} {co cv : CT} {f : Str} {c0 : String}
def cFld (c0 : String) (f : Str) (co : CT) : CT := fun env h q e => co env h (fun x h1 => cObj x h1 fun c fs => c = c0 ∧ match fs.lookup f with | some y => q y h1 | none => False) e
theorem ce_fld (cl : Cls X.K (cm c0)) (na : NoAttr X.K (cm c0) f) (ho : PE X o (eOf X.K cm W co)) (hb : attributeBase o f X.env (eval o X.env) = eval o X.env) : PE X (.Attribute o f pos) (eOf X.K cm W (cFld c0 f co)) := weakE (fun σ H Q ⟨h, env, q, e, S, R, hc, k, kx⟩ =>
  ⟨h, env, _, e, S, R, hc, fun H1 h1 x V l1 S1 r1 c1 => by
    obtain ⟨a, dx, c, fs, fV, e1, e2, r2, e3, c2⟩ := cObj_ok S1 r1 c1
    subst e3
    split at c2
    · next y ey =>
      obtain ⟨U, e4, r4⟩ := r2.look ey
      exact ⟨a, _, dx, fV, U, e1, e2, cl, na, e4, k _ _ _ _ l1 S1 r4 c2⟩
    · exact c2.elim, kx⟩) (pe_fld ho hb)
/-- o.f = v -/
def sFldC (c0 : String) (f : Str) (co cv : CT) : CS := fun env h R => cv env h (fun y h1 => co env h1 (fun x h2 => match x with
  | .ref a => match h2 a with | some (.ins c fs) => c = c0 ∧ fs.length < 1000 ∧ R.nx env (cup h2 a (.ins c (cput f y fs))) | _ => False
  | _ => False) fun x h => R.ex x env h) fun x h => R.ex x env h
theorem wr_ins {K : PySem.W.Frag} {H : Hp} {h : Wh} {a : Addr} {c : String} {fs : List (Str × Cv)} {y : Cv} {V : V} (S : Rst K cm H h) (e : h.c a = some (.ins c fs)) (r : RelC K cm H h y V) (z : fs.length < 1000) :
    ∃ dx fV, H a = some (.ins (cm c) dx fV) ∧ fV.length < 1000 ∧ Le H h (upd H a (.ins (cm c) dx (putF f V fV))) (wup h a (.ins c (cput f y fs))) ∧ Rst K cm (upd H a (.ins (cm c) dx (putF f V fV))) (wup h a (.ins c (cput f y fs))) := by
  obtain ⟨dx, fV, e1, r1⟩ := S.obj _ _ e
  have l : Le H h (upd H a (.ins (cm c) dx (putF f V fV))) (wup h a (.ins c (cput f y fs))) := Le.write S e
  exact ⟨dx, fV, e1, by rw [← r1.length]; exact z, l, S.write e ⟨dx, _, upd_same, (r1.put r).mono S l⟩⟩
theorem cs_fld (cl : Cls X.K (cm c0)) (na : NoAttr X.K (cm c0) f) (ho : PE X o (eOf X.K cm W co)) (hv : PE X v (eOf X.K cm W cv)) (hs : swapsWith v (some (.Attribute o f pos')) pos.line X.env = pure false) :
    PS X (.Assign [.Attribute o f pos'] v pos) (sOf X.K cm W (sFldC c0 f co cv)) := weakS (fun D σ H ⟨h, env, R, S, RE, hc, kn, kr, kb, kc, kx⟩ =>
  ⟨h, env, _, _, S, RE, hc, fun H1 h1 y V l1 S1 r1 c1 => ⟨h1, env, _, _, S1, RE.mono S l1, c1, fun H2 h2 x U l2 S2 r2 c2 => by
    cases r2 <;> first | exact c2.elim | skip
    next a =>
      dsimp only at c2
      split at c2
      · next c fs e =>
        obtain ⟨rfl, z, n⟩ := c2
        obtain ⟨dx, fV, e1, z1, l3, S3⟩ := wr_ins (f := f) S2 e (r1.mono S1 l2) z
        exact ⟨a, _, dx, fV, rfl, e1, cl, na, z1, kn _ _ _ _ ((l1.trans l2).trans l3) S3 (RE.mono S ((l1.trans l2).trans l3)) n⟩
      · exact c2.elim, (kx.mono l1).toX S1 (RE.mono S l1)⟩, kx.toX S RE⟩) (ps_fld ho hv hs)
/-- o.f op= v -/
def sFldAugC (g : CG) (c0 : String) (f : Str) (co cv : CT) : CS := fun env h R => co env h (fun x h1 => match x with
  | .ref a => cObj (.ref a) h1 fun c fs => c = c0 ∧ match fs.lookup f with
    | some old => cv env h1 (fun y h2 => g old y h2 fun z h3 => match h3 a with | some (.ins c' fs') => c' = c0 ∧ fs'.length < 1000 ∧ R.nx env (cup h3 a (.ins c' (cput f z fs'))) | _ => False) fun x h => R.ex x env h
    | none => False
  | _ => False) fun x h => R.ex x env h
theorem cs_fldaug {op : Operator} {rd : V → V → Hp → VK → Prop} {g : CG} (hop : InOp X op rd) (hg : OpC X.K cm rd g) (cl : Cls X.K (cm c0)) (na : NoAttr X.K (cm c0) f) (ho : PE X o (eOf X.K cm W co)) (hv : PE X v (eOf X.K cm W cv)) :
    PS X (.AugAssign (.Attribute o f pos') op v pos) (sOf X.K cm W (sFldAugC g c0 f co cv)) := weakS (fun D σ H ⟨h, env, R, S, RE, hc, kn, kr, kb, kc, kx⟩ =>
  ⟨h, env, _, _, S, RE, hc, fun H1 h1 x V l1 S1 r1 c1 => by
    cases r1 <;> first | exact c1.elim | skip
    next a =>
      obtain ⟨a', dx, c, fs, fV, e1, e2, r2, e3, c2⟩ := cObj_ok S1 (.ref a) c1
      cases e1
      subst e3
      split at c2
      · next old ey =>
        obtain ⟨U, e4, r4⟩ := r2.look ey
        refine ⟨a, _, dx, fV, U, rfl, e2, cl, na, e4, h1, env, _, _, S1, RE.mono S l1, c2, fun H2 h2 y T l2 S2 r3 c3 => ?_, (kx.mono l1).toX S1 (RE.mono S l1)⟩
        refine hg _ _ _ _ _ _ _ _ S2 (r4.mono S1 l2) r3 c3 fun H3 h3 z Z l3 S3 rz c4 => ?_
        split at c4
        · next c' fs' e =>
          obtain ⟨rfl, zl, n⟩ := c4
          obtain ⟨dx', fV', e1', z1, l4, S4⟩ := wr_ins (f := f) S3 e rz zl
          have L := ((l1.trans l2).trans l3).trans l4
          exact ⟨dx', fV', e1', z1, kn _ _ _ _ L S4 (RE.mono S L) n⟩
        · exact c4.elim
      · exact c2.elim, kx.toX S RE⟩) (ps_fldaug ho hv hop)
end

/-! ### calls of the text's defs -/
abbrev CD := List Cv → CH → (Cv → CH → Prop) → XQ → Prop
def CnvE (K : PySem.W.Frag) (cm : String → Addr) (H : Hp) (h : Wh) (e : XQ) (E : XK) : Prop := ∀ H' h' x cls d, Le H h H' h' → Rst K cm H' h' → RelX K cm H' h' x cls d → e x h'.c → E cls d H'
def spOf (K : PySem.W.Frag) (cm : String → Addr) (n : Nat) (m : CD) : Sp := fun vs H Q E => ∃ (h : Wh) (xs : List Cv) (q : Cv → CH → Prop) (e : XQ), Rst K cm H h ∧ RelCs K cm H h xs vs ∧ m xs h.c q e ∧ Cnv K cm H h q Q ∧ CnvE K cm H h e E ∧ xs.length = n
def cCallD (n : Nat) (m : CD) (cs : CTs) : CT := fun env h q e => cs env h (fun xs h1 => xs.length = n ∧ m xs h1 q e) e
/-- o.m(..): the object ahead of the rest -/
def cMethD (c0 : String) (mn : Str) (n : Nat) (m : CD) (co : CT) (cs : CTs) : CT := fun env h q e => co env h (fun x h1 => cObj x h1 fun c fs => c = c0 ∧ fs.lookup mn = none ∧ cs env h1 (fun xs h2 => xs.length + 1 = n ∧ m (x :: xs) h2 q e) e) e
/-- C(..) as a live object -/
def cMakeD (c0 : String) (n : Nat) (m : CD) (cs : CTs) : CT := fun env h q e => cs env h (fun xs h1 => xs.length + 1 = n ∧ ∀ a, h1 a = none → m (.ref a :: xs) (cup h1 a (.ins c0 [])) (fun v h2 => v = .non ∧ q (.ref a) h2) e) e
/-- C(..) as a value: made, then frozen -/
def cMakeV (c0 : String) (n : Nat) (m : CD) (cs : CTs) : CT := fun env h q e => cs env h (fun xs h1 => xs.length + 1 = n ∧ ∀ a, h1 a = none → m (.ref a :: xs) (cup h1 a (.ins c0 [])) (fun v h2 => v = .non ∧ match h2 a with | some (.ins c fs) => q (.ov c fs) (cdel h2 a) | _ => False) e) e
section
variable {X : Cx} {cm : String → Addr} {W : WX} {pos apos p : Pos} {o e : Expr} {es : List Expr} {co : CT} {cs : CTs} {f : Str} {c0 : String} {k n : Nat} {fa : Addr} {fd : FuncData} {ps : List Str} {m : CD} {x mn : Str}
abbrev OkD (P : Program) (w : World) (K : PySem.W.Frag) (mg : Str → Option Value) (base : Heap) (cm : String → Addr) (k : Nat) (fa : Addr) (fd : FuncData) (ps : List Str) (n : Nat) (m : CD) : Prop :=
  FnOk P w K mg base (L2.CX P w) k fa fd ps (spOf K cm n m)
theorem CnvX.toE {K : PySem.W.Frag} {H : Hp} {h : Wh} {σ : L2.St} {e : XQ} (kx : CnvX K cm H h σ e W) : CnvE K cm H h e (WE W σ) := fun _ _ _ _ _ l S r q => kx _ _ _ _ _ l S r q
theorem ce_call (F : OkD X.prog X.w X.K X.mg X.base cm k fa fd ps n m) (hr : Room k X.A) (tk : Takes X W) (hg : Gl X x) (hm : X.mg x = some (.ref fa)) (hk : PySem.W.keepIn X.K (.ref fa) = true) (hb : Binds X.K fd ps [])
    (ha : PA X (e :: es) (aOf X.K cm W cs)) (hdb : (x == ("__debug__" : Str)) = false := by decide) (he : starEach (e :: es) X.env = (false, eval e X.env) :: starEach es X.env := by rfl) (hpl : (backTo pos (starEach es X.env)).any (·.1) = false := by rfl) :
    PE X (.Call (.Name x p) (e :: es) [] pos) (eOf X.K cm W (cCallD n m cs)) := weakE (fun σ H Q ⟨h, env, q, ex, S, R, hc, kq, kx⟩ =>
  ⟨h, env, _, ex, S, R, hc, fun H1 h1 xs Vs l1 S1 r1 c1 => ⟨h1, xs, q, ex, S1, r1, c1.2, kq.mono l1, (kx.mono l1).toE, c1.1⟩, kx⟩) (pe_callS F hr hg hm hk hb (fun σ => passAt tk σ) ha hdb he hpl)
theorem ce_call0 (F : OkD X.prog X.w X.K X.mg X.base cm k fa fd ps n m) (hr : Room k X.A) (tk : Takes X W) (hg : Gl X x) (hm : X.mg x = some (.ref fa)) (hk : PySem.W.keepIn X.K (.ref fa) = true) (hb : Binds X.K fd ps [])
    (hdb : (x == ("__debug__" : Str)) = false := by decide) : PE X (.Call (.Name x p) [] [] pos) (eOf X.K cm W (cCallD n m cNil)) := ⟨fun pins s σ H Q I ⟨h, env, q, ex, S, R, hc, kq, kx⟩ =>
  wpAny_Call_Name_kw (ld_glob I hg hm (PySem.W.callWith_K0 I.kIn hk (run_fnS (E := WE W) (us := []) (vs := []) F hr hb (passAt tk σ) I .nil ⟨h, [], q, ex, S, .nil, hc.2, kq, kx.toE, hc.1⟩)) hdb)⟩
theorem ce_meth {pl : Sem Bool} (F : OkD X.prog X.w X.K X.mg X.base cm k fa fd ps n m) (hr : Room k X.A) (tk : Takes X W) (cl : Cls X.K (cm c0)) (hm : Meth X.K (cm c0) mn fa) (hb : Binds X.K fd ps []) (ho : PE X o (eOf X.K cm W co)) (ha : PA X (e :: es) (aOf X.K cm W cs))
    (hst : starEach (e :: es) X.env = (false, eval e X.env) :: starEach es X.env := by rfl) (hpl : (backTo pos (starEach es X.env)).any (·.1) = false := by rfl)
    (ht : eval (.Call (.Attribute o mn apos) (e :: es) [] pos) X.env = (do
      let ov ← eval o X.env
      standAt apos.atName
      let (g, first) ← holding [ov] (getMethod ov mn pl)
      callWith pos g first (backTo pos (starEach (e :: es) X.env)) (backToKw pos (keywordEach [] X.env))) := by rfl) :
    PE X (.Call (.Attribute o mn apos) (e :: es) [] pos) (eOf X.K cm W (cMethD c0 mn n m co cs)) := ⟨fun pins s σ H Q I ⟨h, env, q, ex, S, R, hc, kq, kx⟩ => by
  refine PySem.W.methodCall_KW (pl := pl) (thn (ho.run pins s σ H (fun V H1 => ∃ (a dx : Addr) (c : String) (fV : List (Str × L2.V)), V = .ref a ∧ H1 a = some (.ins (cm c) dx fV) ∧ fV.lookup mn = none ∧ c = c0 ∧ aOf X.K cm W cs σ H1 fun Vs H2 => spOf X.K cm n m (.ref a :: Vs) H2 Q (WE W σ)) I
    ⟨h, env, _, ex, S, R, hc, fun H1 h1 x V l1 S1 r1 c1 => ?_, kx⟩) fun u s1 ⟨V, H1, I1, rx, a, dx, c, fV, e1, e2, e3, e4, h5⟩ => ?_) ht
  · obtain ⟨a, dx, c, fs, fV, e1, e2, r2, e3, e4, c2⟩ := cObj_ok S1 r1 c1
    subst e1
    refine ⟨a, dx, c, fV, rfl, e2, r2.lookN e4, e3, h1, env, _, ex, S1, R.mono S l1, c2, fun H2 h2 xs Vs l2 S2 r3 c3 => ?_, kx.mono l1⟩
    exact ⟨h2, _, q, ex, S2, .cons (r1.mono S1 l2) r3, c3.2, kq.mono (l1.trans l2), (kx.mono (l1.trans l2)).toE, c3.1⟩
  · subst e1 e4
    obtain rfl : u = Value.ref a := rx
    refine getmeth_ok I1 e2 cl hm e3 (PySem.W.callWith_K (first := [.ref a]) (h₀ := X.base) I.ok.mod.kin hm.kp (thn (ha.run pos pins s1 σ H1 _ I1 h5) fun us s2 ⟨vs, H2, I2, r, q2⟩ => ⟨I2.kIn, ?_⟩) hst hpl)
    exact run_fnS (E := WE W) (us := .ref a :: us) (vs := .ref a :: vs) F hr hb (passAt tk σ) I2 (.cons rfl r) q2⟩
theorem ce_meth0 {pl : Sem Bool} (F : OkD X.prog X.w X.K X.mg X.base cm k fa fd ps n m) (hr : Room k X.A) (tk : Takes X W) (cl : Cls X.K (cm c0)) (hm : Meth X.K (cm c0) mn fa) (hb : Binds X.K fd ps []) (ho : PE X o (eOf X.K cm W co))
    (ht : eval (.Call (.Attribute o mn apos) [] [] pos) X.env = (do
      let ov ← eval o X.env
      standAt apos.atName
      let (g, first) ← holding [ov] (getMethod ov mn pl)
      callWith pos g first (backTo pos (starEach [] X.env)) (backToKw pos (keywordEach [] X.env))) := by rfl) :
    PE X (.Call (.Attribute o mn apos) [] [] pos) (eOf X.K cm W (cMethD c0 mn n m co cNil)) := ⟨fun pins s σ H Q I ⟨h, env, q, ex, S, R, hc, kq, kx⟩ => by
  refine PySem.W.methodCall_KW (pl := pl) (thn (ho.run pins s σ H (fun V H1 => ∃ (a dx : Addr) (c : String) (fV : List (Str × L2.V)), V = .ref a ∧ H1 a = some (.ins (cm c) dx fV) ∧ fV.lookup mn = none ∧ c = c0 ∧ spOf X.K cm n m [.ref a] H1 Q (WE W σ)) I
    ⟨h, env, _, ex, S, R, hc, fun H1 h1 x V l1 S1 r1 c1 => ?_, kx⟩) fun u s1 ⟨V, H1, I1, rx, a, dx, c, fV, e1, e2, e3, e4, h5⟩ => ?_) ht
  · obtain ⟨a, dx, c, fs, fV, e1, e2, r2, e3, e4, c2⟩ := cObj_ok S1 r1 c1
    subst e1
    refine ⟨a, dx, c, fV, rfl, e2, r2.lookN e4, e3, ?_⟩
    exact ⟨h1, _, q, ex, S1, .cons r1 .nil, c2.2, kq.mono l1, (kx.mono l1).toE, c2.1⟩
  · subst e1 e4
    obtain rfl : u = Value.ref a := rx
    exact getmeth_ok I1 e2 cl hm e3 (PySem.W.callWith_K0 (first := [.ref a]) I1.kIn hm.kp (run_fnS (E := WE W) (us := [.ref a]) (vs := [.ref a]) F hr hb (passAt tk σ) I1 (.cons rfl .nil) h5))⟩
end
end Co
end
section
/-! Core4: statements, targets, loops, comprehensions. -/
namespace Co
open PySem PySem.Spec L2

section
variable {X : Cx} {cm : String → Addr} {W : WX} {pos pos' : Pos} {a b v : Expr} {ca cb cv : CT} {st : Stmt} {sts : List Stmt} {c d : CS}
/-! ### blocks, small statements -/
def sNext : CS := fun env h R => R.nx env h
def sSeq (c d : CS) : CS := fun env h R => c env h { R with nx := fun env1 h1 => d env1 h1 R }
theorem css_nil : PSs X [] (sOf X.K cm W sNext) := weakSs (fun D σ H ⟨h, env, R, S, RE, hc, kn, kr, kb, kc, kx⟩ => kn _ _ _ _ .refl S RE hc) pss_nil
theorem css_cons (h1 : PS X st (sOf X.K cm W c)) (h2 : PSs X sts (sOf X.K cm W d)) : PSs X (st :: sts) (sOf X.K cm W (sSeq c d)) := weakSs (fun D σ H ⟨h, env, R, S, RE, hc, kn, kr, kb, kc, kx⟩ =>
  ⟨h, env, _, S, RE, hc, fun H1 h1 env1 σ1 l S1 R1 c1 => ⟨h1, env1, R, S1, R1, c1, kn.mono l, kr.mono l, kb.mono l, kc.mono l, kx.mono l⟩, kr, kb, kc, kx⟩) (pss_cons h1 h2)
theorem css_one (h1 : PS X st (sOf X.K cm W c)) : PSs X [st] (sOf X.K cm W c) := pss_one h1
def sBrk : CS := fun env h R => R.bk env h
def sCont : CS := fun env h R => R.ct env h
theorem cs_pass : PS X (.Pass pos) (sOf X.K cm W sNext) := weakS (fun D σ H ⟨h, env, R, S, RE, hc, kn, kr, kb, kc, kx⟩ => kn _ _ _ _ .refl S RE hc) ps_pass
theorem cs_break : PS X (.Break pos) (sOf X.K cm W sBrk) := weakS (fun D σ H ⟨h, env, R, S, RE, hc, kn, kr, kb, kc, kx⟩ => kb _ _ _ _ .refl S RE hc) ps_break
theorem cs_continue : PS X (.Continue pos) (sOf X.K cm W sCont) := weakS (fun D σ H ⟨h, env, R, S, RE, hc, kn, kr, kb, kc, kx⟩ => kc _ _ _ _ .refl S RE hc) ps_continue
def sExpr (ca : CT) : CS := fun env h R => ca env h (fun _ h1 => R.nx env h1) fun x h1 => R.ex x env h1
theorem cs_expr (ha : PE X a (eOf X.K cm W ca)) (hs : swapsWith a none pos.line X.env = pure false := by rfl) : PS X (.Expr a pos) (sOf X.K cm W (sExpr ca)) := weakS (fun D σ H ⟨h, env, R, S, RE, hc, kn, kr, kb, kc, kx⟩ =>
  ⟨h, env, _, _, S, RE, hc, fun H1 h1 x V l S1 r1 c1 => kn _ _ _ _ l S1 (RE.mono S l) c1, kx.toX S RE⟩) (ps_expr ha hs)
def sRet (ca : CT) : CS := fun env h R => ca env h R.rt fun x h1 => R.ex x env h1
theorem cs_ret (ha : PE X a (eOf X.K cm W ca)) : PS X (.Return (some a) pos) (sOf X.K cm W (sRet ca)) := weakS (fun D σ H ⟨h, env, R, S, RE, hc, kn, kr, kb, kc, kx⟩ =>
  ⟨h, env, _, _, S, RE, hc, kr, kx.toX S RE⟩) (ps_ret ha)
def sRetN : CS := fun env h R => R.rt .non h
theorem cs_retN : PS X (.Return none pos) (sOf X.K cm W sRetN) := weakS (fun D σ H ⟨h, env, R, S, RE, hc, kn, kr, kb, kc, kx⟩ => kr _ _ _ _ .refl S .non hc) ps_retN
def sIf (t : CB) (c d : CS) : CS := fun env h R => t env h (fun b h1 => if b = true then c env h1 R else d env h1 R) fun x h1 => R.ex x env h1
theorem cs_if {t : CB} {ts fs : List Stmt} (hc : PT X a (bOf X.K cm W t)) (h1 : PSs X ts (sOf X.K cm W c)) (h2 : PSs X fs (sOf X.K cm W d)) : PS X (.If a ts fs pos) (sOf X.K cm W (sIf t c d)) := weakS (fun D σ H ⟨h, env, R, S, RE, hc, kn, kr, kb, kc, kx⟩ =>
  ⟨h, env, _, _, S, RE, hc, fun H1 h1 b l S1 c1 => by
    cases b with
    | true => exact ⟨h1, env, R, S1, RE.mono S l, c1, kn.mono l, kr.mono l, kb.mono l, kc.mono l, kx.mono l⟩
    | false => exact ⟨h1, env, R, S1, RE.mono S l, c1, kn.mono l, kr.mono l, kb.mono l, kc.mono l, kx.mono l⟩, kx.toX S RE⟩) (ps_if hc h1 h2)
/-- a live list, returned as one that nobody changes -/
def sRetF (ca : CT) : CS := fun env h R => ca env h (fun x h1 => match x with
  | .ref p => match h1 p with | some (.lst xs) => R.rt (.lv xs) (cdel h1 p) | _ => False
  | _ => False) fun x h1 => R.ex x env h1
theorem frz_lst {K : PySem.W.Frag} {H : Hp} {h : Wh} {p : Addr} {xs : List Cv} (S : Rst K cm H h) (e : h.c p = some (.lst xs)) : RelC K cm H (wdel h p) (.lv xs) (.ref p) := by
  obtain ⟨Vs, e1, r1⟩ := S.obj _ _ e
  exact .lv e1 (fun q => q.1 rfl) (r1.mono S (Le.freeze e))
theorem cs_retF (ha : PE X a (eOf X.K cm W ca)) : PS X (.Return (some a) pos) (sOf X.K cm W (sRetF ca)) := weakS (fun D σ H ⟨h, env, R, S, RE, hc, kn, kr, kb, kc, kx⟩ =>
  ⟨h, env, _, _, S, RE, hc, fun H1 h1 x V l S1 r1 c1 => by
    cases r1 <;> first | exact c1.elim | skip
    next p =>
      dsimp only at c1
      split at c1
      · next xs e => exact kr _ _ _ _ (l.trans (Le.freeze e)) (S1.freeze e) (frz_lst S1 e) c1
      · exact c1.elim, kx.toX S RE⟩) (ps_ret ha)

/-! ### targets -/
abbrev CTg := Cv → CEnv → CH → (CEnv → CH → Prop) → XQ → Prop
abbrev CTgs := List Cv → CEnv → CH → (CEnv → CH → Prop) → XQ → Prop
def gOf (K : PySem.W.Frag) (cm : String → Addr) (W : WX) (g : CTg) : TG := fun v σ H Q => ∃ (x : Cv) (h : Wh) (env : CEnv) (q : CEnv → CH → Prop) (e : XQ), Rst K cm H h ∧ REnv K cm H h env σ ∧ RelC K cm H h x v ∧ g x env h.c q e ∧ CnvS K cm H h q Q ∧ (∀ H' h' env' σ' x cls d, Le H h H' h' → Rst K cm H' h' → REnv K cm H' h' env' σ' → RelX K cm H' h' x cls d → e x h'.c → W cls d σ' H')
def gsOf (K : PySem.W.Frag) (cm : String → Addr) (W : WX) (g : CTgs) : TGs := fun v σ H Q => ∃ (x : List Cv) (h : Wh) (env : CEnv) (q : CEnv → CH → Prop) (e : XQ), Rst K cm H h ∧ REnv K cm H h env σ ∧ RelCs K cm H h x v ∧ g x env h.c q e ∧ CnvS K cm H h q Q ∧ (∀ H' h' env' σ' x cls d, Le H h H' h' → Rst K cm H' h' → REnv K cm H' h' env' σ' → RelX K cm H' h' x cls d → e x h'.c → W cls d σ' H')
theorem weakG {e : Expr} {t t' : TG} (w : ∀ v σ H Q, t' v σ H Q → t v σ H Q) (p : PG X e t) : PG X e t' := ⟨fun pins s σ H v u Q I r h => p.run pins s σ H v u Q I r (w _ _ _ _ h)⟩
theorem weakGs {e : List Expr} {t t' : TGs} (w : ∀ v σ H Q, t' v σ H Q → t v σ H Q) (p : PGs X e t) : PGs X e t' := ⟨fun pins s σ H v u Q I r h => p.run pins s σ H v u Q I r (w _ _ _ _ h)⟩
def gNm (i : Nat) : CTg := fun x env h q _ => q (env.set i (some x)) h
theorem cg_name {i : Nat} {x : Str} (hN : X.N.Nodup) (hi : X.N[i]? = some x) (hx : Loc X.env.scope x) (hf : X.fn x = true ∨ X.env.scope.names.lookup x = some .local := by first | exact .inl rfl | exact .inr rfl | assumption) :
    PG X (.Name x pos) (gOf X.K cm W (gNm i)) := weakG (fun v σ H Q ⟨x, h, env, q, e, S, RE, r, hc, k, kx⟩ => k _ _ _ _ .refl S (RE.set i r) hc) (pg_name hN hi hx hf)
def gsNil : CTgs := fun xs env h q _ => xs = [] ∧ q env h
def gsCons (g : CTg) (gs : CTgs) : CTgs := fun xs env h q e => match xs with
  | x :: r => g x env h (fun env1 h1 => gs r env1 h1 q e) e
  | [] => False
theorem cgs_nil : PGs X [] (gsOf X.K cm W gsNil) := weakGs (fun v σ H Q ⟨x, h, env, q, e, S, RE, r, hc, k, kx⟩ => by
  obtain ⟨rfl, hc⟩ := hc
  cases r
  exact ⟨rfl, k _ _ _ _ .refl S RE hc⟩) pgs_nil
theorem cgs_cons {es : List Expr} {g : CTg} {gs : CTgs} (h1 : PG X a (gOf X.K cm W g)) (h2 : PGs X es (gsOf X.K cm W gs)) (hs : (assignEach (a :: es) X.env).map (·.2) = assign a X.env :: (assignEach es X.env).map (·.2) := by rfl) :
    PGs X (a :: es) (gsOf X.K cm W (gsCons g gs)) := weakGs (fun v σ H Q ⟨x, h, env, q, e, S, RE, r, hc, k, kx⟩ => by
  cases r with
  | nil => exact hc.elim
  | cons r t => exact ⟨_, _, rfl, _, h, env, _, e, S, RE, r, hc, fun H1 h1 env1 σ1 l S1 R1 c1 => ⟨_, h1, env1, q, e, S1, R1, t.mono S l, c1, fun _ _ _ _ l2 => k _ _ _ _ (l.trans l2), fun _ _ _ _ _ _ _ l2 => kx _ _ _ _ _ _ _ (l.trans l2)⟩, kx⟩) (pgs_cons h1 h2 hs)
def gTp (n : Nat) (gs : CTgs) : CTg := fun x env h q e => match x with | .tup xs => xs.length = n ∧ gs xs env h q e | _ => False
theorem cg_tup {es : List Expr} {kk : Nat} {gs : CTgs} {n : Nat} (hc : X.calm = true) (hh : PGs X es (gsOf X.K cm W gs)) (hn : (assignEach es X.env).length = n := by rfl) (hst : (assignEach es X.env).findIdx? (·.1) = none := by rfl) :
    PG X (.Tuple es kk pos) (gOf X.K cm W (gTp n gs)) := weakG (fun v σ H Q ⟨x, h, env, q, e, S, RE, r, hc, k, kx⟩ => by
  cases r with
  | tup ee _ rr => exact ⟨_, _, rfl, ee, by rw [← rr.length]; exact hc.1, _, h, env, q, e, S, RE, rr, hc.2, k, kx⟩
  | _ => exact hc.elim) (pg_tup hc hh hn hst)
/-- o[i] = v -/
abbrev CSt := Cv → Cv → Cv → CH → (CH → Prop) → Prop
def SetC (K : PySem.W.Frag) (cm : String → Addr) (t : TSet) (g : CSt) : Prop := ∀ H (h : Wh) o i v O I U (q : CH → Prop) (Q : Hp → Prop), Rst K cm H h → RelC K cm H h o O → RelC K cm H h i I → RelC K cm H h v U → g o i v h.c q →
  (∀ H' h', Le H h H' h' → Rst K cm H' h' → q h'.c → Q H') → t O I U H Q
def gSb (g : CSt) (co ci : CT) : CTg := fun x env h q e => co env h (fun o h1 => ci env h1 (fun i h2 => g o i x h2 fun h3 => q env h3) e) e
theorem cg_sub {o i : Expr} {co ci : CT} {t : TSet} {g : CSt} (hg : SetC X.K cm t g) (ho : PE X o (eOf X.K cm W co)) (hi : PE X i (eOf X.K cm W ci)) (hs : PSet X t)
    (ha : ∀ v, assign (.Subscript o i pos) X.env v = (do
      let ov ← holding [v] (eval o X.env)
      let iv ← holding [v, ov] (eval i X.env)
      standAt pos
      holding [v, ov, iv] (setItem ov iv v)
      release [v, ov, iv] []) := by intro _; rfl) : PG X (.Subscript o i pos) (gOf X.K cm W (gSb g co ci)) := weakG (fun v σ H Q ⟨x, h, env, q, e, S, RE, r, hc, k, kx⟩ =>
  ⟨h, env, _, e, S, RE, hc, fun H1 h1 o O l1 S1 r1 c1 => ⟨h1, env, _, e, S1, RE.mono S l1, c1, fun H2 h2 i I l2 S2 r2 c2 =>
    hg _ _ _ _ _ _ _ _ _ _ S2 (r1.mono S1 l2) r2 (r.mono S (l1.trans l2)) c2 fun H3 h3 l3 S3 c3 => k _ _ _ _ ((l1.trans l2).trans l3) S3 (RE.mono S ((l1.trans l2).trans l3)) c3,
    fun _ _ _ _ _ l => kx _ _ _ _ _ _ _ (l1.trans l) |> fun z S' => z S' (RE.mono S (l1.trans l))⟩, fun _ _ _ _ _ l S' => kx _ _ _ _ _ _ _ l S' (RE.mono S l)⟩) (pg_sub ho hi hs ha)
/-- target = value -/
def sAsg (cv : CT) (g : CTg) : CS := fun env h R => cv env h (fun x h1 => g x env h1 R.nx fun x h2 => R.ex x env h2) fun x h1 => R.ex x env h1
theorem cs_set {i : Nat} {x : Str} (hN : X.N.Nodup) (hi : X.N[i]? = some x) (hx : Loc X.env.scope x) (hv : PE X v (eOf X.K cm W cv)) (hs : swapsWith v (some (.Name x pos')) pos.line X.env = pure false := by rfl) (hf : X.fn x = true ∨ X.env.scope.names.lookup x = some .local := by first | exact .inl rfl | exact .inr rfl | assumption) :
    PS X (.Assign [.Name x pos'] v pos) (sOf X.K cm W (sAsg cv (gNm i))) := weakS (fun D σ H ⟨h, env, R, S, RE, hc, kn, kr, kb, kc, kx⟩ =>
  ⟨h, env, _, _, S, RE, hc, fun H1 h1 x V l S1 r1 c1 => kn _ _ _ _ l S1 ((RE.mono S l).set i r1) c1, kx.toX S RE⟩) (ps_set hN hi hx hv hs hf)
/-- targets that raise nothing -/
def sAsgT (cv : CT) (g : CTg) : CS := fun env h R => cv env h (fun x h1 => g x env h1 R.nx fun _ _ => False) fun x h1 => R.ex x env h1
theorem cs_asg {tg : Expr} {g : CTg} (hv : PE X v (eOf X.K cm W cv)) (hg : PG X tg (gOf X.K cm W g)) (hs : swapsWithSole [tg] v pos.line X.env = pure false := by rfl) (hw : swappedStores [tg] v X.env = pure none := by rfl)
    (h1 : (assignEach [tg] X.env).map (·.2) = [assign tg X.env] := by rfl) : PS X (.Assign [tg] v pos) (sOf X.K cm W (sAsgT cv g)) := weakS (fun D σ H ⟨h, env, R, S, RE, hc, kn, kr, kb, kc, kx⟩ =>
  ⟨h, env, _, _, S, RE, hc, fun H1 h1 x V l S1 r1 c1 => ⟨x, h1, env, R.nx, _, S1, RE.mono S l, r1, c1, fun _ _ _ _ l2 => kn _ _ _ _ (l.trans l2), fun _ _ _ _ _ _ _ _ _ _ _ z => z.elim⟩, kx.toX S RE⟩) (ps_asg hv hg hs hw h1)
/-- name op= v -/
def sAug (g : CG) (i : Nat) (cv : CT) : CS := fun env h R => match env[i]? with
  | some (some old) => cv env h (fun y h1 => g old y h1 fun z h2 => R.nx (env.set i (some z)) h2) fun x h1 => R.ex x env h1
  | _ => False
theorem cs_aug {i : Nat} {x : Str} {op : Operator} {ti : TIp} {g : CG} (hg : OpC X.K cm ti g) (hN : X.N.Nodup) (hi : X.N[i]? = some x) (hx : Loc X.env.scope x) (hv : PE X v (eOf X.K cm W cv)) (ho : PIp X op ti) (hf : X.fn x = true ∨ X.env.scope.names.lookup x = some .local := by first | exact .inl rfl | exact .inr rfl | assumption) :
    PS X (.AugAssign (.Name x pos') op v pos) (sOf X.K cm W (sAug g i cv)) := weakS (fun D σ H ⟨h, env, R, S, RE, hc, kn, kr, kb, kc, kx⟩ => by
  unfold sAug at hc
  split at hc
  · next old e1 =>
    obtain ⟨V, e2, r⟩ := RE.at_ _ _ e1
    exact ⟨V, e2, h, env, _, _, S, RE, hc, fun H1 h1 y U l S1 r1 c1 => hg _ _ _ _ _ _ _ _ S1 (r.mono S l) r1 c1 fun H2 h2 z Z l2 S2 rz c2 => kn _ _ _ _ (l.trans l2) S2 ((RE.mono S (l.trans l2)).set i rz) c2, kx.toX S RE⟩
  · exact hc.elim) (ps_aug hN hi hx hv ho hf)

/-! ### what is walked -/
abbrev CI := CEnv → CH → (List Cv → (CH → Prop) → CH → Prop) → XQ → Prop
/-- the walk J gives the items xs, while G holds -/
def YI (K : PySem.W.Frag) (cm : String → Addr) (J : It) (xs : List Cv) (G : CH → Prop) (H : Hp) (h : Wh) : Prop :=
  ∀ (i : Nat) H1 h1, Le H h H1 h1 → Rst K cm H1 h1 → G h1.c → (xs.length ≤ i → J.stop i H1) ∧ ∀ x, xs[i]? = some x → J.go i H1 ∧ ∀ V H2, J.yld i H1 V H2 → Le H1 h1 H2 h1 ∧ Rst K cm H2 h1 ∧ RelC K cm H2 h1 x V
def iOf (K : PySem.W.Frag) (cm : String → Addr) (W : WX) (ci : CI) : TI := fun σ H R => ∃ (h : Wh) (env : CEnv) (q : List Cv → (CH → Prop) → CH → Prop) (e : XQ), Rst K cm H h ∧ REnv K cm H h env σ ∧ ci env h.c q e ∧
  (∀ H' h' J xs G, Le H h H' h' → Rst K cm H' h' → YI K cm J xs G H' h' → q xs G h'.c → R J H') ∧ CnvX K cm H h σ e W
theorem weakI {tg e : Expr} {t t' : TI} (w : ∀ σ H R, t' σ H R → t σ H R) (p : PI X tg e t) : PI X tg e t' := ⟨fun pins s σ H R I h => p.run pins s σ H R I (w _ _ _ h)⟩
theorem yi_list {K : PySem.W.Frag} {H : Hp} {h : Wh} {p : Addr} {xs : List Cv} {Vs : List V} (S : Rst K cm H h) (e : LvOk K H h p Vs) (r : RelCs K cm H h xs Vs) : YI K cm (Itl K p) xs (fun _ => True) H h := fun i H1 h1 l S1 _ => by
  have e1 := (l.lvOk S e).sq
  have r1 := r.mono S l
  refine ⟨fun hi => ⟨Vs, e1, by rw [← r1.length]; exact hi⟩, fun x hx => ?_⟩
  obtain ⟨V, eV, rV⟩ := r1.get hx
  refine ⟨⟨Vs, V, e1, eV⟩, fun U H2 ⟨y1, y2⟩ => ?_⟩
  subst y1
  have := y2 Vs e1
  rw [eV] at this
  cases this
  exact ⟨.refl, S1, rV⟩
end
end Co
end
section
/-! Core5: walks, loops, comprehensions, defs. -/
namespace Co
open PySem PySem.Spec L2

section
variable {X : Cx} {cm : String → Addr} {W : WX} {pos pos' p : Pos} {tg a b v : Expr} {ca cb cv : CT}
theorem yi_tup {K : PySem.W.Frag} {H : Hp} {h : Wh} {p : Addr} {xs : List Cv} {Vs : List V} (S : Rst K cm H h) (e : SqT K H p Vs) (r : RelCs K cm H h xs Vs) : YI K cm (Itt K p) xs (fun _ => True) H h := fun i H1 h1 l S1 _ => by
  have e1 := l.sqT S e
  have r1 := r.mono S l
  refine ⟨fun hi => ⟨Vs, e1, by rw [← r1.length]; exact hi⟩, fun x hx => ?_⟩
  obtain ⟨V, eV, rV⟩ := r1.get hx
  refine ⟨⟨Vs, V, e1, eV⟩, fun U H2 ⟨y1, y2⟩ => ?_⟩
  subst y1
  have := y2 Vs e1
  rw [eV] at this
  cases this
  exact ⟨.refl, S1, rV⟩
theorem yi_live {K : PySem.W.Frag} {H : Hp} {h : Wh} {p : Addr} {xs : List Cv} : YI K cm (Itl K p) xs (fun g => g p = some (.lst xs)) H h := fun i H1 h1 l S1 e => by
  obtain ⟨Vs, e0, r1⟩ := S1.obj _ _ e
  have e1 : SqL K H1 p Vs := .inl (.inl e0)
  refine ⟨fun hi => ⟨Vs, e1, by rw [← r1.length]; exact hi⟩, fun x hx => ?_⟩
  obtain ⟨V, eV, rV⟩ := r1.get hx
  refine ⟨⟨Vs, V, e1, eV⟩, fun U H2 ⟨y1, y2⟩ => ?_⟩
  subst y1
  have := y2 Vs e1
  rw [eV] at this
  cases this
  exact ⟨.refl, S1, rV⟩
/-- one sign each -/
def signs (x : Str) : List Cv := x.cps.toList.map fun c => .str ⟨#[c]⟩
theorem yi_str {K : PySem.W.Frag} {H : Hp} {h : Wh} {x : Str} : YI K cm (Its x) (signs x) (fun _ => True) H h := fun i H1 h1 l S1 _ => by
  refine ⟨fun hi => ?_, fun y hx => ?_⟩
  · have : x.cps.size ≤ i := by simpa [signs] using hi
    exact this
  · have hx' := hx
    unfold signs at hx'
    rw [List.getElem?_map] at hx'
    cases e : x.cps.toList[i]? with
    | none => rw [e] at hx'; cases hx'
    | some c =>
      rw [e] at hx'
      cases hx'
      have ec : x.cps[i]? = some c := by simpa using e
      refine ⟨?_, fun U H2 ⟨y1, c', y2, y3⟩ => ?_⟩
      · show i < x.cps.size
        exact (Array.getElem?_eq_some_iff.mp ec).1
      · subst y1 y3
        rw [ec] at y2
        cases y2
        exact ⟨.refl, S1, .str _⟩
def intsR (lo : Int) (n : Nat) : List Cv := (List.range n).map fun (i : Nat) => .int (lo + i)
theorem yi_range {K : PySem.W.Frag} {H : Hp} {h : Wh} {lo : Int} {n : Nat} : YI K cm (Itr lo n) (intsR lo n) (fun _ => True) H h := fun i H1 h1 l S1 _ => by
  refine ⟨fun hi => ?_, fun y hx => ?_⟩
  · have : n ≤ i := by simpa [intsR] using hi
    exact this
  · unfold intsR at hx
    have hi : i < n := by
      have := (List.getElem?_eq_some_iff.mp hx).1
      simpa using this
    rw [List.getElem?_map, List.getElem?_range hi] at hx
    cases hx
    refine ⟨hi, fun U H2 ⟨y1, y2⟩ => ?_⟩
    subst y1 y2
    exact ⟨.refl, S1, .int _⟩
def intsC (lo c : Int) (n : Nat) : List Cv := (List.range n).map fun (i : Nat) => .int (lo + i * c)
theorem yi_rangeC {K : PySem.W.Frag} {H : Hp} {h : Wh} {lo c : Int} {n : Nat} : YI K cm (Itc lo c n) (intsC lo c n) (fun _ => True) H h := fun i H1 h1 l S1 _ => by
  refine ⟨fun hi => ?_, fun y hx => ?_⟩
  · have : n ≤ i := by simpa [intsC] using hi
    exact this
  · unfold intsC at hx
    have hi : i < n := by
      have := (List.getElem?_eq_some_iff.mp hx).1
      simpa using this
    rw [List.getElem?_map, List.getElem?_range hi] at hx
    cases hx
    refine ⟨hi, fun U H2 ⟨y1, y2⟩ => ?_⟩
    subst y1 y2
    exact ⟨.refl, S1, .int _⟩
/-- pairs of a number and an item -/
def numbered : Nat → List Cv → List Cv
  | _, [] => []
  | n, x :: xs => .tup [.int n, x] :: numbered (n + 1) xs
theorem numbered_len : ∀ (n : Nat) (xs : List Cv), (numbered n xs).length = xs.length
  | _, [] => rfl
  | n, x :: xs => by simp [numbered, numbered_len (n + 1) xs]
theorem numbered_get : ∀ (n : Nat) (xs : List Cv) (i : Nat), (numbered n xs)[i]? = xs[i]?.map fun x => .tup [.int ((n + i : Nat) : Int), x]
  | _, [], _ => by simp [numbered]
  | n, x :: xs, 0 => by simp [numbered]
  | n, x :: xs, i + 1 => by
    have := numbered_get (n + 1) xs i
    simp only [numbered, List.getElem?_cons_succ, this]
    have e : n + 1 + i = n + (i + 1) := by omega
    rw [e]
theorem yi_enum {K : PySem.W.Frag} {H : Hp} {h : Wh} {p : Addr} {xs : List Cv} {G : CH → Prop} (sq : ∀ H1 h1, Le H h H1 h1 → Rst K cm H1 h1 → G h1.c → ∃ Vs, SqL K H1 p Vs ∧ RelCs K cm H1 h1 xs Vs) : YI K cm (IteD K p) (numbered 0 xs) G H h := fun i H1 h1 l S1 g => by
  obtain ⟨Vs, e1, r1⟩ := sq _ _ l S1 g
  refine ⟨fun hi => ⟨Vs, e1, by rw [← r1.length, ← numbered_len 0]; exact hi⟩, fun x hx => ?_⟩
  rw [numbered_get] at hx
  cases ex : xs[i]? with
  | none => rw [ex] at hx; cases hx
  | some y =>
    rw [ex] at hx
    cases hx
    obtain ⟨V, eV, rV⟩ := r1.get ex
    refine ⟨⟨Vs, V, e1, eV⟩, fun U H2 ⟨T, od, z, y1, n, yd, y2, y3⟩ => ?_⟩
    subst y1 y2
    have := y3 Vs e1
    rw [eV] at this
    cases this
    rw [Nat.zero_add]
    exact ⟨Le.plain S1 n, S1.plain n, .tup (.inl (.inr ⟨_, upd_same⟩)) (.inl ⟨_, _, upd_same, yd⟩) (.cons (.int _) (.cons (rV.mono S1 (Le.plain S1 n)) .nil))⟩

def kyC : Key → Cv
  | .inl i => .int i
  | .inr s => .str s
theorem yi_keys {K : PySem.W.Frag} {H : Hp} {h : Wh} {p : Addr} {tg : Obj × List (Key × V)} {kvs : List (Key × Cv)} : YI K cm (Itk p tg.1 tg.2) (kvs.map fun kv => kyC kv.1) (fun g => g p = some (.lck tg kvs)) H h := fun i H1 h1 l S1 e => by
  obtain ⟨e0, r1⟩ := S1.obj _ _ e
  have hl := Paired.length r1
  refine ⟨fun hi => ⟨e0, by rw [← hl]; simpa using hi⟩, fun x hx => ?_⟩
  rw [List.getElem?_map] at hx
  have hi : i < kvs.length := by
    cases ek : kvs[i]? with
    | none => rw [ek] at hx; cases hx
    | some z => exact (List.getElem?_eq_some_iff.mp ek).1
  refine ⟨⟨e0, by omega⟩, fun U H2 ⟨y1, k, v, y2, y3⟩ => ?_⟩
  subst y1 y3
  have go : ∀ {kvs : List (Key × Cv)} {kV : List (Key × V)} {i : Nat}, Paired (fun (p : Key × Cv) (q : Key × V) => p.1 = q.1 ∧ RelC K cm H2 h1 p.2 q.2) kvs kV → kV[i]? = some (k, v) → (kvs[i]?.map fun kv => kyC kv.1) = some (kyC k) := by
    intro kvs kV i r
    induction r generalizing i with
    | nil => intro z; simp at z
    | cons r t ih =>
      intro z
      cases i with
      | zero =>
        have e1 := congrArg (fun o : Option (Key × V) => o.map (·.1)) z
        simp at e1
        simp [r.1, e1]
      | succ i => simp at z; simpa using ih z
  rw [go r1 y2] at hx
  cases hx
  refine ⟨.refl, S1, ?_⟩
  cases k with
  | inl i => exact .int _
  | inr x => exact .str _

/-- a value that can be walked: its items, and what must hold meanwhile -/
def cWalk (x : Cv) (h : CH) (k : List Cv → (CH → Prop) → Prop) : Prop :=
  match x with
  | .tup xs => k xs fun _ => True
  | .lv xs => k xs fun _ => True
  | .fz xs => k xs fun _ => True
  | .str s => k (signs s) fun _ => True
  | .ref p => match h p with | some (.lst xs) => k xs fun g => g p = some (.lst xs) | some (.lck tg kvs) => k (kvs.map fun kv => kyC kv.1) fun g => g p = some (.lck tg kvs) | _ => False
  | _ => False
/-- for .. in e: a list, a tuple, a text -/
def cIt (ca : CT) : CI := fun env h q e => ca env h (fun x h1 => cWalk x h1 fun xs G => q xs G h1) e
theorem itOf (ha : PE X a (eOf X.K cm W ca)) : PI X tg a (iOf X.K cm W (cIt ca)) := ⟨fun pins s σ H R I ⟨h, env, q, e, S, RE, hc, k, kx⟩ => by
  refine thn (ha.run pins s σ H (fun x H1 => (∃ p Vs, x = .ref p ∧ SqL X.K H1 p Vs ∧ R (Itl X.K p) H1) ∨ (∃ p Vs, x = .ref p ∧ SqT X.K H1 p Vs ∧ R (Itt X.K p) H1) ∨ (∃ t, x = .str t ∧ R (Its t) H1) ∨ ∃ p o kV, x = .ref p ∧ H1 p = some (.frz o (.dK kV)) ∧ R (Itk p o kV) H1) I
    ⟨h, env, _, e, S, RE, hc, fun H1 h1 x V l S1 r c1 => ?_, kx⟩) fun u s1 ⟨x, H1, I1, rx, hh⟩ => ?_
  · cases r with
    | tup e _ r => exact .inr (.inl ⟨_, _, rfl, e, k _ _ _ _ _ l S1 (yi_tup S1 e r) c1⟩)
    | lv e n r => exact .inl ⟨_, _, rfl, .inl (.inl e), k _ _ _ _ _ l S1 (yi_list S1 (.inl ⟨e, n⟩) r) c1⟩
    | fz e r => exact .inl ⟨_, _, rfl, e.sq, k _ _ _ _ _ l S1 (yi_list S1 e r) c1⟩
    | str t => exact .inr (.inr (.inl ⟨_, rfl, k _ _ _ _ _ l S1 yi_str c1⟩))
    | ref p =>
      unfold cWalk at c1
      dsimp only at c1
      split at c1
      · next xs ex =>
        obtain ⟨Vs, e0, r1⟩ := S1.obj _ _ ex
        exact .inl ⟨_, _, rfl, .inl (.inl e0), k _ _ _ _ _ l S1 yi_live c1⟩
      · next tg kvs ex =>
        obtain ⟨e0, r1⟩ := S1.obj _ _ ex
        exact .inr (.inr (.inr ⟨_, _, _, rfl, e0, k _ _ _ _ _ l S1 yi_keys c1⟩))
      · exact c1.elim
    | _ => exact c1.elim
  · rcases hh with ⟨p, Vs, rfl, hq, z⟩ | ⟨p, Vs, rfl, hq, z⟩ | ⟨t, rfl, z⟩ | ⟨p, o, kV, rfl, hd, z⟩
    · cases rx
      obtain ⟨its, rv, pl, hz⟩ := I1.list hq
      exact wpAny_pyIter_list pl.isList (pi_one (tk := s1.toks) I1 _ (turn_list p _) ⟨_, Heap.get?_push_size _ rfl, rfl, rfl⟩ z)
    · cases rx
      obtain ⟨its, rv, pl, hz⟩ := I1.tuple hq
      exact wpAny_pyIter_tuple (show s1.heap.IsTuple p its.toArray from pl) (pi_one (tk := s1.toks) I1 _ (turn_tuple p _) ⟨_, Heap.get?_push_size _ rfl, rfl, rfl⟩ z)
    · obtain ⟨tk, rfl⟩ := rx
      cases hh : t.cps.all (· < 128)
      · exact wpAny_pyIter_wide hh (pi_one (tk := s1.toks) I1 _ (turn_str _ t tk "str_iterator" (.inr rfl)) ⟨_, Heap.get?_push_size _ rfl, rfl, rfl⟩ z)
      · exact wpAny_pyIter_ascii hh (pi_one (tk := s1.toks) I1 _ (turn_str _ t tk "str_ascii_iterator" (.inl rfl)) ⟨_, Heap.get?_push_size _ rfl, rfl, rfl⟩ z)
    · cases rx
      obtain ⟨hs, hgd, hx, es, ep, vs, hdt, hsz, kv, hm⟩ := I1.frzK hd
      refine iter_keys hs hgd hx hdt (pi_one (tk := s1.toks) I1 _ (turn_keys _ hdt) ⟨_, Heap.get?_push_size _ rfl, rfl, ?_⟩ z)
      rw [hsz] <;> rfl⟩
/-- for .. in range(a), range(a, b), range(a, b, c) -/
def inB (i : Int) : Prop := -(2 ^ 62) ≤ i ∧ i < 2 ^ 62
def cRng1 (cs : CTs) : CI := fun env h q e => cs env h (fun xs h1 => match xs with
  | [.int j] => inB j ∧ q (intsR 0 j.toNat) (fun _ => True) h1
  | _ => False) e
def cRng2 (cs : CTs) : CI := fun env h q e => cs env h (fun xs h1 => match xs with
  | [.int i, .int j] => inB i ∧ inB j ∧ q (intsR i (j - i).toNat) (fun _ => True) h1
  | _ => False) e
def cRng3 (cs : CTs) : CI := fun env h q e => cs env h (fun xs h1 => match xs with
  | [.int i, .int j, .int c] => ∃ n, RgC i j c n ∧ q (intsC i c n) (fun _ => True) h1
  | _ => False) e
section
variable {K : PySem.W.Frag} {H : Hp} {h : Wh}
theorem RelC.int_inv {i : Int} {v : V} (r : RelC K cm H h (.int i) v) : v = .int i := by cases r; rfl
theorem RelCs.one {x : Cv} {vs : List V} (r : RelCs K cm H h [x] vs) : ∃ v, vs = [v] ∧ RelC K cm H h x v := by
  cases r with | cons r t => cases t; exact ⟨_, rfl, r⟩
theorem RelCs.two {x y : Cv} {vs : List V} (r : RelCs K cm H h [x, y] vs) : ∃ v u, vs = [v, u] ∧ RelC K cm H h x v ∧ RelC K cm H h y u := by
  cases r with | cons r t => obtain ⟨u, rfl, r2⟩ := t.one; exact ⟨_, _, rfl, r, r2⟩
theorem RelCs.three {x y z : Cv} {vs : List V} (r : RelCs K cm H h [x, y, z] vs) : ∃ v u w, vs = [v, u, w] ∧ RelC K cm H h x v ∧ RelC K cm H h y u ∧ RelC K cm H h z w := by
  cases r with | cons r t => obtain ⟨u, w, rfl, r2, r3⟩ := t.two; exact ⟨_, _, _, rfl, r, r2, r3⟩
end
theorem ci_range1 {ca : CTs} (hg : Gl X "range") (hm : X.mg "range" = none) (ha : PA X [a] (aOf X.K cm W ca)) (hs : starEach [a] X.env = [(false, eval a X.env)] := by rfl) : PI X tg (.Call (.Name "range" p) [a] [] pos) (iOf X.K cm W (cRng1 ca)) := weakI (fun σ H R ⟨h, env, q, e, S, RE, hc, k, kx⟩ =>
  ⟨h, env, _, e, S, RE, hc, fun H1 h1 xs Vs l S1 r c1 => by
    dsimp only at c1
    split at c1
    · obtain ⟨v, rfl, r1⟩ := r.one
      cases r1.int_inv
      exact ⟨_, rfl, c1.1.1, c1.1.2, k _ _ _ _ _ l S1 yi_range c1.2⟩
    · exact c1.elim, kx⟩) (pi_range1 hg hm ha hs)
theorem ci_range2 {ca : CTs} (hg : Gl X "range") (hm : X.mg "range" = none) (ha : PA X [a, b] (aOf X.K cm W ca)) (hs : starEach [a, b] X.env = [(false, eval a X.env), (false, eval b X.env)] := by rfl) (hs2 : starEach [b] X.env = [(false, eval b X.env)] := by rfl) :
    PI X tg (.Call (.Name "range" p) [a, b] [] pos) (iOf X.K cm W (cRng2 ca)) := weakI (fun σ H R ⟨h, env, q, e, S, RE, hc, k, kx⟩ =>
  ⟨h, env, _, e, S, RE, hc, fun H1 h1 xs Vs l S1 r c1 => by
    dsimp only at c1
    split at c1
    · obtain ⟨v, u, rfl, r1, r2⟩ := r.two
      cases r1.int_inv
      cases r2.int_inv
      exact ⟨_, _, rfl, ⟨c1.1.1, c1.1.2, c1.2.1.1, c1.2.1.2⟩, k _ _ _ _ _ l S1 yi_range c1.2.2⟩
    · exact c1.elim, kx⟩) (pi_range2 hg hm ha hs hs2)
theorem ci_range3 {c : Expr} {ca : CTs} (hg : Gl X "range") (hm : X.mg "range" = none) (ha : PA X [a, b, c] (aOf X.K cm W ca)) (hs : starEach [a, b, c] X.env = (false, eval a X.env) :: starEach [b, c] X.env := by rfl) (hpl : (backTo pos (starEach [b, c] X.env)).any (·.1) = false := by rfl) :
    PI X tg (.Call (.Name "range" p) [a, b, c] [] pos) (iOf X.K cm W (cRng3 ca)) := weakI (fun σ H R ⟨h, env, q, e, S, RE, hc, k, kx⟩ =>
  ⟨h, env, _, e, S, RE, hc, fun H1 h1 xs Vs l S1 r c1 => by
    dsimp only at c1
    split at c1
    · obtain ⟨v, u, w, rfl, r1, r2, r3⟩ := r.three
      cases r1.int_inv
      cases r2.int_inv
      cases r3.int_inv
      obtain ⟨n, hn, c2⟩ := c1
      exact ⟨_, _, _, n, rfl, hn, k _ _ _ _ _ l S1 yi_rangeC c2⟩
    · exact c1.elim, kx⟩) (pi_range3 hg hm ha hs hpl)
theorem yi_enumT {K : PySem.W.Frag} {H : Hp} {h : Wh} {p : Addr} {xs : List Cv} {Vs : List V} (S : Rst K cm H h) (e : SqT K H p Vs) (r : RelCs K cm H h xs Vs) : YI K cm (IteT K p) (numbered 0 xs) (fun _ => True) H h := fun i H1 h1 l S1 _ => by
  have e1 := l.sqT S e
  have r1 := r.mono S l
  refine ⟨fun hi => ⟨Vs, e1, by rw [← r1.length, ← numbered_len 0]; exact hi⟩, fun x hx => ?_⟩
  rw [numbered_get] at hx
  cases ex : xs[i]? with
  | none => rw [ex] at hx; cases hx
  | some y =>
    rw [ex] at hx
    cases hx
    obtain ⟨V, eV, rV⟩ := r1.get ex
    refine ⟨⟨Vs, V, e1, eV⟩, fun U H2 ⟨T, od, z, y1, n, yd, y2, y3⟩ => ?_⟩
    subst y1 y2
    have := y3 Vs e1
    rw [eV] at this
    cases this
    rw [Nat.zero_add]
    exact ⟨Le.plain S1 n, S1.plain n, .tup (.inl (.inr ⟨_, upd_same⟩)) (.inl ⟨_, _, upd_same, yd⟩) (.cons (.int _) (.cons (rV.mono S1 (Le.plain S1 n)) .nil))⟩
/-- enumerate of a list, a tuple -/
def cEnum (cs : CTs) : CI := fun env h q e => cs env h (fun xs h1 => match xs with
  | [.lv ys] => q (numbered 0 ys) (fun _ => True) h1
  | [.tup ys] => q (numbered 0 ys) (fun _ => True) h1
  | [.ref p] => match h1 p with | some (.lst ys) => q (numbered 0 ys) (fun g => g p = some (.lst ys)) h1 | _ => False
  | _ => False) e
theorem ci_enum {ca : CTs} {elts : List Expr} {kk : Nat} {tpos : Pos} (hg : Gl X "enumerate") (hm : X.mg "enumerate" = none) (ha : PA X [a] (aOf X.K cm W ca)) (hs : starEach [a] X.env = [(false, eval a X.env)] := by rfl) :
    PI X (.Tuple elts kk tpos) (.Call (.Name "enumerate" p) [a] [] pos) (iOf X.K cm W (cEnum ca)) := weakI (fun σ H R ⟨h, env, q, e, S, RE, hc, k, kx⟩ =>
  ⟨h, env, _, e, S, RE, hc, fun H1 h1 xs Vs l S1 r c1 => by
    dsimp only at c1
    split at c1
    · obtain ⟨v, rfl, r1⟩ := r.one
      cases r1 with
      | lv e1 n1 r2 => exact ⟨_, _, rfl, .inl ⟨.inl (.inl e1), k _ _ _ _ _ l S1 (yi_enum fun H2 h2 l2 S2 _ => ⟨_, (l2.lvOk S1 (.inl ⟨e1, n1⟩)).sq, r2.mono S1 l2⟩) c1⟩⟩
    · obtain ⟨v, rfl, r1⟩ := r.one
      cases r1 with
      | tup e1 _ r2 => exact ⟨_, _, rfl, .inr ⟨e1, k _ _ _ _ _ l S1 (yi_enumT S1 e1 r2) c1⟩⟩
    · obtain ⟨v, rfl, r1⟩ := r.one
      cases r1
      split at c1
      · next ys ey =>
        obtain ⟨Vs, e0, r2⟩ := S1.obj _ _ ey
        exact ⟨_, _, rfl, .inl ⟨.inl (.inl e0), k _ _ _ _ _ l S1 (yi_enum fun H2 h2 l2 S2 g => let ⟨Us, e3, r3⟩ := S2.obj _ (.lst ys) g; ⟨Us, .inl (.inl e3), r3⟩) c1⟩⟩
      · exact c1.elim
    · exact c1.elim, kx⟩) (pi_enumA hg hm ha hs)

/-! ### for -/
def cLoop (g : CTg) (b : CS) (G : CH → Prop) : List Cv → CEnv → CH → CEnds → Prop
  | [], env, h, R => G h ∧ R.nx env h
  | x :: xs, env, h, R => G h ∧ g x env h (fun env1 h1 => b env1 h1 ⟨fun e2 h2 => cLoop g b G xs e2 h2 R, R.rt, R.nx, fun e2 h2 => cLoop g b G xs e2 h2 R, R.ex⟩) fun _ _ => False
theorem cLoop.guard {g : CTg} {b : CS} {G : CH → Prop} {xs : List Cv} {env : CEnv} {h : CH} {R : CEnds} (c : cLoop g b G xs env h R) : G h := by cases xs <;> exact c.1
def sFor (ci : CI) (g : CTg) (b : CS) : CS := fun env h R => ci env h (fun xs G h1 => cLoop g b G xs env h1 R) fun x h1 => R.ex x env h1
theorem cs_for {ci : CI} {g : CTg} {body : List Stmt} {cb : CS} (hp : PassesOwn (model X.prog X.w) X.A X.env X.xe) (hc : X.calm = true) (hi : PI X tg a (iOf X.K cm W ci)) (hg : PG X tg (gOf X.K cm W g)) (hb : PSs X body (sOf X.K cm W cb))
    (hs : ∀ x, foldedSetIterable a X.env x = pure x := by intro _; rfl) : PS X (.For tg a body [] pos) (sOf X.K cm W (sFor ci g cb)) := weakS (fun D σ H ⟨h, env, R, S, RE, hcc, kn, kr, kb, kc, kx⟩ => by
  refine ⟨h, env, _, _, S, RE, hcc, fun H1 h1 J xs G l S1 yi c1 => ?_, kx.toX S RE⟩
  refine ⟨fun i m σ' H' => m = xs.length - i ∧ i ≤ xs.length ∧ ∃ h' env', Le H1 h1 H' h' ∧ Rst X.K cm H' h' ∧ REnv X.K cm H' h' env' σ' ∧ cLoop g cb G (xs.drop i) env' h'.c R,
    ⟨xs.length, rfl, Nat.zero_le _, h1, env, .refl, S1, RE.mono S l, c1⟩, ?_⟩
  rintro i m σ' H' ⟨rfl, hi, h', env', l', S', RE', c'⟩
  obtain ⟨stop, go⟩ := yi i H' h' l' S' c'.guard
  by_cases hlt : i < xs.length
  · have ex : xs[i]? = some xs[i] := by simp [hlt]
    obtain ⟨gi, yl⟩ := go _ ex
    rw [List.drop_eq_getElem_cons hlt] at c'
    refine .inr ⟨gi, fun σ2 H2 => ∃ h2 env2, Le H1 h1 H2 h2 ∧ Rst X.K cm H2 h2 ∧ REnv X.K cm H2 h2 env2 σ2 ∧ cLoop g cb G (xs.drop (i + 1)) env2 h2.c R, fun σ2 H2 ⟨h2, env2, z⟩ => ⟨xs.length - (i + 1), by omega, rfl, hlt, h2, env2, z⟩, fun V H2 y => ?_⟩
    obtain ⟨l2, S2, r2⟩ := yl V H2 y
    have L2' := l'.trans l2
    refine ⟨_, h', env', _, _, S2, RE'.mono S' l2, r2, c'.2, fun H3 h3 env3 σ3 l3 S3 RE3 c3 => ?_, fun _ _ _ _ _ _ _ _ _ _ _ z => z.elim⟩
    have L3 := L2'.trans l3
    refine ⟨h3, env3, _, S3, RE3, c3, fun H4 h4 env4 σ4 l4 S4 RE4 c4 => ⟨h4, env4, L3.trans l4, S4, RE4, c4⟩, kr.mono (l.trans L3), fun H4 h4 env4 σ4 l4 => kn _ _ _ _ ((l.trans L3).trans l4), fun H4 h4 env4 σ4 l4 S4 RE4 c4 => ⟨h4, env4, L3.trans l4, S4, RE4, c4⟩, kx.mono (l.trans L3)⟩
  · have e : i = xs.length := by omega
    subst e
    rw [List.drop_length] at c'
    exact .inl ⟨stop (Nat.le_refl _), kn _ _ _ _ (l.trans l') S' RE' c'.2⟩) (ps_for hp hc hi hg hb hs)

/-! ### while -/
def cWhile (t : CB) (b : CS) : Nat → CEnv → CH → CEnds → Prop
  | 0, _, _, _ => False
  | n + 1, env, h, R => t env h (fun k h1 => if k = true then b env h1 ⟨fun e2 h2 => cWhile t b n e2 h2 R, R.rt, R.nx, fun e2 h2 => cWhile t b n e2 h2 R, R.ex⟩ else R.nx env h1) fun x h1 => R.ex x env h1
def sWhile (t : CB) (b : CS) : CS := fun env h R => ∃ n, cWhile t b n env h R
theorem cs_while {t : CB} {body : List Stmt} {cb : CS} (hp : PassesOwn (model X.prog X.w) X.A X.env X.xe) (hc : PT X a (bOf X.K cm W t)) (hb : PSs X body (sOf X.K cm W cb)) : PS X (.While a body [] pos) (sOf X.K cm W (sWhile t cb)) := weakS (fun D σ H ⟨h, env, R, S, RE, ⟨n, hcc⟩, kn, kr, kb, kc, kx⟩ => by
  refine ⟨fun m σ' H' => ∃ h' env', Le H h H' h' ∧ Rst X.K cm H' h' ∧ REnv X.K cm H' h' env' σ' ∧ cWhile t cb m env' h'.c R, ⟨n, h, env, .refl, S, RE, hcc⟩, ?_⟩
  rintro m σ' H' ⟨h', env', l', S', RE', c'⟩
  cases m with
  | zero => exact c'.elim
  | succ m =>
    refine ⟨h', env', _, _, S', RE', c', fun H1 h1 b l1 S1 c1 => ?_, (kx.mono l').toX S' RE'⟩
    have L := l'.trans l1
    cases b with
    | false => exact kn _ _ _ _ L S1 (RE'.mono S' l1) c1
    | true =>
      refine ⟨fun σ2 H2 => ∃ h2 env2, Le H h H2 h2 ∧ Rst X.K cm H2 h2 ∧ REnv X.K cm H2 h2 env2 σ2 ∧ cWhile t cb m env2 h2.c R, fun σ2 H2 z => ⟨m, Nat.lt_succ_self _, z⟩, ?_⟩
      exact ⟨h1, env', _, S1, RE'.mono S' l1, c1, fun H4 h4 env4 σ4 l4 S4 RE4 c4 => ⟨h4, env4, L.trans l4, S4, RE4, c4⟩, kr.mono L, fun H4 h4 env4 σ4 l4 => kn _ _ _ _ (L.trans l4), fun H4 h4 env4 σ4 l4 S4 RE4 c4 => ⟨h4, env4, L.trans l4, S4, RE4, c4⟩, kx.mono L⟩) (ps_while hp hc hb)

/-! ### comprehensions -/
def cLcGo (g : CTg) (t : CB) (ce : CT) (G : CH → Prop) (env : CEnv) : List Cv → List Cv → CH → (List Cv → CH → Prop) → Prop
  | [], acc, h, q => G h ∧ q acc h
  | x :: xs, acc, h, q => G h ∧ g x env h (fun env1 h1 => t env1 h1 (fun b h2 => if b = true then ce env1 h2 (fun y h3 => cLcGo g t ce G env xs (acc ++ [y]) h3 q) fun _ _ => False else cLcGo g t ce G env xs acc h2 q) fun _ _ => False) fun _ _ => False
theorem cLcGo.guard {g : CTg} {t : CB} {ce : CT} {G : CH → Prop} {env : CEnv} {xs acc : List Cv} {h : CH} {q : List Cv → CH → Prop} (c : cLcGo g t ce G env xs acc h q) : G h := by cases xs <;> exact c.1
def cLc (vs : List Nat) (ci : CI) (g : CTg) (t : CB) (ce : CT) : CT := fun env h q e => ci env h (fun xs G h1 => xs.length ≤ 1000000 ∧ cLcGo g t ce G (cwipe env vs) xs [] h1 fun ys h2 => q (.lv ys) h2) e
/-- the list as a live one -/
def cLcL (vs : List Nat) (ci : CI) (g : CTg) (t : CB) (ce : CT) : CT := fun env h q e => ci env h (fun xs G h1 => xs.length ≤ 1000000 ∧ cLcGo g t ce G (cwipe env vs) xs [] h1 fun ys h2 => ∀ p, h2 p = none → q (.ref p) (cup h2 p (.lst ys))) e
def cYes : CB := fun _ h q _ => q true h
abbrev W0 : WX := fun _ _ _ _ => False
/-! #### targets of a comprehension: they fill own slots alone -/
def gvOf (K : PySem.W.Frag) (cm : String → Addr) (vs : List Nat) (g : CTg) : TG := fun v σ H Q => ∃ (x : Cv) (h : Wh) (env : CEnv) (q : CEnv → CH → Prop), Rst K cm H h ∧ REnv K cm H h env σ ∧ RelC K cm H h x v ∧ g x env h.c q (fun _ _ => False) ∧
  ∀ H' h' env' σ', Le H h H' h' → Rst K cm H' h' → REnv K cm H' h' env' σ' → L2.wipe σ' vs = L2.wipe σ vs → q env' h'.c → Q σ' H'
def gvsOf (K : PySem.W.Frag) (cm : String → Addr) (vs : List Nat) (g : CTgs) : TGs := fun v σ H Q => ∃ (x : List Cv) (h : Wh) (env : CEnv) (q : CEnv → CH → Prop), Rst K cm H h ∧ REnv K cm H h env σ ∧ RelCs K cm H h x v ∧ g x env h.c q (fun _ _ => False) ∧
  ∀ H' h' env' σ', Le H h H' h' → Rst K cm H' h' → REnv K cm H' h' env' σ' → L2.wipe σ' vs = L2.wipe σ vs → q env' h'.c → Q σ' H'
theorem wipe_get (σ : L2.St) (j : Nat) : ∀ vs : List Nat, (L2.wipe σ vs)[j]? = if j ∈ vs then (if j < σ.length then some none else none) else σ[j]?
  | [] => by simp [L2.wipe]
  | v :: vs => by
    have ih := wipe_get σ j vs
    unfold L2.wipe
    rw [List.getElem?_set, L2.wipe_length]
    by_cases e : v = j
    · subst e; simp
    · rw [if_neg e, ih]
      have e2 : ¬ j = v := fun q => e q.symm
      simp [e2]
theorem wipe_set {σ : L2.St} {i : Nat} {o : Option V} {vs : List Nat} (hi : i ∈ vs) : L2.wipe (σ.set i o) vs = L2.wipe σ vs := by
  apply List.ext_getElem?
  intro j
  rw [wipe_get, wipe_get, List.length_set]
  by_cases hj : j ∈ vs
  · rw [if_pos hj, if_pos hj]
  · rw [if_neg hj, if_neg hj, List.getElem?_set_ne]
    exact fun q => hj (q ▸ hi)
theorem cgv_name {vs : List Nat} {i : Nat} {x : Str} (hi : i ∈ vs) (hN : X.N.Nodup) (hx : X.N[i]? = some x) (hl : Loc X.env.scope x) (hf : X.fn x = true ∨ X.env.scope.names.lookup x = some .local := by first | exact .inl rfl | exact .inr rfl | assumption) :
    PG X (.Name x pos) (gvOf X.K cm vs (gNm i)) := weakG (fun v σ H Q ⟨x, h, env, q, S, RE, r, hc, k⟩ => k _ _ _ _ .refl S (RE.set i r) (wipe_set hi) hc) (pg_name hN hx hl hf)
theorem cgv_nil {vs : List Nat} : PGs X [] (gvsOf X.K cm vs gsNil) := weakGs (fun v σ H Q ⟨x, h, env, q, S, RE, r, hc, k⟩ => by
  obtain ⟨rfl, hc⟩ := hc
  cases r
  exact ⟨rfl, k _ _ _ _ .refl S RE rfl hc⟩) pgs_nil
theorem cgv_cons {vs : List Nat} {es : List Expr} {g : CTg} {gs : CTgs} (h1 : PG X a (gvOf X.K cm vs g)) (h2 : PGs X es (gvsOf X.K cm vs gs)) (hs : (assignEach (a :: es) X.env).map (·.2) = assign a X.env :: (assignEach es X.env).map (·.2) := by rfl) :
    PGs X (a :: es) (gvsOf X.K cm vs (gsCons g gs)) := weakGs (fun v σ H Q ⟨x, h, env, q, S, RE, r, hc, k⟩ => by
  cases r with
  | nil => exact hc.elim
  | cons r t => exact ⟨_, _, rfl, _, h, env, _, S, RE, r, hc, fun H1 h1 env1 σ1 l S1 R1 w1 c1 => ⟨_, h1, env1, q, S1, R1, t.mono S l, c1, fun _ _ _ _ l2 S2 R2 w2 => k _ _ _ _ (l.trans l2) S2 R2 (w2.trans w1)⟩⟩) (pgs_cons h1 h2 hs)
theorem cgv_tup {vs : List Nat} {es : List Expr} {kk : Nat} {gs : CTgs} {n : Nat} (hc : X.calm = true) (hh : PGs X es (gvsOf X.K cm vs gs)) (hn : (assignEach es X.env).length = n := by rfl) (hst : (assignEach es X.env).findIdx? (·.1) = none := by rfl) :
    PG X (.Tuple es kk pos) (gvOf X.K cm vs (gTp n gs)) := weakG (fun v σ H Q ⟨x, h, env, q, S, RE, r, hc, k⟩ => by
  cases r with
  | tup ee _ rr => exact ⟨_, _, rfl, ee, by rw [← rr.length]; exact hc.1, _, h, env, q, S, RE, rr, hc.2, k⟩
  | _ => exact hc.elim) (pg_tup hc hh hn hst)
def cTests (t : CB) : CB := t
theorem cts_nil : PTs X [] (bOf X.K cm W cYes) := ⟨fun pins s σ H Q I ⟨h, env, q, e, S, RE, hc, k, kx⟩ => pts_nil.run pins s σ H Q I (k _ _ _ .refl S hc)⟩
theorem cts_one {t : CB} (hh : PT X a (bOf X.K cm W t)) : PTs X [a] (bOf X.K cm W t) := pts_one hh
/-- the reading -/
theorem lc_read {K : PySem.W.Frag} {ci : CI} {g : CTg} {t : CB} {ce : CT} {vs : List Nat} {σ : L2.St} {H : Hp} {Q : VK} {h : Wh} {env : CEnv} {q : List Cv → CH → Prop} {e : XQ} (S : Rst K cm H h) (RE : REnv K cm H h env σ)
    (hc : ci env h.c (fun xs G h1 => xs.length ≤ 1000000 ∧ cLcGo g t ce G (cwipe env vs) xs [] h1 q) e) (kx : CnvX K cm H h σ e W)
    (k : ∀ H' h' D Vs ys, Le H h H' h' → Rst K cm H' h' → H' D = some (.lst Vs) → h'.l D → h'.c D = none → (∀ a o, H a = some o → h.c a = none → a ≠ D) → RelCs K cm H' h' ys Vs → q ys h'.c → Q (.ref D) H') :
    tLc (iOf K cm W ci) (gvOf K cm vs g) (bOf K cm W0 t) (eOf K cm W0 ce) vs σ H Q := by
  refine ⟨h, env, _, e, S, RE, hc, fun H1 h1 J xs G l S1 yi c1 D nD => ?_, kx⟩
  obtain ⟨zl, c1⟩ := c1
  have lD := Le.hide (o := .lst []) S1 nD
  have hD := S1.dead nD
  have nD0 : ∀ a o, H a = some o → h.c a = none → a ≠ D := fun a o e0 n0 z => by
    have := (l.st a o e0 n0).1
    rw [z, nD] at this
    cases this
  refine ⟨fun i m H' => m = xs.length - i ∧ i ≤ xs.length ∧ ∃ h' acc Vs, Le H1 h1 H' h' ∧ Rst K cm H' h' ∧ H' D = some (.lst Vs) ∧ h'.l D ∧ h'.c D = none ∧ RelCs K cm H' h' acc Vs ∧ acc.length ≤ i ∧ cLcGo g t ce G (cwipe env vs) (xs.drop i) acc h'.c q,
    ⟨xs.length, rfl, Nat.zero_le _, whide h1 D, [], [], lD, S1.hide nD, upd_same, .inl rfl, hD, .nil, Nat.le_refl _, c1⟩, ?_⟩
  rintro i m H' ⟨rfl, hi, h', acc, Vs, l', S', eD, vD, nD', rA, la, c'⟩
  obtain ⟨stop, go⟩ := yi i H' h' l' S' c'.guard
  by_cases hlt : i < xs.length
  · have ex : xs[i]? = some xs[i] := by simp [hlt]
    obtain ⟨gi, yl⟩ := go _ ex
    rw [List.drop_eq_getElem_cons hlt] at c'
    refine .inr ⟨gi, fun H2 => ∃ h2 acc Vs, Le H1 h1 H2 h2 ∧ Rst K cm H2 h2 ∧ H2 D = some (.lst Vs) ∧ h2.l D ∧ h2.c D = none ∧ RelCs K cm H2 h2 acc Vs ∧ acc.length ≤ i + 1 ∧ cLcGo g t ce G (cwipe env vs) (xs.drop (i + 1)) acc h2.c q,
      fun H2 z => ⟨xs.length - (i + 1), by omega, rfl, hlt, z⟩, fun V H2 y => ?_⟩
    obtain ⟨l2, S2, r2⟩ := yl V H2 y
    have L2' := l'.trans l2
    have RW : REnv K cm H2 h' (cwipe env vs) (L2.wipe σ vs) := ((RE.mono S (l.trans L2')).wipe vs)
    refine ⟨_, h', _, _, S2, RW, r2, c'.2, fun H3 h3 env3 σ3 l3 S3 RE3 w3 c3 => ⟨?_, ?_⟩⟩
    · have w4 : ∀ (s : L2.St) (us : List Nat), L2.wipe (L2.wipe s us) us = L2.wipe s us := fun s us => by
        apply List.ext_getElem?
        intro j
        rw [wipe_get, wipe_get, L2.wipe_length]
        by_cases hj : j ∈ us
        · rw [if_pos hj, if_pos hj]
        · rw [if_neg hj, if_neg hj]
      rw [w3, w4]
    · have L3 := L2'.trans l3
      obtain ⟨e3, n3, v3⟩ := (l2.trans l3).st _ _ eD nD'
      have rA3 := (rA.mono S' l2).mono S2 l3
      refine ⟨h3, env3, _, _, S3, RE3, c3, fun H4 h4 b l4 S4 c4 => ?_, fun _ _ _ _ _ _ _ _ z => z.elim⟩
      obtain ⟨e4, n4, v4⟩ := l4.st _ _ e3 n3
      cases b with
      | false => exact ⟨h4, acc, Vs, L3.trans l4, S4, e4, v4.mpr (v3.mpr vD), n4, rA3.mono S3 l4, Nat.le_succ_of_le la, c4⟩
      | true =>
        refine ⟨h4, env3, _, _, S4, RE3.mono S3 l4, c4, fun H5 h5 y U l5 S5 r5 c5 => ?_, fun _ _ _ _ _ _ _ _ z => z.elim⟩
        obtain ⟨e5, n5, v5⟩ := l5.st _ _ e4 n4
        have rA5 := (rA3.mono S3 l4).mono S4 l5
        have vD5 := v5.mpr (v4.mpr (v3.mpr vD))
        have L5 := (L3.trans l4).trans l5
        refine ⟨Vs, e5, ?_, h5, acc ++ [y], Vs ++ [U], ⟨fun b w eb nb => ?_⟩, S5.hid vD5 n5, upd_same, vD5, n5, (rA5.append (.cons r5 .nil)).mono0 S5 (Le0.hid vD5), by simp; omega, c5⟩
        · have := rA5.length
          rw [sizeLine_eq]
          omega
        · obtain ⟨z1, z2⟩ := L5.st b w eb nb
          exact ⟨by rw [upd_ne (ne_of_none eb nD)]; exact z1, z2⟩
  · have e : i = xs.length := by omega
    subst e
    rw [List.drop_length] at c'
    exact .inl ⟨stop (Nat.le_refl _), k _ _ _ _ _ (l.trans l') S' eD vD nD' nD0 rA c'.2⟩
theorem lc_val {K : PySem.W.Frag} {H : Hp} {h : Wh} {q : Cv → CH → Prop} {Q : VK} (kq : Cnv K cm H h q Q) : ∀ H' h' D Vs ys, Le H h H' h' → Rst K cm H' h' → H' D = some (.lst Vs) → h'.l D → h'.c D = none → (∀ a o, H a = some o → h.c a = none → a ≠ D) → RelCs K cm H' h' ys Vs → q (.lv ys) h'.c → Q (.ref D) H' :=
  fun H' h' D Vs ys l S' e v n ne r c => kq H' (wshow h' D) (.lv ys) (.ref D) ⟨fun a o ea na => let ⟨z1, z2, z3⟩ := l.st a o ea na; ⟨z1, z2, ⟨fun w => z3.mp w.2, fun w => ⟨ne a o ea na, z3.mpr w⟩⟩⟩⟩ (S'.shw n) (.lv e (fun w => w.1 rfl) (r.mono0 S' Le0.shw)) c
theorem lc_live {K : PySem.W.Frag} {H : Hp} {h : Wh} {q : Cv → CH → Prop} {Q : VK} (kq : Cnv K cm H h q Q) : ∀ H' h' D Vs ys, Le H h H' h' → Rst K cm H' h' → H' D = some (.lst Vs) → h'.l D → h'.c D = none → (∀ a o, H a = some o → h.c a = none → a ≠ D) → RelCs K cm H' h' ys Vs → (∀ p, h'.c p = none → q (.ref p) (cup h'.c p (.lst ys))) → Q (.ref D) H' :=
  fun H' h' D Vs ys l S' e v n ne r c => by
  have l0 : Le0 H' h' H' (wup h' D (.lst ys)) := ⟨fun a o ea na => ⟨ea, fun w => w.elim (fun z => na (z ▸ v)) na⟩⟩
  refine kq H' (wup h' D (.lst ys)) (.ref D) (.ref D) ⟨fun a o ea na => ?_⟩ ⟨fun b w eb => ?_, fun b w eb => ?_, fun b vb => ?_⟩ (.ref D) (c D n)
  · obtain ⟨z1, z2, z3⟩ := l.st a o ea na
    exact ⟨z1, (cup_ne (ne a o ea na)).trans z2, ⟨fun w => w.elim (fun z => (ne a o ea na z).elim) z3.mp, fun w => .inr (z3.mpr w)⟩⟩
  · have eb' : cup h'.c D (.lst ys) b = some w := eb
    by_cases z : b = D
    · subst z
      rw [cup_same] at eb'
      cases eb'
      exact ⟨Vs, e, r.mono0 S' l0⟩
    · rw [cup_ne z] at eb'
      exact (S'.obj b w eb').mono0 S' l0 fun _ y => y
  · by_cases z : b = D
    · exact .inl z
    · have eb' : cup h'.c D (.lst ys) b = some w := eb
      rw [cup_ne z] at eb'
      exact .inr (S'.cl b w eb')
  · rcases vb with z | z
    · subst z
      exact S'.liv b v
    · exact S'.liv b z
section
variable {tg iter elt : Expr} {ifs : List Expr} {scope : Scope} {own : List (Str × Nat)} {ci : CI} {g : CTg} {t : CB} {ce : CT}
theorem ce_lc (hc : X.calm = true) (hN : X.N.Nodup) (hi : PI X tg iter (iOf X.K cm W ci)) (ok : BlkOk X.N X.env.scope scope own)
    (hg : ∀ (s : Shared) (H : Hp) (C : Addr) (cl : List (Str × Addr)) (fp : List Addr), PG (X.blk s H scope (compEnvC scope cl C X.env) fp) tg (gvOf X.K cm (own.map (·.2)) g))
    (ht : ∀ (s : Shared) (H : Hp) (C : Addr) (cl : List (Str × Addr)) (fp : List Addr), PTs (X.blk s H scope (compEnvC scope cl C X.env) fp) ifs (bOf X.K cm W0 t))
    (he : ∀ (s : Shared) (H : Hp) (C : Addr) (cl : List (Str × Addr)) (fp : List Addr), PE (X.blk s H scope (compEnvC scope cl C X.env) fp) elt (eOf X.K cm W0 ce)) (hs : ∀ x, foldedSetIterable iter X.env x = pure x := by intro _; rfl) :
    PE X (.ListComp elt [⟨tg, iter, ifs, 0⟩] scope pos) (eOf X.K cm W (cLc (own.map (·.2)) ci g t ce)) :=
  weakE (fun σ H Q ⟨h, env, q, e, S, RE, hcc, k, kx⟩ => lc_read S RE hcc kx (lc_val k)) (pe_lc hc hN hi ok hg ht he hs)
theorem ce_lcL (hc : X.calm = true) (hN : X.N.Nodup) (hi : PI X tg iter (iOf X.K cm W ci)) (ok : BlkOk X.N X.env.scope scope own)
    (hg : ∀ (s : Shared) (H : Hp) (C : Addr) (cl : List (Str × Addr)) (fp : List Addr), PG (X.blk s H scope (compEnvC scope cl C X.env) fp) tg (gvOf X.K cm (own.map (·.2)) g))
    (ht : ∀ (s : Shared) (H : Hp) (C : Addr) (cl : List (Str × Addr)) (fp : List Addr), PTs (X.blk s H scope (compEnvC scope cl C X.env) fp) ifs (bOf X.K cm W0 t))
    (he : ∀ (s : Shared) (H : Hp) (C : Addr) (cl : List (Str × Addr)) (fp : List Addr), PE (X.blk s H scope (compEnvC scope cl C X.env) fp) elt (eOf X.K cm W0 ce)) (hs : ∀ x, foldedSetIterable iter X.env x = pure x := by intro _; rfl) :
    PE X (.ListComp elt [⟨tg, iter, ifs, 0⟩] scope pos) (eOf X.K cm W (cLcL (own.map (·.2)) ci g t ce)) :=
  weakE (fun σ H Q ⟨h, env, q, e, S, RE, hcc, k, kx⟩ => lc_read S RE hcc kx (lc_live k)) (pe_lc hc hN hi ok hg ht he hs)
theorem cs_setLc {i : Nat} {y : Str} {py : Pos} {spos : Pos} (hc : X.calm = true) (hN : X.N.Nodup) (hy : X.N[i]? = some y) (hyl : X.env.scope.names.lookup y = some .local)
    (hsw : swapsWith (.ListComp elt [⟨tg, iter, ifs, 0⟩] scope pos) (some (.Name y py)) spos.line X.env = pure true) (hi : PI X tg iter (iOf X.K cm W ci)) (ok : BlkOk X.N X.env.scope scope own)
    (hg : ∀ (s : Shared) (H : Hp) (C : Addr) (cl : List (Str × Addr)) (fp : List Addr), PG (X.blk s H scope (compEnvC scope cl C X.env) fp) tg (gvOf X.K cm (own.map (·.2)) g))
    (ht : ∀ (s : Shared) (H : Hp) (C : Addr) (cl : List (Str × Addr)) (fp : List Addr), PTs (X.blk s H scope (compEnvC scope cl C X.env) fp) ifs (bOf X.K cm W0 t))
    (he : ∀ (s : Shared) (H : Hp) (C : Addr) (cl : List (Str × Addr)) (fp : List Addr), PE (X.blk s H scope (compEnvC scope cl C X.env) fp) elt (eOf X.K cm W0 ce)) (hs : ∀ x, foldedSetIterable iter X.env x = pure x := by intro _; rfl) :
    PS X (.Assign [.Name y py] (.ListComp elt [⟨tg, iter, ifs, 0⟩] scope pos) spos) (sOf X.K cm W (sAsg (cLc (own.map (·.2)) ci g t ce) (gNm i))) :=
  weakS (fun D σ H ⟨h, env, R, S, RE, hcc, kn, kr, kb, kc, kx⟩ => lc_read S RE hcc (kx.toX S RE) (lc_val (q := fun x h1 => R.nx (env.set i (some x)) h1) (Q := fun x H1 => D.nx (σ.set i (some x)) H1) fun H1 h1 x V l S1 r1 c1 => kn _ _ _ _ l S1 ((RE.mono S l).set i r1) c1)) (ps_setLc hc hN hy hyl hsw hi ok hg ht he hs)
theorem cs_setLcL {i : Nat} {y : Str} {py : Pos} {spos : Pos} (hc : X.calm = true) (hN : X.N.Nodup) (hy : X.N[i]? = some y) (hyl : X.env.scope.names.lookup y = some .local)
    (hsw : swapsWith (.ListComp elt [⟨tg, iter, ifs, 0⟩] scope pos) (some (.Name y py)) spos.line X.env = pure true) (hi : PI X tg iter (iOf X.K cm W ci)) (ok : BlkOk X.N X.env.scope scope own)
    (hg : ∀ (s : Shared) (H : Hp) (C : Addr) (cl : List (Str × Addr)) (fp : List Addr), PG (X.blk s H scope (compEnvC scope cl C X.env) fp) tg (gvOf X.K cm (own.map (·.2)) g))
    (ht : ∀ (s : Shared) (H : Hp) (C : Addr) (cl : List (Str × Addr)) (fp : List Addr), PTs (X.blk s H scope (compEnvC scope cl C X.env) fp) ifs (bOf X.K cm W0 t))
    (he : ∀ (s : Shared) (H : Hp) (C : Addr) (cl : List (Str × Addr)) (fp : List Addr), PE (X.blk s H scope (compEnvC scope cl C X.env) fp) elt (eOf X.K cm W0 ce)) (hs : ∀ x, foldedSetIterable iter X.env x = pure x := by intro _; rfl) :
    PS X (.Assign [.Name y py] (.ListComp elt [⟨tg, iter, ifs, 0⟩] scope pos) spos) (sOf X.K cm W (sAsg (cLcL (own.map (·.2)) ci g t ce) (gNm i))) :=
  weakS (fun D σ H ⟨h, env, R, S, RE, hcc, kn, kr, kb, kc, kx⟩ => lc_read S RE hcc (kx.toX S RE) (lc_live (q := fun x h1 => R.nx (env.set i (some x)) h1) (Q := fun x H1 => D.nx (σ.set i (some x)) H1) fun H1 h1 x V l S1 r1 c1 => kn _ _ _ _ l S1 ((RE.mono S l).set i r1) c1)) (ps_setLc hc hN hy hyl hsw hi ok hg ht he hs)
end

/-! ### defs -/
def cstart (n : Nat) (xs : List Cv) : CEnv := xs.map some ++ List.replicate (n - xs.length) none
/-- what a body is as a def: n slots -/
def dBody (n : Nat) (c : CS) : CD := fun xs h q e => c (cstart n xs) h ⟨fun _ h1 => q .non h1, q, fun _ _ => False, fun _ _ => False, fun x _ h1 => e x h1⟩
theorem REnv.start {K : PySem.W.Frag} {H : Hp} {h : Wh} {xs : List Cv} {vs : List V} (r : RelCs K cm H h xs vs) (N : List Str) : REnv K cm H h (cstart N.length xs) (L2.start N vs) := by
  have hl := r.length
  refine ⟨by simp [cstart, L2.start, hl], fun i c e => ?_⟩
  unfold cstart at e
  by_cases hi : i < xs.length
  · rw [List.getElem?_append_left (by simpa using hi), List.getElem?_map] at e
    cases ex : xs[i]? with
    | none => rw [ex] at e; cases e
    | some x =>
      rw [ex] at e
      cases e
      obtain ⟨v, ev, rv⟩ := r.get ex
      refine ⟨v, ?_, rv⟩
      unfold L2.start
      rw [List.getElem?_append_left (by simpa [← hl] using hi), List.getElem?_map, ev]
      rfl
  · rw [List.getElem?_append_right (by simpa using hi)] at e
    rw [List.getElem?_replicate] at e
    split at e <;> cases e
variable {P : Program} {w : World} {K : PySem.W.Frag} {mg : Str → Option Value} {base : Heap}
theorem ok_def {x qual : Str} {st : Stmt} {f : Addr} {fd : FuncData} {N ps : List Str} {k n : Nat} {c : CS} (F : Fun K x qual st f fd) (S : FnScope N ps (defScope st)) (hn : ps.length = n)
    (body : ∀ (cdv : Value) (A : Around) (outer : List Env) (s : Shared) (H : Hp) (E : XK) (Y : Cx) (W : WX), Y = cxOf (L2.CX P w) P w K mg base N qual (defScope st) f cdv A outer s H E → Room k Y.A → Takes Y W → PassesOwn (model Y.prog Y.w) Y.A Y.env Y.xe →
      PSs (cxOf (L2.CX P w) P w K mg base N qual (defScope st) f cdv A outer s H E) (defBody st) (sOf K cm W c)) : OkD P w K mg base cm (k + 1) f fd ps n (dBody N.length c) := by
  refine F.okX S (fun vs H Q E ⟨h, xs, q, e, _, r, _, _, _, z⟩ => by rw [← r.length, z, hn]) (fun cdv A outer s H vs Q E hr ⟨h, xs, q, e, St, r, hc, kq, ke, z⟩ => ?_)
  refine ⟨_, body cdv A outer s H E _ (fun cls d _ H => E cls d H) rfl hr (takes_of rfl rfl rfl rfl) (passes_of rfl), h, _, _, St, REnv.start r N, hc, fun _ _ _ _ l S1 _ c1 => kq _ _ _ _ l S1 .non c1, kq, fun _ _ _ _ _ _ _ z => z.elim, fun _ _ _ _ _ _ _ z => z.elim, fun _ _ _ _ _ _ _ l S1 _ rx c1 => ke _ _ _ _ _ l S1 rx c1⟩
end
end Co
end
section
/-! Core6: the operations by values. -/
namespace Co
open PySem PySem.Spec L2

theorem OpR.or {X : Cx} {f : Value → Value → Sem Value} {r r' : R2} (h : OpR X f r) (h' : OpR X f r') : OpR X f (fun x y H Q => r x y H Q ∨ r' x y H Q) := by
  intro pins s σ H x y v u Q I rx ry q
  rcases q with q | q
  · exact h pins s σ H x y v u Q I rx ry q
  · exact h' pins s σ H x y v u Q I rx ry q
theorem CallR.or {X : Cx} {f : Value} {r r' : List V → Hp → VK → Prop} (h : CallR X f r) (h' : CallR X f r') : CallR X f (fun x H Q => r x H Q ∨ r' x H Q) := by
  intro pins s σ H x us Q I rx q
  rcases q with q | q
  · exact h pins s σ H x us Q I rx q
  · exact h' pins s σ H x us Q I rx q

section
variable {X : Cx} {K : PySem.W.Frag} {cm : String → Addr} {H : Hp} {h : Wh}
/-- the items of a list, live or not -/
def asL (x : Cv) (h : CH) : Option (List Cv) := match x with
  | .lv xs => some xs
  | .ref a => match h a with | some (.lst xs) => some xs | _ => none
  | _ => none
theorem asL_ok {x : Cv} {V : V} {xs : List Cv} (S : Rst K cm H h) (r : RelC K cm H h x V) (e : asL x h.c = some xs) : ∃ a Vs, V = .ref a ∧ H a = some (.lst Vs) ∧ RelCs K cm H h xs Vs := by
  cases r with
  | lv e1 n r => cases e; exact ⟨_, _, rfl, e1, r⟩
  | ref a =>
    unfold asL at e
    dsimp only at e
    split at e
    · next ys ey =>
      cases e
      obtain ⟨Vs, e1, r1⟩ := S.obj _ _ ey
      exact ⟨_, _, rfl, e1, r1⟩
    · cases e
  | _ => cases e
/-- .. or a list of elsewhere -/
def asF (x : Cv) (h : CH) : Option (List Cv) := match x with
  | .fz xs => some xs
  | x => asL x h
theorem asF_ok {x : Cv} {V : V} {xs : List Cv} (S : Rst K cm H h) (r : RelC K cm H h x V) (e : asF x h.c = some xs) : ∃ a Vs, V = .ref a ∧ SqL K H a Vs ∧ RelCs K cm H h xs Vs := by
  cases r with
  | fz e1 r => cases e; exact ⟨_, _, rfl, e1.sq, r⟩
  | lv e1 n r => obtain ⟨a, Vs, h1, h2, h3⟩ := asL_ok S (.lv e1 n r) e; exact ⟨a, Vs, h1, .inl (.inl h2), h3⟩
  | ref a => obtain ⟨a, Vs, h1, h2, h3⟩ := asL_ok S (.ref a) e; exact ⟨a, Vs, h1, .inl (.inl h2), h3⟩
  | _ => cases e
/-- .. or a tuple -/
def asQ (x : Cv) (h : CH) : Option (List Cv) := match x with
  | .tup xs => some xs
  | x => asF x h
theorem asQ_ok {x : Cv} {V : V} {xs : List Cv} (S : Rst K cm H h) (r : RelC K cm H h x V) (e : asQ x h.c = some xs) : ∃ a Vs, V = .ref a ∧ (SqL K H a Vs ∨ SqT K H a Vs) ∧ RelCs K cm H h xs Vs := by
  cases r with
  | tup e1 _ r => cases e; exact ⟨_, _, rfl, .inr e1, r⟩
  | fz e1 r => obtain ⟨a, Vs, h1, h2, h3⟩ := asF_ok S (.fz e1 r) e; exact ⟨a, Vs, h1, .inl h2, h3⟩
  | lv e1 n r => obtain ⟨a, Vs, h1, h2, h3⟩ := asF_ok S (.lv e1 n r) e; exact ⟨a, Vs, h1, .inl h2, h3⟩
  | ref a => obtain ⟨a, Vs, h1, h2, h3⟩ := asF_ok S (.ref a) e; exact ⟨a, Vs, h1, .inl h2, h3⟩
  | _ => cases e

theorem asQ_okD {x : Cv} {V : V} {xs : List Cv} (S : Rst K cm H h) (r : RelC K cm H h x V) (e : asQ x h.c = some xs) : ∃ a Vs, V = .ref a ∧ (SqL K H a Vs ∨ (SqT K H a Vs ∧ Dl K H a)) ∧ RelCs K cm H h xs Vs := by
  cases r with
  | tup e1 d r => cases e; exact ⟨_, _, rfl, .inr ⟨e1, d⟩, r⟩
  | fz e1 r => obtain ⟨a, Vs, h1, h2, h3⟩ := asF_ok S (.fz e1 r) e; exact ⟨a, Vs, h1, .inl h2, h3⟩
  | lv e1 n r => obtain ⟨a, Vs, h1, h2, h3⟩ := asF_ok S (.lv e1 n r) e; exact ⟨a, Vs, h1, .inl h2, h3⟩
  | ref a => obtain ⟨a, Vs, h1, h2, h3⟩ := asF_ok S (.ref a) e; exact ⟨a, Vs, h1, .inl h2, h3⟩
  | _ => cases e

/-! ### + -/
def gAdd : CG := fun x y h q => match x, y with
  | .int i, .int j => q (.int (i + j)) h
  | .str i, .str j => i.length + j.length ≤ sizeLine ∧ q (.str (i ++ j)) h
  | .tup a, .tup b => a.length + b.length ≤ sizeLine ∧ q (.tup (a ++ b)) h
  | x, y => match asL x h, asL y h with
    | some a, some b => a.length + b.length ≤ sizeLine ∧ q (.lv (a ++ b)) h
    | _, _ => False
def rAddC (K : PySem.W.Frag) : R2 := fun x y H Q => (((∃ i j, x = .int i ∧ y = .int j ∧ Q (.int (i + j)) H) ∨ (∃ i j, x = .str i ∧ y = .str j ∧ i.length + j.length ≤ sizeLine ∧ Q (.str (i ++ j)) H)) ∨ rCatAD K x y H Q) ∨ rCat x y H Q
theorem op_addC : OpR X (binaryOp .Add) (rAddC X.K) := OpR.or (OpR.or (OpR.or op_add op_add_str) op_catAD) op_cat
theorem addL {x y : Cv} {Vx Vy : V} {q : Cv → CH → Prop} {Q : VK} (S : Rst K cm H h) (r1 : RelC K cm H h x Vx) (r2 : RelC K cm H h y Vy) (c : match asL x h.c, asL y h.c with
    | some a, some b => a.length + b.length ≤ sizeLine ∧ q (.lv (a ++ b)) h.c
    | _, _ => False) (k : Cnv K cm H h q Q) : rCat Vx Vy H Q := by
  split at c
  · next a b ea eb =>
    obtain ⟨p1, Vs, rfl, h1, s1⟩ := asL_ok S r1 ea
    obtain ⟨p2, Us, rfl, h2, s2⟩ := asL_ok S r2 eb
    exact ⟨_, _, _, _, rfl, rfl, h1, h2, by rw [← s1.length, ← s2.length]; exact c.1, newLv S (s1.append s2) c.2 k⟩
  · exact c.elim
theorem RelCs.nilIff {xs : List Cv} {vs : List V} (r : RelCs K cm H h xs vs) : vs = [] ↔ xs = [] := by cases r <;> simp
theorem oc_add : OpC K cm (rAddC K) gAdd := fun H h x y V U q Q S r1 r2 c k => by
  cases r1 with
  | int i =>
    cases r2 with
    | int j => exact .inl (.inl (.inl ⟨i, j, rfl, rfl, k _ _ _ _ .refl S (.int _) c⟩))
    | ref b => exact .inr (addL S (.int i) (.ref b) c k)
    | _ => exact c.elim
  | str i =>
    cases r2 with
    | str j => exact .inl (.inl (.inr ⟨i, j, rfl, rfl, c.1, k _ _ _ _ .refl S (.str _) c.2⟩))
    | ref b => exact .inr (addL S (.str i) (.ref b) c k)
    | _ => exact c.elim
  | tup e1 d1 s1 =>
    cases r2 with
    | tup e2 d2 s2 =>
      refine .inl (.inr ⟨_, _, _, _, rfl, rfl, e1, e2, by rw [← s1.length, ← s2.length]; exact c.1, fun z => ?_, fun z w => ?_, fun z w => newTup S (s1.append s2) c.2 k⟩)
      · have := s1.nilIff.mp z
        subst this
        exact k _ _ _ _ .refl S (.tup e2 d2 s2) c.2
      · have := s2.nilIff.mp w
        subst this
        have c2 := c.2
        rw [List.append_nil] at c2
        exact k _ _ _ _ .refl S (.tup e1 d1 s1) c2
    | ref b => exact .inr (addL S (.tup e1 d1 s1) (.ref b) c k)
    | _ => exact c.elim
  | lv e1 n1 s1 => exact .inr (addL S (.lv e1 n1 s1) r2 (by cases r2 <;> exact c) k)
  | ref a => exact .inr (addL S (.ref a) r2 (by cases r2 <;> exact c) k)
  | non => exact .inr (addL S .non r2 (by cases r2 <;> exact c) k)
  | bl b => exact .inr (addL S (.bl b) r2 (by cases r2 <;> exact c) k)
  | fz e s => exact .inr (addL S (.fz e s) r2 (by cases r2 <;> exact c) k)
  | ov e n s => exact .inr (addL S (.ov e n s) r2 (by cases r2 <;> exact c) k)

/-! ### ints -/
def gI (f : Int → Int → Cv) : CG := fun x y h q => match x, y with | .int i, .int j => q (f i j) h | _, _ => False
def gIc (C : Int → Int → Prop) (f : Int → Int → Cv) : CG := fun x y h q => match x, y with | .int i, .int j => C i j ∧ q (f i j) h | _, _ => False
theorem oc_I {f : Int → Int → Int} : OpC K cm (rI0 fun i j => .int (f i j)) (gI fun i j => .int (f i j)) := fun H h x y V U q Q S r1 r2 c k => by
  cases r1 <;> first | exact c.elim | skip
  cases r2 <;> first | exact c.elim | exact ⟨_, _, rfl, rfl, k _ _ _ _ .refl S (.int _) c⟩
theorem oc_Ic {C : Int → Int → Prop} {f : Int → Int → Int} : OpC K cm (rI C fun i j => .int (f i j)) (gIc C fun i j => .int (f i j)) := fun H h x y V U q Q S r1 r2 c k => by
  cases r1 <;> first | exact c.elim | skip
  cases r2 <;> first | exact c.elim | exact ⟨_, _, rfl, rfl, c.1, k _ _ _ _ .refl S (.int _) c.2⟩
theorem oc_B {f : Int → Int → Bool} : OpC K cm (rI0 fun i j => .bl (f i j)) (gI fun i j => .bl (f i j)) := fun H h x y V U q Q S r1 r2 c k => by
  cases r1 <;> first | exact c.elim | skip
  cases r2 <;> first | exact c.elim | exact ⟨_, _, rfl, rfl, k _ _ _ _ .refl S (.bl _) c⟩
abbrev gSub : CG := gI fun i j => .int (i - j)
abbrev gFdiv : CG := gIc CDivW fun i j => .int (i / j)
abbrev gMod : CG := gIc (fun _ j => 0 < j) fun i j => .int (i % j)
abbrev gPow : CG := gIc CPow fun i j => .int (i ^ j.toNat)
/-! ### * : ints; a text so often -/
def txMul (x : Str) (n : Int) : Str := ⟨(List.replicate n.toNat x.cps.toList).flatten.toArray⟩
def gMul : CG := fun x y h q => match x, y with
  | .int i, .int j => (CMul i j ∨ CMulW i j) ∧ q (.int (i * j)) h
  | .str x, .int n => n < 1000000 ∧ x.length * n.toNat ≤ 1000000 ∧ 0 ≤ n ∧ q (.str (txMul x n)) h
  | _, _ => False
def rMulS : R2 := fun x y H Q => ∃ z n, x = .str z ∧ y = .int n ∧ n < 1000000 ∧ z.length * n.toNat ≤ 1000000 ∧ 0 ≤ n ∧ Q (.str (txMul z n)) H
theorem foldl_app (l : List Nat) : ∀ (k : Nat) (acc : List Nat), List.foldl (fun (a b : Array Nat) => a ++ b) acc.toArray (List.replicate k l.toArray) = (acc ++ (List.replicate k l).flatten).toArray
  | 0, acc => by simp
  | k + 1, acc => by
    rw [List.replicate_succ, List.foldl_cons, List.replicate_succ, List.flatten_cons, ← List.append_assoc, ← foldl_app l k]
    simp
theorem txMul_eq {x : Str} {n : Int} (h0 : 0 ≤ n) : Txt.mul x n = txMul x n := by
  unfold Txt.mul txMul
  have hx : x.cps = x.cps.toList.toArray := by simp
  split
  · have : n = 0 := by omega
    subst this
    simp [Str.empty]
  · split
    · next h =>
      rw [Bool.or_eq_true] at h
      rcases h with h | h
      · have : n = 1 := by simpa using h
        subst this
        cases x; simp
      · have hz : x.cps.toList = [] := by
          have : x.cps.size = 0 := by simpa [Str.length] using h
          simpa using this
        cases x
        rename_i c
        simp only at hz
        have : c = #[] := by simpa using hz
        subst this
        simp
    · have := foldl_app x.cps.toList n.toNat []
      rw [Array.toArray_toList] at this
      simpa using congrArg Str.mk this
theorem op_mulS : OpR X (binaryOp .Mult) rMulS := by
  intro pins s σ H x y v u Q I rx ry ⟨z, n, hx, hy, h1, h2, h3, q⟩
  subst hx hy
  obtain ⟨t, rfl⟩ := rx
  obtain ⟨t', rfl⟩ := ry
  refine SB.mul ⟨?_, fun a b => ?_, fun a b => ?_⟩ fun t2 k => ⟨.str _, H, I.tok _, ⟨_, rfl⟩, by rw [txMul_eq h3]; exact q⟩
  · simp
    omega
  · have h5 : ((z.length * n.toNat : Nat) : Int) = z.length * n := by
      rw [Int.natCast_mul, Int.toNat_of_nonneg h3]
    have h6 : (z.length : Int) * n ≤ 2 ^ 63 - 1 := by omega
    have h7 := (Int.le_ediv_iff_mul_le (a := (z.length : Int)) (b := 2 ^ 63 - 1) (c := n) (by omega)).mpr h6
    omega
  · show decide (_ > sizeLine) = false
    rw [sizeLine_eq]
    exact decide_eq_false (by omega)
def rMulC : R2 := fun x y H Q => ((rI CMul (fun i j => .int (i * j))) x y H Q ∨ (rI CMulW (fun i j => .int (i * j))) x y H Q) ∨ rMulS x y H Q
theorem op_mulC : OpR X (binaryOp .Mult) rMulC := OpR.or (OpR.or op_mul op_mulW) op_mulS
theorem oc_mul : OpC K cm rMulC gMul := fun H h x y V U q Q S r1 r2 c k => by
  cases r1 <;> first | exact c.elim | skip
  · next i =>
    cases r2 <;> first | exact c.elim | skip
    rcases c.1 with z | z
    · exact .inl (.inl ⟨_, _, rfl, rfl, z, k _ _ _ _ .refl S (.int _) c.2⟩)
    · exact .inl (.inr ⟨_, _, rfl, rfl, z, k _ _ _ _ .refl S (.int _) c.2⟩)
  · next i =>
    cases r2 <;> first | exact c.elim | skip
    exact .inr ⟨_, _, rfl, rfl, c.1, c.2.1, c.2.2.1, k _ _ _ _ .refl S (.str _) c.2.2.2⟩
def gNeg : CU := fun x h q => match x with | .int i => q (.int (-i)) h | _ => False
theorem uc_neg : UnC K cm (rU fun i => .int (-i)) gNeg := fun H h x V q Q S r c k => by
  cases r <;> first | exact c.elim | exact ⟨_, rfl, k _ _ _ _ .refl S (.int _) c⟩

/-! ### comparisons -/
def slt (a b : Str) : Bool := decide (a.cps.toList < b.cps.toList)
def gCmp (f : Int → Int → Bool) (g : Str → Str → Bool) : CG := fun x y h q => match x, y with
  | .int i, .int j => q (.bl (f i j)) h
  | .str i, .str j => q (.bl (g i j)) h
  | _, _ => False
def rCmp (f : Int → Int → Bool) (g : Str → Str → Bool) : R2 := fun x y H Q => (rI0 (fun i j => .bl (f i j))) x y H Q ∨ (∃ i j, x = .str i ∧ y = .str j ∧ Q (.bl (g i j)) H)
theorem oc_cmp {f : Int → Int → Bool} {g : Str → Str → Bool} : OpC K cm (rCmp f g) (gCmp f g) := fun H h x y V U q Q S r1 r2 c k => by
  cases r1 <;> first | exact c.elim | skip
  · cases r2 <;> first | exact c.elim | exact .inl ⟨_, _, rfl, rfl, k _ _ _ _ .refl S (.bl _) c⟩
  · cases r2 <;> first | exact c.elim | exact .inr ⟨_, _, rfl, rfl, k _ _ _ _ .refl S (.bl _) c⟩
abbrev gLt : CG := gCmp (fun i j => decide (i < j)) slt
abbrev gLe : CG := gCmp (fun i j => decide (i ≤ j)) fun i j => !slt j i
abbrev gGt : CG := gCmp (fun i j => decide (j < i)) fun i j => slt j i
abbrev gGe : CG := gCmp (fun i j => decide (j ≤ i)) fun i j => !slt i j
theorem op_ltC : OpR X (compareOp .Lt) (rCmp (fun i j => decide (i < j)) slt) := OpR.or op_lt op_lt_str
theorem op_leC : OpR X (compareOp .LtE) (rCmp (fun i j => decide (i ≤ j)) fun i j => !slt j i) := OpR.or op_le op_le_str
theorem op_gtC : OpR X (compareOp .Gt) (rCmp (fun i j => decide (j < i)) fun i j => slt j i) := OpR.or op_gt op_gt_str
theorem op_geC : OpR X (compareOp .GtE) (rCmp (fun i j => decide (j ≤ i)) fun i j => !slt i j) := OpR.or op_ge op_ge_str
/-! ### == -/
mutual
def dOf : Cv → PyData
  | .non => .none
  | .bl b => .bool b
  | .int i => .int i
  | .str x => .str x
  | .tup xs => .tuple (dOfs xs)
  | .lv xs => .list (dOfs xs)
  | .fz xs => .list (dOfs xs)
  | .ov _ _ => .dict []
  | .ref _ => .dict []
def dOfs : List Cv → List PyData
  | [] => []
  | x :: xs => dOf x :: dOfs xs
end
mutual
theorem dp_of : ∀ {x : Cv} {V : V}, RelC K cm H h x V → (dOf x).canLay0 = true → Dp K H V (dOf x)
  | _, _, .non, _ => by rw [dOf]; exact .non
  | _, _, .bl b, _ => by rw [dOf]; exact .bl b
  | _, _, .int b, _ => by rw [dOf]; exact .int b
  | _, _, .str b, _ => by rw [dOf]; exact .str b
  | _, _, .ref b, e => by rw [dOf] at e; cases e
  | _, _, .tup e _ r, z => by rw [dOf] at z ⊢; exact .tup e (dp_ofs r z)
  | _, _, .lv e n r, z => by rw [dOf] at z ⊢; exact .lst (.inl (.inl e)) (dp_ofs r z)
  | _, _, .fz e r, z => by rw [dOf] at z ⊢; exact .lst e.sq (dp_ofs r z)
  | _, _, .ov e n r, z => by rw [dOf] at z; cases z
theorem dp_ofs : ∀ {x : List Cv} {V : List V}, RelCs K cm H h x V → PyData.canLayAll0 (dOfs x) = true → DpAll K H V (dOfs x)
  | _, _, .nil, _ => .nil
  | _, _, .cons r t, z => by
    rw [dOfs, PyData.canLayAll0, Bool.and_eq_true] at z
    rw [dOfs]
    exact .cons (dp_of r z.1) (dp_ofs t z.2)
end
/-- plain: may be compared with == -/
def okd (x : Cv) : Prop := SeqAt.shaped (dOf x) = true
theorem dp_okd {x : Cv} {V : V} (r : RelC K cm H h x V) (z : okd x) : Dp K H V (dOf x) := dp_of r (SeqAt.canLay_of_shaped z)
def ceq (x y : Cv) : Bool := PyData.eqv (dOf x) (dOf y)
def gEq : CG := fun x y h q => match x, y with
  | .int i, .int j => q (.bl (decide (i = j))) h
  | .str i, .str j => q (.bl (decide (i = j))) h
  | .bl i, .bl j => q (.bl (decide (i = j))) h
  | x, y => okd x ∧ okd y ∧ q (.bl (ceq x y)) h
def gNe : CG := fun x y h q => match x, y with
  | .int i, .int j => q (.bl (!decide (i = j))) h
  | .str i, .str j => q (.bl (!decide (i = j))) h
  | .bl i, .bl j => q (.bl (!decide (i = j))) h
  | x, y => okd x ∧ okd y ∧ q (.bl (!ceq x y)) h
theorem oc_eq : OpC K cm (fun x y H Q => rEq x y H Q ∨ rEqD K x y H Q) gEq := fun H h x y V U q Q S r1 r2 c k => by
  unfold gEq at c
  split at c
  · cases r1; cases r2; exact .inl ⟨rfl, k _ _ _ _ .refl S (.bl _) (by simpa using c)⟩
  · cases r1; cases r2; exact .inl ⟨rfl, k _ _ _ _ .refl S (.bl _) (by simpa using c)⟩
  · cases r1; cases r2; exact .inl ⟨rfl, k _ _ _ _ .refl S (.bl _) (by simpa using c)⟩
  · exact .inr ⟨_, _, dp_okd r1 c.1, dp_okd r2 c.2.1, c.1, c.2.1, k _ _ _ _ .refl S (.bl _) c.2.2⟩
theorem oc_ne : OpC K cm (fun x y H Q => rNe x y H Q ∨ rNeD K x y H Q) gNe := fun H h x y V U q Q S r1 r2 c k => by
  unfold gNe at c
  split at c
  · cases r1; cases r2; exact .inl ⟨rfl, k _ _ _ _ .refl S (.bl _) (by simpa using c)⟩
  · cases r1; cases r2; exact .inl ⟨rfl, k _ _ _ _ .refl S (.bl _) (by simpa using c)⟩
  · cases r1; cases r2; exact .inl ⟨rfl, k _ _ _ _ .refl S (.bl _) (by simpa using c)⟩
  · exact .inr ⟨_, _, dp_okd r1 c.1, dp_okd r2 c.2.1, c.1, c.2.1, k _ _ _ _ .refl S (.bl _) c.2.2⟩
theorem op_eqC (hu : X.A.units + 64 < cLine) : OpR X (compareOp .Eq) (fun x y H Q => rEq x y H Q ∨ rEqD X.K x y H Q) := OpR.or op_eq (op_eqD hu)
theorem op_neC (hu : X.A.units + 64 < cLine) : OpR X (compareOp .NotEq) (fun x y H Q => rNe x y H Q ∨ rNeD X.K x y H Q) := OpR.or op_ne (op_neD hu)
/-! ### is None -/
def isN : Cv → Bool | .non => true | _ => false
def gIsN : CG := fun x y h q => match y with | .non => q (.bl (isN x)) h | _ => False
def gNotN : CG := fun x y h q => match y with | .non => q (.bl (!isN x)) h | _ => False
theorem RelC.isN {x : Cv} {V : V} (r : RelC K cm H h x V) : decide (V = .non) = Co.isN x := by cases r <;> rfl
theorem oc_isN : OpC K cm (fun x y H Q => y = .non ∧ Q (.bl (decide (x = .non))) H) gIsN := fun H h x y V U q Q S r1 r2 c k => by
  cases r2 <;> first | exact c.elim | exact ⟨rfl, k _ _ _ _ .refl S (.bl _) (by rw [r1.isN]; exact c)⟩
theorem oc_notN : OpC K cm (fun x y H Q => y = .non ∧ Q (.bl (!decide (x = .non))) H) gNotN := fun H h x y V U q Q S r1 r2 c k => by
  cases r2 <;> first | exact c.elim | exact ⟨rfl, k _ _ _ _ .refl S (.bl _) (by rw [r1.isN]; exact c)⟩
/-! ### in -/
def flatC : Cv → Bool | .non => true | .bl _ => true | .int _ => true | .str _ => true | _ => false
def eqF : Cv → Cv → Bool
  | .non, .non => true
  | .bl a, .bl b => a == b
  | .bl a, .int b => (if a then 1 else 0) == b
  | .int a, .bl b => a == (if b then 1 else 0)
  | .int a, .int b => a == b
  | .str a, .str b => a == b
  | _, _ => false
theorem RelC.flat {x : Cv} {V : V} (r : RelC K cm H h x V) : flatV V = flatC x := by cases r <;> rfl
theorem RelC.eqF {x y : Cv} {V U : L2.V} (r : RelC K cm H h x V) (s : RelC K cm H h y U) : eqV V U = Co.eqF x y := by cases r <;> cases s <;> rfl
theorem RelCs.flat : ∀ {x : List Cv} {V : List V}, RelCs K cm H h x V → V.all flatV = x.all flatC
  | _, _, .nil => rfl
  | _, _, .cons r t => by rw [List.all_cons, List.all_cons, r.flat, t.flat]
theorem RelCs.inF {x : Cv} {V : L2.V} (r : RelC K cm H h x V) : ∀ {xs : List Cv} {Vs : List L2.V}, RelCs K cm H h xs Vs → inV V Vs = xs.any fun y => Co.eqF y x
  | _, _, .nil => rfl
  | _, _, .cons r1 t => by
    have := RelCs.inF r t
    unfold inV at this ⊢
    rw [List.any_cons, List.any_cons, r1.eqF r, this]
/-- flat things in a list or tuple of flat things; a sign in a text; deep ones in a list -/
def gInB (f : Bool → Bool) : CG := fun x y h q => match x, y with
  | .str s, .str z => ∃ c, s.cps.toList = [c] ∧ q (.bl (f (decide (c ∈ z.cps.toList)))) h
  | x, y => ∃ xs, asQ y h = some xs ∧ flatC x = true ∧ xs.all flatC = true ∧ q (.bl (f (xs.any fun z => eqF z x))) h
abbrev gIn : CG := gInB id
abbrev gNotIn : CG := gInB not
theorem oc_inB {f : Bool → Bool} {neg : Bool} (hf : ∀ b, (if neg then !b else b) = f b) : OpC K cm (fun x y H Q => rIn K neg x y H Q ∨ (∃ (c : Nat) (z : Str), x = .str ⟨#[c]⟩ ∧ y = .str z ∧ Q (.bl (f (decide (c ∈ z.cps.toList)))) H)) (gInB f) := fun H h x y V U q Q S r1 r2 c k => by
  unfold gInB at c
  split at c
  · next s z =>
    obtain ⟨n, e, c⟩ := c
    cases r1; cases r2
    have es : s = ⟨#[n]⟩ := by
      cases s with | mk cs =>
      have e' : cs.toList = [n] := e
      have : cs = [n].toArray := by rw [← e']
      rw [this]
    exact .inr ⟨n, z, by rw [es], rfl, k _ _ _ _ .refl S (.bl _) c⟩
  · obtain ⟨xs, e, e1, e2, c⟩ := c
    obtain ⟨a, Vs, rfl, hq, s⟩ := asQ_ok S r2 e
    refine .inl ⟨a, Vs, rfl, hq, by rw [r1.flat]; exact e1, by rw [s.flat]; exact e2, k _ _ _ _ .refl S (.bl _) ?_⟩
    rw [← hf] at c
    rw [RelCs.inF r1 s]
    exact c
theorem op_inC : OpR X (compareOp .In) (fun x y H Q => rIn X.K false x y H Q ∨ (∃ (c : Nat) (z : Str), x = .str ⟨#[c]⟩ ∧ y = .str z ∧ Q (.bl (id (decide (c ∈ z.cps.toList)))) H)) := OpR.or op_in_seq op_in_sign
theorem op_notInC : OpR X (compareOp .NotIn) (fun x y H Q => rIn X.K true x y H Q ∨ (∃ (c : Nat) (z : Str), x = .str ⟨#[c]⟩ ∧ y = .str z ∧ Q (.bl (not (decide (c ∈ z.cps.toList)))) H)) := OpR.or op_notIn_seq op_notIn_sign
theorem oc_in : OpC K cm (fun x y H Q => rIn K false x y H Q ∨ (∃ (c : Nat) (z : Str), x = .str ⟨#[c]⟩ ∧ y = .str z ∧ Q (.bl (id (decide (c ∈ z.cps.toList)))) H)) gIn := oc_inB fun _ => rfl
theorem oc_notIn : OpC K cm (fun x y H Q => rIn K true x y H Q ∨ (∃ (c : Nat) (z : Str), x = .str ⟨#[c]⟩ ∧ y = .str z ∧ Q (.bl (not (decide (c ∈ z.cps.toList)))) H)) gNotIn := oc_inB fun _ => rfl

/-! ### items, slices -/
def gIx : CG := fun x y h q => match y with
  | .int i => (match x with
    | .str z => z.length ≤ sizeLine ∧ match atI z.cps.toList i with | some c => q (.str ⟨#[c]⟩) h | none => False
    | x => match asQ x h with | some xs => (match atI xs i with | some v => q v h | none => False) | none => False)
  | _ => False
theorem RelCs.atI {xs : List Cv} {Vs : List V} (r : RelCs K cm H h xs Vs) {i : Int} {x : Cv} (e : L2.atI xs i = some x) : ∃ v, L2.atI Vs i = some v ∧ RelC K cm H h x v := by
  unfold L2.atI at e ⊢
  rw [r.length] at e
  cases q : ixN Vs.length i with
  | none => rw [q] at e; cases e
  | some j => rw [q] at e; exact r.get e
theorem oc_ix : OpC K cm (fun x y H Q => rIxL K x y H Q ∨ (rIxT K x y H Q ∨ rIxS x y H Q)) gIx := fun H h x y V U q Q S r1 r2 c k => by
  cases r2 <;> first | exact c.elim | skip
  next i =>
  unfold gIx at c
  dsimp only at c
  split at c
  · cases r1
    obtain ⟨z, c⟩ := c
    split at c
    · next ch e => exact .inr (.inr ⟨_, _, ch, rfl, rfl, z, e, k _ _ _ _ .refl S (.str _) c⟩)
    · exact c.elim
  · split at c
    · next xs ex =>
      split at c
      · next v ev =>
        obtain ⟨a, Vs, rfl, hq, s⟩ := asQ_ok S r1 ex
        obtain ⟨w, ew, rw⟩ := s.atI ev
        rcases hq with hq | hq
        · exact .inl ⟨a, Vs, _, w, rfl, rfl, hq, ew, k _ _ _ _ .refl S rw c⟩
        · exact .inr (.inl ⟨a, Vs, _, w, rfl, rfl, hq, ew, k _ _ _ _ .refl S rw c⟩)
      · exact c.elim
    · exact c.elim
def cutC (xs : List Cv) (lo hi : Option Int) : List Cv := (xs.drop (HT.sIx xs.length 0 lo)).take (HT.sIx xs.length xs.length hi - HT.sIx xs.length 0 lo)
theorem RelCs.cut {xs : List Cv} {Vs : List V} (r : RelCs K cm H h xs Vs) (lo hi : Option Int) : RelCs K cm H h (cutC xs lo hi) (cutV Vs lo hi) := by
  unfold cutC cutV
  rw [r.length]
  exact (r.drop _).take _
def gSlice : CSl := fun x lo hi h q => match x with
  | .str z => z.length ≤ sizeLine ∧ q (.str (cutS z lo hi)) h
  | .tup xs => q (.tup (cutC xs lo hi)) h
  | x => match asF x h with | some xs => q (.lv (cutC xs lo hi)) h | none => False
theorem cutC_all {xs : List Cv} {lo hi : Option Int} (e : HT.sIx xs.length 0 lo = 0 ∧ HT.sIx xs.length xs.length hi = xs.length) : cutC xs lo hi = xs := by
  unfold cutC
  rw [e.1, e.2]
  simp
theorem sc_slice : SlC K cm (fun x lo hi H Q => (rSlL K x lo hi H Q ∨ rSlAD K x lo hi H Q) ∨ rSlS x lo hi H Q) gSlice := fun H h x V lo hi q Q S r c k => by
  cases r with
  | str z => exact .inr ⟨_, rfl, c.1, k _ _ _ _ .refl S (.str _) c.2⟩
  | tup e d s =>
    refine .inl (.inr ⟨_, _, rfl, e, fun w => ?_, fun w => newTup S (s.cut lo hi) c k⟩)
    rw [← s.length] at w
    have c' : q (.tup (cutC _ lo hi)) h.c := c
    rw [cutC_all w] at c'
    exact k _ _ _ _ .refl S (.tup e d s) c'
  | lv e n s => exact .inl (.inl ⟨_, _, rfl, .inl (.inl e), newLv S (s.cut lo hi) c k⟩)
  | fz e s => exact .inl (.inl ⟨_, _, rfl, e.sq, newLv S (s.cut lo hi) c k⟩)
  | ref a =>
    unfold gSlice at c
    dsimp only at c
    split at c
    · next xs ex =>
      obtain ⟨p, Vs, e1, hq, s⟩ := asF_ok S (.ref a) ex
      exact .inl (.inl ⟨_, _, e1, hq, newLv S (s.cut lo hi) c k⟩)
    · exact c.elim
  | _ => exact c.elim
theorem sl_all : SlR X (fun x lo hi H Q => (rSlL X.K x lo hi H Q ∨ rSlAD X.K x lo hi H Q) ∨ rSlS x lo hi H Q) := (sl_list.or sl_tupAD).or sl_str
end
end Co
end
section
/-! Core7: built-in functions, methods, dicts. -/
namespace Co
open PySem PySem.Spec L2
section
variable {X : Cx} {K : PySem.W.Frag} {cm : String → Addr} {H : Hp} {h : Wh}

/-! ### len, tuple, list, int, str, min, max, abs -/
def gLen : CF := fun xs h q => match xs with
  | [.str z] => z.length ≤ sizeLine ∧ q (.int z.length) h
  | [x] => match asQ x h with
    | some ys => q (.int ys.length) h
    | none => match x with | .ref a => (match h a with | some (.dct kvs) => q (.int kvs.length) h | _ => False) | _ => False
  | _ => False
def rLenD : List V → Hp → VK → Prop := fun xs H Q => ∃ a kvs, xs = [.ref a] ∧ H a = some (.dK kvs) ∧ Q (.int kvs.length) H
theorem call_lenDC : CallR X (.builtin "len") rLenD := fun pins s σ H xs us Q I r ⟨a, kvs, e, ha, q⟩ => by
  subst e
  obtain ⟨u, rfl, ru⟩ := Vals.one r
  cases ru
  exact d_len I (.inl ha) fun t s' I' => ⟨.int _, H, I', ⟨t, rfl⟩, q⟩
def rLenC (K : PySem.W.Frag) : List V → Hp → VK → Prop := fun xs H Q => (∃ x n, xs = [x] ∧ LenV K x H n ∧ Q (.int n) H) ∨ rLenD xs H Q
theorem call_lenC : CallR X (.builtin "len") (rLenC X.K) := CallR.or call_len call_lenDC
theorem cc_len : CallC K cm (rLenC K) gLen := fun H h xs Vs q Q S r c k => by
  unfold gLen at c
  split at c
  · obtain ⟨v, rfl, r1⟩ := r.one
    cases r1
    exact .inl ⟨_, _, rfl, ⟨c.1, rfl⟩, k _ _ _ _ .refl S (.int _) c.2⟩
  · obtain ⟨v, rfl, r1⟩ := r.one
    split at c
    · next ys e =>
      obtain ⟨a, Vs, rfl, hq, s⟩ := asQ_ok S r1 e
      refine .inl ⟨_, ys.length, rfl, ?_, k _ _ _ _ .refl S (.int _) c⟩
      rcases hq with hq | hq
      · exact .inl ⟨_, hq, s.length⟩
      · exact .inr ⟨_, hq, s.length⟩
    · split at c
      · cases r1
        split at c
        · next kvs e =>
          obtain ⟨kV, e1, r2⟩ := S.obj _ _ e
          refine .inr ⟨_, _, rfl, e1, ?_⟩
          have := Paired.length r2
          rw [← this]
          exact k _ _ _ _ .refl S (.int _) c
        · exact c.elim
      · exact c.elim
  · exact c.elim
/-- tuple(x) of a list or a tuple -/
def gTuple : CF := fun xs h q => match xs with
  | [x] => match asQ x h with | some ys => q (.tup ys) h | none => False
  | _ => False
theorem cc_tuple : CallC K cm (rTupleD K) gTuple := fun H h xs Vs q Q S r c k => by
  unfold gTuple at c
  split at c
  · obtain ⟨v, rfl, r1⟩ := r.one
    split at c
    · next ys e =>
      obtain ⟨a, Vs, rfl, hq, s⟩ := asQ_okD S r1 e
      refine ⟨_, Vs, rfl, ?_⟩
      rcases hq with hq | ⟨hq, hd⟩
      · exact .inl ⟨hq, newTup S s c k⟩
      · exact .inr ⟨hq, k _ _ _ _ .refl S (.tup hq hd s) c⟩
    · exact c.elim
  · exact c.elim
/-- list(x): a value, or live -/
def gList : CF := fun xs h q => match xs with
  | [x] => match asQ x h with | some ys => q (.lv ys) h | none => False
  | _ => False
def gListL : CF := fun xs h q => match xs with
  | [x] => match asQ x h with | some ys => ∀ p, h p = none → q (.ref p) (cup h p (.lst ys)) | none => False
  | _ => False
theorem cc_list : CallC K cm (fun xs H Q => ∃ p ys, xs = [.ref p] ∧ (SqL K H p ys ∨ SqT K H p ys) ∧ ∀ l, H l = none → Q (.ref l) (upd H l (.lst ys))) gList := fun H h xs Vs q Q S r c k => by
  unfold gList at c
  split at c
  · obtain ⟨v, rfl, r1⟩ := r.one
    split at c
    · next ys e =>
      obtain ⟨a, Vs, rfl, hq, s⟩ := asQ_ok S r1 e
      exact ⟨_, Vs, rfl, hq, newLv S s c k⟩
    · exact c.elim
  · exact c.elim
theorem cc_listL : CallC K cm (fun xs H Q => ∃ p ys, xs = [.ref p] ∧ (SqL K H p ys ∨ SqT K H p ys) ∧ ∀ l, H l = none → Q (.ref l) (upd H l (.lst ys))) gListL := fun H h xs Vs q Q S r c k => by
  unfold gListL at c
  split at c
  · obtain ⟨v, rfl, r1⟩ := r.one
    split at c
    · next ys e =>
      obtain ⟨a, Vs, rfl, hq, s⟩ := asQ_ok S r1 e
      exact ⟨_, Vs, rfl, hq, newLst S s c k⟩
    · exact c.elim
  · exact c.elim
def gInt : CF := fun xs h q => match xs with
  | [.int i] => q (.int i) h
  | [.bl b] => q (.int (if b then 1 else 0)) h
  | [.str a] => ∃ n, PySem.intText? a = some n ∧ a.length ≤ 640 ∧ q (.int n) h
  | _ => False
def rIntC : List V → Hp → VK → Prop := fun xs H Q => ((∃ i, xs = [.int i] ∧ Q (.int i) H) ∨ ∃ k, xs = [.bl k] ∧ Q (.int (if k then 1 else 0)) H) ∨ (∃ a n, xs = [.str a] ∧ PySem.intText? a = some n ∧ a.length ≤ 640 ∧ Q (.int n) H)
theorem call_intC : CallR X (.type "int") rIntC := CallR.or call_int1 call_int_str
theorem cc_int : CallC K cm rIntC gInt := fun H h xs Vs q Q S r c k => by
  unfold gInt at c
  split at c
  · obtain ⟨v, rfl, r1⟩ := r.one; cases r1; exact .inl (.inl ⟨_, rfl, k _ _ _ _ .refl S (.int _) c⟩)
  · obtain ⟨v, rfl, r1⟩ := r.one; cases r1; exact .inl (.inr ⟨_, rfl, k _ _ _ _ .refl S (.int _) c⟩)
  · obtain ⟨v, rfl, r1⟩ := r.one; cases r1; obtain ⟨n, e1, e2, c⟩ := c; exact .inr ⟨_, n, rfl, e1, e2, k _ _ _ _ .refl S (.int _) c⟩
  · exact c.elim
def gStr : CF := fun xs h q => match xs with | [.int i] => i.natAbs.log2 < 1920 ∧ q (.str (toString i)) h | _ => False
theorem cc_str : CallC K cm (fun xs H Q => ∃ i, xs = [.int i] ∧ i.natAbs.log2 < 1920 ∧ Q (.str (toString i)) H) gStr := fun H h xs Vs q Q S r c k => by
  unfold gStr at c
  split at c
  · obtain ⟨v, rfl, r1⟩ := r.one; cases r1; exact ⟨_, rfl, c.1, k _ _ _ _ .refl S (.str _) c.2⟩
  · exact c.elim
def gAbs : CF := fun xs h q => match xs with | [.int i] => q (.int (if i < 0 then -i else i)) h | _ => False
theorem cc_abs : CallC K cm (fun xs H Q => ∃ i, xs = [.int i] ∧ Q (.int (if i < 0 then -i else i)) H) gAbs := fun H h xs Vs q Q S r c k => by
  unfold gAbs at c
  split at c
  · obtain ⟨v, rfl, r1⟩ := r.one; cases r1; exact ⟨_, rfl, k _ _ _ _ .refl S (.int _) c⟩
  · exact c.elim
def gMax2 : CF := fun xs h q => match xs with | [.int i, .int j] => q (.int (if j > i then j else i)) h | _ => False
def gMin2 : CF := fun xs h q => match xs with | [.int i, .int j] => q (.int (if j < i then j else i)) h | _ => False
theorem cc_max2 : CallC K cm (fun xs H Q => ∃ i j, xs = [.int i, .int j] ∧ Q (.int (if j > i then j else i)) H) gMax2 := fun H h xs Vs q Q S r c k => by
  unfold gMax2 at c
  split at c
  · obtain ⟨v, u, rfl, r1, r2⟩ := r.two; cases r1; cases r2; exact ⟨_, _, rfl, k _ _ _ _ .refl S (.int _) c⟩
  · exact c.elim
theorem cc_min2 : CallC K cm (fun xs H Q => ∃ i j, xs = [.int i, .int j] ∧ Q (.int (if j < i then j else i)) H) gMin2 := fun H h xs Vs q Q S r c k => by
  unfold gMin2 at c
  split at c
  · obtain ⟨v, u, rfl, r1, r2⟩ := r.two; cases r1; cases r2; exact ⟨_, _, rfl, k _ _ _ _ .refl S (.int _) c⟩
  · exact c.elim
/-! ### all, any, sum, sorted, max, min of a list -/
def gAllAny (f : List Bool → Bool) : CF := fun xs h q => match xs with | [x] => ∃ bs : List Bool, asF x h = some (bs.map .bl) ∧ q (.bl (f bs)) h | _ => False
abbrev gAll : CF := gAllAny fun bs => bs.all id
abbrev gAny : CF := gAllAny fun bs => bs.any id
theorem cc_aa {f : List Bool → Bool} : CallC K cm (fun vs H Q => ∃ (a : Addr) (bs : List Bool), vs = [V.ref a] ∧ SqL K H a (bs.map V.bl) ∧ Q (.bl (f bs)) H) (gAllAny f) := fun H h xs Vs q Q S r c k => by
  unfold gAllAny at c
  split at c
  · obtain ⟨v, rfl, r1⟩ := r.one
    obtain ⟨bs, e, c⟩ := c
    obtain ⟨a, Vs, rfl, hq, s⟩ := asF_ok S r1 e
    rw [RelCs.inv_bls s] at hq
    exact ⟨a, bs, rfl, hq, k _ _ _ _ .refl S (.bl _) c⟩
  · exact c.elim
def gSum : CF := fun xs h q => match xs with | [x] => ∃ bs : List Int, asF x h = some (bs.map .int) ∧ q (.int bs.sum) h | _ => False
theorem cc_sum : CallC K cm (rSum K) gSum := fun H h xs Vs q Q S r c k => by
  unfold gSum at c
  split at c
  · obtain ⟨v, rfl, r1⟩ := r.one
    obtain ⟨bs, e, c⟩ := c
    obtain ⟨a, Vs, rfl, hq, s⟩ := asF_ok S r1 e
    rw [RelCs.inv_ints s] at hq
    exact ⟨a, bs, rfl, hq, k _ _ _ _ .refl S (.int _) c⟩
  · exact c.elim
/-- sorted of texts, of ints: some rising arrangement -/
def gSorted : CF := fun xs h q => match xs with
  | [x] => (∃ ss : List Str, asF x h = some (ss.map .str) ∧ ss.length < 64 ∧ ∀ ys : List Str, ys.Perm ss → PyProof.Rows.sortedS ys = true → q (.lv (ys.map .str)) h) ∨
      (∃ ss : List Int, asF x h = some (ss.map .int) ∧ ss.length < 64 ∧ ∀ ys : List Int, ys.Perm ss → ys.Pairwise (· ≤ ·) → q (.lv (ys.map .int)) h)
  | _ => False
theorem RelCs.strs {ns : List Str} : RelCs K cm H h (ns.map .str) (ns.map .str) := by
  induction ns with
  | nil => exact .nil
  | cons n ns ih => exact .cons (.str n) ih
theorem op_sortedC : CallR X (.builtin "sorted") (fun xs H Q => rSortedS X.K xs H Q ∨ rSorted X.K xs H Q) := CallR.or cr_sortedS cr_sorted
theorem cc_sorted : CallC K cm (fun xs H Q => rSortedS K xs H Q ∨ rSorted K xs H Q) gSorted := fun H h xs Vs q Q S r c k => by
  unfold gSorted at c
  split at c
  · obtain ⟨v, rfl, r1⟩ := r.one
    rcases c with ⟨bs, e, z, c⟩ | ⟨bs, e, z, c⟩
    · obtain ⟨a, Vs, rfl, hq, s⟩ := asF_ok S r1 e
      rw [RelCs.inv_strs s] at hq
      exact .inl ⟨a, bs, rfl, hq, z, fun ys p p1 p2 n => newLv S RelCs.strs (c ys p1 p2) k p n⟩
    · obtain ⟨a, Vs, rfl, hq, s⟩ := asF_ok S r1 e
      rw [RelCs.inv_ints s] at hq
      exact .inr ⟨a, bs, rfl, hq, z, fun ys p p1 p2 n => newLv S RelCs.ints (c ys p1 p2) k p n⟩
  · exact c.elim
end
end Co
end
section
/-! Core8: methods of lists, texts; items stored; dicts; isinstance; raise, try. -/
namespace Co
open PySem PySem.Spec L2
section
variable {X : Cx} {K : PySem.W.Frag} {cm : String → Addr} {H : Hp} {h : Wh} {W : WX} {pos apos cpos p : Pos} {o e f i v : Expr} {es : List Expr} {co ca cb cv ci : CT} {cs : CTs}
abbrev CM := Cv → List Cv → CH → (Cv → CH → Prop) → Prop
def MtC (K : PySem.W.Frag) (cm : String → Addr) (r : V → List V → Hp → VK → Prop) (g : CM) : Prop := ∀ H (h : Wh) x V xs Vs q Q, Rst K cm H h → RelC K cm H h x V → RelCs K cm H h xs Vs → g x xs h.c q → Cnv K cm H h q Q → r V Vs H Q
/-- the receiver is a live list -/
def isLst (x : Cv) (h : CH) : Prop := match x with | .ref a => (match h a with | some (.lst _) => True | _ => False) | _ => False
theorem isLst_ok {x : Cv} {V : V} (S : Rst K cm H h) (r : RelC K cm H h x V) (z : isLst x h.c) : tyV K "list" V H := by
  cases r <;> first | exact z.elim | skip
  unfold isLst at z
  dsimp only at z
  split at z
  · next xs ex =>
    obtain ⟨Vs, e1, _⟩ := S.obj _ _ ex
    exact .inl ⟨rfl, Vs, .inl (.inl e1)⟩
  · exact z.elim
def cLM (g : CM) (co : CT) (cs : CTs) : CT := fun env h q e => co env h (fun x h1 => isLst x h1 ∧ cs env h1 (fun xs h2 => g x xs h2 q) e) e
theorem ce_lm {name : Str} {id : String} {r : V → List V → Hp → VK → Prop} {g : CM} (slot : Slot "list" name id) (hty : typeOf (.builtin id) = pure (.type "method_descriptor")) (hm : MtR X id r) (hg : MtC X.K cm r g) (ho : PE X o (eOf X.K cm W co)) (ha : PA X (e :: es) (aOf X.K cm W cs))
    (hbase : attributeBase o name X.env (eval o X.env) = eval o X.env := by rfl)
    (hfew : ((backTo cpos (starEach (e :: es) X.env)).all (fun x => !x.1) && (backToKw cpos (keywordEach [] X.env)).all (fun x => x.1.isSome)
      && decide ((e :: es).length + ([] : List Keyword).length + (if ([] : List Keyword).isEmpty then 0 else 1) < 30)) = true := by rfl)
    (hline : (apos.endLine == cpos.line) = true := by rfl) (hs : starEach (e :: es) X.env = (false, eval e X.env) :: starEach es X.env := by rfl) (hplain : (backTo cpos (starEach es X.env)).any (·.1) = false := by rfl) :
    PE X (.Call (.Attribute o name apos) (e :: es) [] cpos) (eOf X.K cm W (cLM g co cs)) := weakE (fun σ H Q ⟨h, env, q, ex, S, R, hc, k, kx⟩ =>
  ⟨h, env, _, ex, S, R, hc, fun H1 h1 x V l1 S1 r1 c1 => ⟨isLst_ok S1 r1 c1.1, h1, env, _, ex, S1, R.mono S l1, c1.2, fun H2 h2 xs Vs l2 S2 r2 c2 => hg _ _ _ _ _ _ _ _ S2 (r1.mono S1 l2) r2 c2 (k.mono (l1.trans l2)), kx.mono l1⟩, kx⟩)
  (pe_bm PySem.F.plainAttrs_list slot hty hm ho ha hbase hfew hline hs hplain)
theorem ce_lm0 {name : Str} {id : String} {r : V → List V → Hp → VK → Prop} {g : CM} (slot : Slot "list" name id) (hty : typeOf (.builtin id) = pure (.type "method_descriptor")) (hm : MtR X id r) (hg : MtC X.K cm r g) (ho : PE X o (eOf X.K cm W co))
    (hbase : attributeBase o name X.env (eval o X.env) = eval o X.env := by rfl) (hline : (apos.endLine == cpos.line) = true := by rfl) :
    PE X (.Call (.Attribute o name apos) [] [] cpos) (eOf X.K cm W (cLM g co cNil)) := weakE (fun σ H Q ⟨h, env, q, ex, S, R, hc, k, kx⟩ =>
  ⟨h, env, _, ex, S, R, hc, fun H1 h1 x V l1 S1 r1 c1 => ⟨isLst_ok S1 r1 c1.1, hg _ _ _ _ _ _ _ _ S1 r1 .nil c1.2 (k.mono l1)⟩, kx⟩)
  (pe_bm0 PySem.F.plainAttrs_list slot hty hm ho hbase hline)
theorem wr_lst {a : Addr} {xs ys : List Cv} {Us : List V} (S : Rst K cm H h) (ex : h.c a = some (.lst xs)) (r : RelCs K cm H h ys Us) : Le H h (upd H a (.lst Us)) (wup h a (.lst ys)) ∧ Rst K cm (upd H a (.lst Us)) (wup h a (.lst ys)) := by
  have l : Le H h (upd H a (.lst Us)) (wup h a (.lst ys)) := Le.write S ex
  exact ⟨l, S.write ex ⟨Us, upd_same, r.mono S l⟩⟩
def gAppend : CM := fun x xs h q => match x, xs with
  | .ref a, [y] => (match h a with | some (.lst ys) => ys.length ≤ 1000000 ∧ q .non (cup h a (.lst (ys ++ [y]))) | _ => False)
  | _, _ => False
theorem mc_append : MtC K cm rAppend gAppend := fun H h x V xs Vs q Q S r rs c k => by
  unfold gAppend at c
  split at c
  · cases r
    obtain ⟨U, rfl, ru⟩ := rs.one
    split at c
    · next a y ys ex =>
      obtain ⟨Us, e1, r1⟩ := S.obj _ _ ex
      obtain ⟨l, S2⟩ := wr_lst S ex (r1.append (.cons ru .nil))
      refine ⟨_, Us, U, rfl, rfl, e1, ?_, k _ _ _ _ l S2 .non c.2⟩
      rw [← r1.length, sizeLine_eq]
      have := c.1
      omega
    · exact c.elim
  · exact c.elim
def gPop : CM := fun x xs h q => match x, xs with
  | .ref a, [.int i] => (match h a with | some (.lst ys) => (match ixN ys.length i with | some j => (match ys[j]? with | some y => -(2 ^ 62) ≤ i ∧ i < 2 ^ 62 ∧ q y (cup h a (.lst (ys.eraseIdx j))) | none => False) | none => False) | _ => False)
  | _, _ => False
theorem mc_pop : MtC K cm rPopAt gPop := fun H h x V xs Vs q Q S r rs c k => by
  unfold gPop at c
  split at c
  · cases r
    obtain ⟨U, rfl, ru⟩ := rs.one
    cases ru
    split at c
    · next a i ys ex =>
      split at c
      · next j ej =>
        split at c
        · next y ey =>
          obtain ⟨Us, e1, r1⟩ := S.obj _ _ ex
          obtain ⟨w, ew, rw⟩ := r1.get ey
          obtain ⟨l, S2⟩ := wr_lst S ex (r1.erase j)
          rw [r1.length] at ej
          exact ⟨_, Us, _, j, w, rfl, rfl, e1, by omega, by omega, (ixN_seq ej).1, ew, k _ _ _ _ l S2 (rw.mono S l) c.2.2⟩
        · exact c.elim
      · exact c.elim
    · exact c.elim
  · exact c.elim
def gExtend : CM := fun x xs h q => match x, xs with
  | .ref a, [y] => (match h a, asL y h with | some (.lst ys), some zs => ys.length + zs.length ≤ 1000000 ∧ q .non (cup h a (.lst (ys ++ zs))) | _, _ => False)
  | _, _ => False
theorem mc_extend : MtC K cm rExtend gExtend := fun H h x V xs Vs q Q S r rs c k => by
  unfold gExtend at c
  split at c
  · cases r
    obtain ⟨U, rfl, ru⟩ := rs.one
    split at c
    · next a y ys zs ex ez =>
      obtain ⟨Us, e1, r1⟩ := S.obj _ _ ex
      obtain ⟨b, Zs, rfl, e2, r2⟩ := asL_ok S ru ez
      obtain ⟨l, S2⟩ := wr_lst S ex (r1.append r2)
      refine ⟨_, b, Us, Zs, rfl, rfl, e1, e2, ?_, k _ _ _ _ l S2 .non c.2⟩
      rw [← r1.length, ← r2.length, sizeLine_eq]
      have := c.1
      omega
    · exact c.elim
  · exact c.elim
/-! ### items stored -/
def gSetL : CSt := fun o i v h q => match o, i with
  | .ref a, .int j => (match h a with | some (.lst xs) => (match ixN xs.length j with | some n => q (cup h a (.lst (xs.set n v))) | none => False) | _ => False)
  | _, _ => False
theorem stc_list : SetC K cm rSetL gSetL := fun H h o i v O I U q Q S ro ri rv c k => by
  unfold gSetL at c
  split at c
  · cases ro; cases ri
    split at c
    · next a j xs ex =>
      split at c
      · next n en =>
        obtain ⟨Us, e1, r1⟩ := S.obj _ _ ex
        obtain ⟨l, S2⟩ := wr_lst S ex (r1.set n rv)
        rw [r1.length] at en
        exact ⟨_, Us, _, n, rfl, rfl, e1, en, k _ _ l S2 c⟩
      · exact c.elim
    · exact c.elim
  · exact c.elim

/-! ### texts: join, startswith -/
def cTM (g : CM) (co : CT) (ca : CT) : CT := fun env h q e => co env h (fun x h1 => (∃ s, x = .str s) ∧ ca env h1 (fun y h2 => g x [y] h2 q) e) e
theorem ce_tm {name : Str} {id : String} {r : V → List V → Hp → VK → Prop} {g : CM} (slot : Slot "str" name id) (hty : typeOf (.builtin id) = pure (.type "method_descriptor")) (hm : MtR X id r) (hg : MtC X.K cm r g) (ho : PE X o (eOf X.K cm W co)) (he : PE X e (eOf X.K cm W ca))
    (hs : starEach [e] X.env = [(false, eval e X.env)] := by rfl) (hbase : attributeBase o name X.env (eval o X.env) = eval o X.env := by rfl) (hline : (apos.endLine == cpos.line) = true := by rfl) :
    PE X (.Call (.Attribute o name apos) [e] [] cpos) (eOf X.K cm W (cTM g co ca)) := weakE (fun σ H Q ⟨h, env, q, ex, S, R, hc, k, kx⟩ =>
  ⟨h, env, _, ex, S, R, hc, fun H1 h1 x V l1 S1 r1 c1 => by
    obtain ⟨⟨s, rfl⟩, c1⟩ := c1
    cases r1
    exact ⟨⟨_, rfl⟩, h1, env, _, ex, S1, R.mono S l1, c1, fun H2 h2 y U l2 S2 r2 c2 => hg _ _ _ _ _ _ _ _ S2 (.str s) (.cons r2 .nil) c2 (k.mono (l1.trans l2)), kx.mono l1⟩, kx⟩) (pe_m1 slot hty hm ho he hs hbase hline)
def gJoin : CM := fun x xs h q => match x, xs with
  | .str a, [y] => ∃ ss : List Str, asQ y h = some (ss.map .str) ∧ (ss.map (·.length)).sum + ss.length * a.length ≤ 16777216 ∧ q (.str (Txt.join a ss)) h
  | _, _ => False
theorem mc_join : MtC K cm (fun x xs H Q => ∃ a p, ∃ ys : List Str, x = .str a ∧ xs = [.ref p] ∧ (SqL K H p (ys.map V.str) ∨ SqT K H p (ys.map V.str)) ∧
    (ys.map (·.length)).sum + ys.length * a.length ≤ 16777216 ∧ Q (.str (Txt.join a ys)) H) gJoin := fun H h x V xs Vs q Q S r rs c k => by
  unfold gJoin at c
  split at c
  · cases r
    obtain ⟨U, rfl, ru⟩ := rs.one
    obtain ⟨ss, e1, e2, c⟩ := c
    obtain ⟨a, Us, rfl, hq, s⟩ := asQ_ok S ru e1
    rw [RelCs.inv_strs s] at hq
    exact ⟨_, a, ss, rfl, rfl, hq, e2, k _ _ _ _ .refl S (.str _) c⟩
  · exact c.elim

/-! ### isinstance of a built-in class -/
def tyC (x : Cv) (h : CH) : Option String := match x with
  | .non => some "NoneType"
  | .bl _ => some "bool"
  | .int _ => some "int"
  | .str _ => some "str"
  | .tup _ => some "tuple"
  | .lv _ => some "list"
  | .fz _ => some "list"
  | .ref a => match h a with | some (.lst _) => some "list" | some (.dct _) => some "dict" | _ => none
  | .ov _ _ => none
def isB (t T : String) : Bool := t == T || (t == "bool" && T == "int")
def cIsi (T : String) (ca : CT) : CT := fun env h q e => ca env h (fun x h1 => match tyC x h1 with | some t => q (.bl (isB t T)) h1 | none => False) e
theorem kit_all : ∀ t ∈ ["NoneType", "bool", "int", "str", "tuple", "list", "dict"], ∀ T ∈ ["bool", "int", "str", "tuple", "list"], kitB t T = some (isB t T) := by decide +kernel
theorem tyC_ok {x : Cv} {V : V} {t : String} (S : Rst K cm H h) (r : RelC K cm H h x V) (e : tyC x h.c = some t) : TyX K H V (.type t) ∧ t ∈ ["NoneType", "bool", "int", "str", "tuple", "list", "dict"] := by
  cases r with
  | non => cases e; exact ⟨.base .non, by simp⟩
  | bl b => cases e; exact ⟨.base (.bl b), by simp⟩
  | int b => cases e; exact ⟨.base (.int b), by simp⟩
  | str b => cases e; exact ⟨.base (.str b), by simp⟩
  | tup e1 _ r =>
    cases e
    refine ⟨?_, by simp⟩
    rcases e1 with (e1 | ⟨ob, e1⟩) | ⟨ob, its, n, e1, e2, _⟩
    · exact .base (.tup e1)
    · exact .fTuple e1
    · exact .kTuple e1 e2
  | lv e1 n r => cases e; exact ⟨.base (.lst e1), by simp⟩
  | fz e1 r =>
    cases e
    refine ⟨?_, by simp⟩
    rcases e1 with ⟨e1, _⟩ | ⟨ob, e1⟩ | ⟨ob, its, n, e1, e2, _⟩
    · exact .base (.lst e1)
    · exact .base (.frz e1)
    · exact .kList e1 e2
  | ref a =>
    unfold tyC at e
    dsimp only at e
    split at e
    · next xs ex => cases e; obtain ⟨Vs, e1, _⟩ := S.obj _ _ ex; exact ⟨.base (.lst e1), by simp⟩
    · next xs ex => cases e; obtain ⟨Vs, e1, _⟩ := S.obj _ _ ex; exact ⟨.base (.dK e1), by simp⟩
    · cases e
  | ov => cases e
theorem ce_isi {T : String} {Tx : Str} {p2 : Pos} (hT : T ∈ ["bool", "int", "str", "tuple", "list"]) (gi : Gl X "isinstance") (mi : X.mg "isinstance" = none) (gT : Gl X Tx) (mT : X.mg Tx = none) (bT : bootBuiltins Tx = some (.type T)) (ha : PE X e (eOf X.K cm W ca))
    (bi : bootBuiltins "isinstance" = some (.builtin "isinstance") := by decide +kernel) (hnT : Tx ≠ "__name__" := by decide) (hdT : (Tx == ("__debug__" : Str)) = false := by decide)
    (hs2 : starEach [.Name Tx p2] X.env = (false, eval (.Name Tx p2) X.env) :: starEach [] X.env := by rfl)
    (he : starEach (e :: [.Name Tx p2]) X.env = (false, eval e X.env) :: starEach [.Name Tx p2] X.env := by rfl) (hpl : (backTo pos (starEach [.Name Tx p2] X.env)).any (·.1) = false := by rfl) :
    PE X (.Call (.Name "isinstance" p) [e, .Name Tx p2] [] pos) (eOf X.K cm W (cIsi T ca)) := weakE (fun σ H Q ⟨h, env, q, ex, S, R, hc, k, kx⟩ =>
  ⟨h, env, _, ex, S, R, hc, fun H1 h1 x V l1 S1 r1 c1 => by
    dsimp only at c1
    split at c1
    · next t et =>
      obtain ⟨t1, t2⟩ := tyC_ok S1 r1 et
      exact ⟨_, _, _, _, _, rfl, .ty T, t1, kit_ty (kit_all t t2 T hT), k _ _ _ _ l1 S1 (.bl _) c1⟩
    · exact c1.elim, kx⟩)
  (pe_callB call_isi gi mi bi (pa_cons ha (pa_cons (pe_bltn gT mT bT (v := .ty T) rfl hnT hdT) pa_nil hs2) he) (by decide) (by decide) he hpl)
end
end Co
end
section
/-! Core9: defs by the head's facts; the end; short words. -/
namespace Co
open PySem PySem.Spec L2
section
variable {P : Program} {w : World} {K : PySem.W.Frag} {mg : Str → Option Value} {base : Heap} {cm : String → Addr}
abbrev FnP (K : PySem.W.Frag) (x qual : Str) (st : Stmt) (f : Addr) (fd : FuncData) : Prop := FunD K x qual (defArgs st) (defBody st) (defScope st) [] [] f fd
theorem ok_defD {x qual : Str} {st : Stmt} {f : Addr} {fd : FuncData} {N ps : List Str} {k n : Nat} {c : CS} (F : FnP K x qual st f fd) (S : FnScope N ps (defScope st)) (hn : ps.length = n)
    (body : ∀ (cdv : Value) (A : Around) (outer : List Env) (s : Shared) (H : Hp) (E : XK) (W : WX), Room k (cxOf (L2.CX P w) P w K mg base N qual (defScope st) f cdv A outer s H E).A → Takes (cxOf (L2.CX P w) P w K mg base N qual (defScope st) f cdv A outer s H E) W →
      PassesOwn (model P w) (cxOf (L2.CX P w) P w K mg base N qual (defScope st) f cdv A outer s H E).A (cxOf (L2.CX P w) P w K mg base N qual (defScope st) f cdv A outer s H E).env (cxOf (L2.CX P w) P w K mg base N qual (defScope st) f cdv A outer s H E).xe →
      PSs (cxOf (L2.CX P w) P w K mg base N qual (defScope st) f cdv A outer s H E) (defBody st) (sOf K cm W c)) : OkD P w K mg base cm (k + 1) f fd ps n (dBody N.length c) := by
  refine F.ok S (fun vs H Q E ⟨h, xs, q, e, _, r, _, _, _, z⟩ => by rw [← r.length, z, hn]) (fun cdv A outer s H vs Q E hr ⟨h, xs, q, e, St, r, hc, kq, ke, z⟩ => ?_)
  refine ⟨_, body cdv A outer s H E (fun cls d _ H => E cls d H) hr (takes_of rfl rfl rfl rfl) (passes_of rfl), h, _, _, St, REnv.start r N, hc, fun _ _ _ _ l S1 _ c1 => kq _ _ _ _ l S1 .non c1, kq, fun _ _ _ _ _ _ _ z => z.elim, fun _ _ _ _ _ _ _ z => z.elim, fun _ _ _ _ _ _ _ l S1 _ rx c1 => ke _ _ _ _ _ l S1 rx c1⟩
/-- a def that may raise, called where nothing is to leave it -/
theorem ok_quiet {k : Nat} {f : Addr} {fd : FuncData} {ps : List Str} {sp : Sp} (F : FnOk P w K mg base (L2.CX P w) k f fd ps sp) : FnOk P w K mg base CX0 k f fd ps (fun vs H Q _ => sp vs H Q E0) :=
  ⟨fun vs H Q E q => F.len vs H Q E0 q, fun A outer s H args us vs Q E hr he hb hv hs => codeAny_mono (F.run A outer s H args us vs Q E0 hr he hb hv hs) fun r s' hq => by
    cases r with
    | error e => obtain ⟨_, _, _, _, _, _, _, _, _, _, _, _, z⟩ := (show L2.CX P w outer H s E0 e s' from hq); exact z.elim
    | ok fl => cases fl <;> exact hq⟩
/-- the law's promise from its mirror -/
theorem law_sp {m : CD} {H : Hp} {a : Addr} {ns : List Int} (hS : SqL K H a (ns.map V.int)) (hO : Only H) (hm : m [.fz (ns.map .int)] (fun _ => none) (fun v _ => v = .bl true) (fun _ _ => False)) : spOf K cm 1 m [.ref a] H (fun v _ => v = .bl true) fun _ _ _ => False := by
  refine ⟨⟨fun _ => none, fun _ => False⟩, _, _, _, ⟨fun _ _ e => (by cases e), fun _ _ e => (by cases e), fun _ e => e.elim⟩, .cons (.fz ?_ RelCs.ints) .nil, hm, fun H' h' z V l S r c => ?_, fun _ _ _ _ _ _ _ _ z => z.elim, rfl⟩
  · rcases hS with (h | h) | h
    · exact .inl ⟨h, fun z => z⟩
    · exact .inr (.inl h)
    · exact .inr (.inr h)
  · subst c
    cases r
    rfl
end
section
variable {X : Cx} {cm : String → Addr} {W : WX}
theorem cvr (i : Nat) {x : Str} {pos : Pos} (hN : X.N[i]? = some x := by rfl) (hv : Vis X.env.scope x := by first | exact Or.inl rfl | exact Or.inr (Or.inl rfl) | exact Or.inr (Or.inr rfl)) (hd : (x == ("__debug__" : Str)) = false := by decide)
    (hcd : (x == ("__classdict__" : Str)) = false := by decide) : PE X (.Name x pos) (eOf X.K cm W (cVar i)) := ce_var hN hv hd hcd
end
end Co
end
section
/-! Core10: reasoning about mirrors. -/
namespace Co
open PySem L2

theorem cLoop_ind {g : CTg} {b : CS} {G : CH → Prop} {R : CEnds} (I : List Cv → CEnv → CH → Prop) (hG : ∀ xs env h, I xs env h → G h)
    (step : ∀ x xs env h K, I (x :: xs) env h → (∀ e1 h1, I xs e1 h1 → K e1 h1) → g x env h (fun e1 h1 => b e1 h1 ⟨K, R.rt, R.nx, K, R.ex⟩) fun _ _ => False) (fin : ∀ env h, I [] env h → R.nx env h) :
    ∀ xs env h, I xs env h → cLoop g b G xs env h R
  | [], env, h, i => ⟨hG _ _ _ i, fin _ _ i⟩
  | x :: xs, env, h, i => ⟨hG _ _ _ i, step x xs env h _ i fun e1 h1 j => cLoop_ind I hG step fin xs e1 h1 j⟩
theorem intsR_cons (lo : Int) (n : Nat) : intsR lo (n + 1) = .int lo :: intsR (lo + 1) n := by
  unfold intsR
  rw [List.range_succ_eq_map, List.map_cons, List.map_map]
  refine congr (congrArg _ (by simp)) (List.map_congr_left fun i _ => ?_)
  show Cv.int (lo + ((i + 1 : Nat) : Int)) = Cv.int (lo + 1 + i)
  congr 1
  omega
theorem intsR_zero (lo : Int) : intsR lo 0 = [] := rfl
theorem cLoop_range {s : Nat} {b : CS} {R : CEnds} {lo : Int} {n : Nat} (I : Nat → CEnv → CH → Prop)
    (step : ∀ i env h K, i < n → I i env h → (∀ e1 h1, I (i + 1) e1 h1 → K e1 h1) → b (env.set s (some (.int (lo + i)))) h ⟨K, R.rt, R.nx, K, R.ex⟩) (fin : ∀ env h, I n env h → R.nx env h) :
    ∀ env h, I 0 env h → cLoop (gNm s) b (fun _ => True) (intsR lo n) env h R := fun env h i0 => by
  refine cLoop_ind (fun xs env h => ∃ i, i ≤ n ∧ xs = intsR (lo + i) (n - i) ∧ I i env h) (fun _ _ _ _ => trivial) ?step ?fin _ env h ⟨0, Nat.zero_le _, by simp, i0⟩
  case step =>
    intro x xs env h K ⟨i, hi, e, j⟩ k
    have hlt : i < n := by
      by_cases z : i < n
      · exact z
      · have : n - i = 0 := by omega
        rw [this, intsR_zero] at e
        cases e
    obtain ⟨m, hm⟩ : ∃ m, n - i = m + 1 := ⟨n - i - 1, by omega⟩
    rw [hm, intsR_cons] at e
    injection e with e1 e2
    subst e1
    refine step i env h K hlt j fun e1 h1 j1 => k e1 h1 ⟨i + 1, hlt, ?_, j1⟩
    rw [e2]
    have : n - (i + 1) = m := by omega
    rw [this]
    congr 1
    omega
  case fin =>
    intro env h ⟨i, hi, e, j⟩
    have : i = n := by
      by_cases z : i < n
      · obtain ⟨m, hm⟩ : ∃ m, n - i = m + 1 := ⟨n - i - 1, by omega⟩
        rw [hm, intsR_cons] at e
        cases e
      · omega
    subst this
    exact fin env h j
theorem cLcGo_ind {g : CTg} {t : CB} {ce : CT} {G : CH → Prop} {env : CEnv} {q : List Cv → CH → Prop} (I : List Cv → List Cv → CH → Prop) (hG : ∀ xs acc h, I xs acc h → G h)
    (step : ∀ x xs acc h (K : List Cv → CH → Prop), I (x :: xs) acc h → (∀ a1 h1, I xs a1 h1 → K a1 h1) → g x env h (fun env1 h1 => t env1 h1 (fun b h2 => if b = true then ce env1 h2 (fun y h3 => K (acc ++ [y]) h3) fun _ _ => False else K acc h2) fun _ _ => False) fun _ _ => False)
    (fin : ∀ acc h, I [] acc h → q acc h) : ∀ xs acc h, I xs acc h → cLcGo g t ce G env xs acc h q
  | [], acc, h, i => ⟨hG _ _ _ i, fin _ _ i⟩
  | x :: xs, acc, h, i => ⟨hG _ _ _ i, step x xs acc h (fun a1 h1 => cLcGo g t ce G env xs a1 h1 q) i fun a1 h1 j => cLcGo_ind I hG step fin xs a1 h1 j⟩
/-- a comprehension that changes nothing -/
theorem cLcGo_pure {g : CTg} {t : CB} {ce : CT} {G : CH → Prop} {env : CEnv} {h : CH} {q : List Cv → CH → Prop} (f : Cv → Option Cv) (hG : G h) :
    ∀ (xs : List Cv) (acc : List Cv), (∀ x ∈ xs, ∀ (k1 : Cv → CH → Prop) (k2 : CH → Prop), (match f x with | some y => k1 y h | none => k2 h) →
      g x env h (fun env1 h1 => t env1 h1 (fun b h2 => if b = true then ce env1 h2 k1 fun _ _ => False else k2 h2) fun _ _ => False) fun _ _ => False) →
      q (acc ++ xs.filterMap f) h → cLcGo g t ce G env xs acc h q
  | [], acc, _, k => ⟨hG, by simpa using k⟩
  | x :: xs, acc, hs, k => by
    refine ⟨hG, hs x (List.mem_cons_self ..) (fun y h3 => cLcGo g t ce G env xs (acc ++ [y]) h3 q) (fun h3 => cLcGo g t ce G env xs acc h3 q) ?_⟩
    cases e : f x with
    | none =>
      rw [List.filterMap_cons, e] at k
      exact cLcGo_pure f hG xs acc (fun y hy => hs y (List.mem_cons_of_mem _ hy)) k
    | some y =>
      rw [List.filterMap_cons, e] at k
      exact cLcGo_pure f hG xs (acc ++ [y]) (fun y hy => hs y (List.mem_cons_of_mem _ hy)) (by simpa using k)
theorem filterMap_some {α β : Type} (f : α → β) (xs : List α) : xs.filterMap (fun x => some (f x)) = xs.map f := by
  induction xs with
  | nil => rfl
  | cons x xs ih => simp [ih]
theorem cLcGo_map {g : CTg} {ce : CT} {G : CH → Prop} {env : CEnv} {h : CH} {q : List Cv → CH → Prop} (f : Cv → Cv) (hG : G h) (xs : List Cv)
    (hs : ∀ x ∈ xs, ∀ (k1 : Cv → CH → Prop), k1 (f x) h → g x env h (fun env1 h1 => ce env1 h1 k1 fun _ _ => False) fun _ _ => False) (k : q (xs.map f) h) : cLcGo g cYes ce G env xs [] h q :=
  cLcGo_pure (fun x => some (f x)) hG xs [] (fun x hx k1 k2 z => hs x hx k1 z) (by rw [List.nil_append, filterMap_some]; exact k)
theorem okd_int (i : Int) : okd (.int i) := rfl
theorem okd_bl (i : Bool) : okd (.bl i) := rfl
theorem okd_non : okd .non := rfl
theorem log2_lt {n : Nat} {k : Nat} (h : n < 2 ^ k) (h0 : 0 < k) : n.log2 < k := PySem.Flt.log2_lt_of h0 h
theorem cdivw {i j : Int} (h0 : 0 < j) (h1 : j < 2 ^ 60) : CDivW i j := ⟨h0, Nat.lt_of_lt_of_le (log2_lt (k := 60) (by omega) (by decide)) (by decide)⟩
theorem emod_bd (a : Int) {b : Int} (h : 0 < b) : 0 ≤ a % b ∧ a % b < b := ⟨Int.emod_nonneg a (by omega), Int.emod_lt_of_pos a h⟩
end Co
namespace Co
open PySem L2
theorem atI_get' {α : Type} {xs : List α} {i : Int} (h0 : 0 ≤ i) (h1 : i < xs.length) : ∃ (hi : i.toNat < xs.length), L2.atI xs i = some xs[i.toNat] := by
  have hi : i.toNat < xs.length := by omega
  refine ⟨hi, ?_⟩
  unfold L2.atI ixN
  rw [if_pos h0, if_pos h1]
  simp [hi]
theorem atI_map {α β : Type} {f : α → β} {xs : List α} {i : Int} (h0 : 0 ≤ i) (h1 : i < xs.length) : ∃ x ∈ xs, L2.atI (xs.map f) i = some (f x) := by
  obtain ⟨hi, e⟩ := atI_get' (xs := xs.map f) h0 (by simpa using h1)
  refine ⟨xs[i.toNat]'(by omega), List.getElem_mem _, ?_⟩
  rw [e]
  simp
theorem mul_ok {x y : Int} (h0 : 0 ≤ x) (h1 : x < 2 ^ 63) : CMul x y ∨ CMulW x y := .inl (.inl ⟨by omega, by omega⟩)
end Co
end
section
namespace Co
open PySem L2
theorem cLoop_map {α : Type} {g : CTg} {b : CS} {G : CH → Prop} {R : CEnds} (f : α → Cv) (I : List α → CEnv → CH → Prop) (hG : ∀ xs env h, I xs env h → G h)
    (step : ∀ x xs env h K, I (x :: xs) env h → (∀ e1 h1, I xs e1 h1 → K e1 h1) → g (f x) env h (fun e1 h1 => b e1 h1 ⟨K, R.rt, R.nx, K, R.ex⟩) fun _ _ => False) (fin : ∀ env h, I [] env h → R.nx env h) :
    ∀ xs env h, I xs env h → cLoop g b G (xs.map f) env h R
  | [], env, h, i => ⟨hG _ _ _ i, fin _ _ i⟩
  | x :: xs, env, h, i => ⟨hG _ _ _ i, step x xs env h _ i fun e1 h1 j => cLoop_map f I hG step fin xs e1 h1 j⟩
def cutG {α : Type} (xs : List α) (lo hi : Option Int) : List α := (xs.drop (HT.sIx xs.length 0 lo)).take (HT.sIx xs.length xs.length hi - HT.sIx xs.length 0 lo)
theorem cutC_eq (xs : List Cv) (lo hi : Option Int) : cutC xs lo hi = cutG xs lo hi := rfl
theorem cutG_map {α β : Type} (f : α → β) (xs : List α) (lo hi : Option Int) : cutG (xs.map f) lo hi = (cutG xs lo hi).map f := by
  unfold cutG; rw [List.length_map, List.map_take, List.map_drop]
theorem cutC_map {α : Type} (f : α → Cv) (xs : List α) (lo hi : Option Int) : cutC (xs.map f) lo hi = (cutG xs lo hi).map f := by rw [cutC_eq, cutG_map]
theorem cutG_mem {α : Type} {xs : List α} {lo hi : Option Int} {x : α} (h : x ∈ cutG xs lo hi) : x ∈ xs := List.mem_of_mem_drop (List.mem_of_mem_take h)
theorem cutG_len {α : Type} (xs : List α) (lo hi : Option Int) : (cutG xs lo hi).length ≤ HT.sIx xs.length xs.length hi - HT.sIx xs.length 0 lo := by
  unfold cutG; rw [List.length_take]; omega
theorem cutG_nn {α : Type} (xs : List α) {i j : Int} (hi : 0 ≤ i) (hj : 0 ≤ j) : cutG xs (some i) (some j) = (xs.drop i.toNat).take (j.toNat - i.toNat) := by
  unfold cutG HT.sIx
  simp only [show ¬ (i < 0) by omega, show ¬ (j < 0) by omega, if_false]
  by_cases h : i.toNat ≤ xs.length
  · rw [Nat.min_eq_left h]
    by_cases h2 : j.toNat ≤ xs.length
    · rw [Nat.min_eq_left h2]
    · rw [Nat.min_eq_right (by omega), List.take_of_length_le (by rw [List.length_drop] <;> omega), List.take_of_length_le (by rw [List.length_drop]; omega)]
  · rw [Nat.min_eq_right (show xs.length ≤ i.toNat by omega), List.drop_of_length_le (Nat.le_refl _), List.drop_of_length_le (show xs.length ≤ i.toNat by omega)]
    simp
theorem cutG_neg1 {α : Type} (xs : List α) : cutG xs none (some (-1)) = xs.dropLast := by
  unfold cutG HT.sIx
  simp only [show (-1 : Int) < 0 by decide, if_true, List.drop_zero, Nat.sub_zero]
  rw [List.dropLast_eq_take]
  congr 1
  omega
theorem atI_ex {α : Type} {xs : List α} {i : Int} (h0 : 0 ≤ i) (h1 : i < xs.length) : ∃ v, v ∈ xs ∧ L2.atI xs i = some v := by
  obtain ⟨hi, e⟩ := atI_get' h0 h1
  exact ⟨_, List.getElem_mem hi, e⟩
theorem atI_neg1 {α : Type} (xs : List α) : L2.atI xs (-1) = xs.getLast? := by
  unfold L2.atI ixN
  rw [if_neg (by decide)]
  cases xs with
  | nil => rfl
  | cons x r =>
    rw [if_pos (by rw [List.length_cons]; omega), List.getLast?_eq_getElem?]
    have e : (-1 + (((x :: r).length : Nat) : Int)).toNat = (x :: r).length - 1 := by omega
    simp only [Option.bind_some]
    rw [e]
/-- texts as their lists of signs -/
def T (l : List Nat) : Str := ⟨l.toArray⟩
theorem T_cps (l : List Nat) : (T l).cps.toList = l := rfl
theorem T_len (l : List Nat) : (T l).length = l.length := rfl
theorem T_eta (s : Str) : T s.cps.toList = s := by cases s; simp [T]
theorem T_inj {a b : List Nat} : T a = T b ↔ a = b := ⟨fun h => by have := congrArg (fun s => s.cps.toList) h; simpa [T] using this, fun h => h ▸ rfl⟩
theorem cutS_T (l : List Nat) (lo hi : Option Int) : cutS (T l) lo hi = T (cutG l lo hi) := rfl
theorem T_app (a b : List Nat) : T a ++ T b = T (a ++ b) := by
  show (⟨(T a).cps ++ (T b).cps⟩ : Str) = _
  simp [T]
theorem txMul_T (l : List Nat) (n : Int) : txMul (T l) n = T (List.replicate n.toNat l).flatten := rfl
theorem txMul_len (l : Str) (n : Int) : (txMul l n).length = n.toNat * l.length := by
  unfold txMul Str.length
  simp
theorem str_app_len (a b : Str) : (a ++ b).length = a.length + b.length := by
  show (a.cps ++ b.cps).size = _
  simp [Str.length]
theorem glue_nil : ∀ (xs : List (List Nat)) (a : Array Nat), (List.foldl (fun acc (p : Str) => acc ++ (#[] : Array Nat) ++ p.cps) a (xs.map T)).toList = a.toList ++ xs.flatten
  | [], a => by simp
  | x :: xs, a => by rw [List.map_cons, List.foldl_cons, glue_nil xs]; simp [T]
theorem join_nil (xs : List (List Nat)) : Txt.join (T []) (xs.map T) = T xs.flatten := by
  unfold Txt.join Builtin.Str.glued
  have h : ∀ a : Array Nat, (⟨a⟩ : Str) = T a.toList := fun a => by simp [T]
  rw [h]
  congr 1
  cases xs with
  | nil => rfl
  | cons x xs =>
    rw [List.map_cons, List.headD_cons, List.drop_one, List.tail_cons]
    have := glue_nil xs (T x).cps
    simpa [T] using this
theorem rng_up {n s : Nat} (hs : 0 < s) (hs2 : s < 2 ^ 20) (hn : n < 2 ^ 30) : RgC 0 n s ((n + s - 1) / s) := by
  refine ⟨by omega, by omega, ?_, ?_⟩
  · have e : Builtin.Range.rangeSize 0 n s = (((n + s - 1) / s : Nat) : Int) := by
      unfold Builtin.Range.rangeSize
      rw [if_pos (by omega)]
      split
      · have : ((n : Int) - 0 - 1) / s + 1 = ((n : Int) - 1 + s) / s := by
          rw [Int.add_ediv_of_dvd_right (Int.dvd_refl _), Int.ediv_self (by omega)]; simp
        rw [this]
        have e2 : ((n : Int) - 1 + s) = ((n + s - 1 : Nat) : Int) := by omega
        rw [e2, Int.natCast_ediv]
      · have : n = 0 := by omega
        subst this
        rw [Nat.zero_add, Nat.div_eq_of_lt (by omega)]
        rfl
    have hb : (n + s - 1) / s ≤ n + s := Nat.le_trans (Nat.div_le_self _ _) (by omega)
    unfold Builtin.Range.small
    rw [e]
    generalize (n + s - 1) / s = m at hb ⊢
    unfold Builtin.Range.rangeFitsLong
    rw [if_pos (show (s : Int) > 0 by omega)]
    simp only [Bool.and_eq_true, decide_eq_true_eq, Bool.or_eq_true, beq_iff_eq]
    refine ⟨⟨⟨⟨?_, ?_⟩, ?_⟩, ?_⟩, .inr ?_⟩ <;> constructor <;> omega
  · unfold Builtin.Range.rangeSize
    rw [if_pos (by omega)]
    split
    · have : ((n : Int) - 0 - 1) / s + 1 = ((n : Int) - 1 + s) / s := by
        rw [Int.add_ediv_of_dvd_right (Int.dvd_refl _), Int.ediv_self (by omega)]; simp
      rw [this]
      have e2 : ((n : Int) - 1 + s) = ((n + s - 1 : Nat) : Int) := by omega
      rw [e2, Int.natCast_ediv]
    · have : n = 0 := by omega
      subst this
      rw [Nat.zero_add, Nat.div_eq_of_lt (by omega)]
      rfl
end Co
end
section
/-! Core11: ==, data. -/
namespace Co
open PySem L2
mutual
def cdep : Cv → Nat
  | .tup xs => cdeps xs + 1
  | .lv xs => cdeps xs + 1
  | .fz xs => cdeps xs + 1
  | _ => 0
def cdeps : List Cv → Nat
  | [] => 0
  | x :: xs => max (cdep x) (cdeps xs)
end
mutual
/-- data: no objects -/
def cdat : Cv → Bool
  | .tup xs => cdats xs
  | .lv xs => cdats xs
  | .fz xs => cdats xs
  | .ov _ _ => false
  | .ref _ => false
  | .str x => PyData.strOk x
  | _ => true
def cdats : List Cv → Bool
  | [] => true
  | x :: xs => cdat x && cdats xs
end
theorem cdats_all : ∀ xs : List Cv, cdats xs = xs.all cdat
  | [] => rfl
  | x :: xs => by rw [cdats, List.all_cons, cdats_all xs]
mutual
theorem dat_lay : ∀ x : Cv, (dOf x).canLay0 = cdat x
  | .non => rfl
  | .bl _ => rfl
  | .int _ => rfl
  | .str _ => rfl
  | .ref _ => rfl
  | .ov _ _ => rfl
  | .tup xs => by rw [dOf, cdat, PyData.canLay0, dats_lay xs]
  | .lv xs => by rw [dOf, cdat, PyData.canLay0, dats_lay xs]
  | .fz xs => by rw [dOf, cdat, PyData.canLay0, dats_lay xs]
theorem dats_lay : ∀ x : List Cv, PyData.canLayAll0 (dOfs x) = cdats x
  | [] => rfl
  | x :: xs => by rw [dOfs, cdats, PyData.canLayAll0, dat_lay x, dats_lay xs]
end
mutual
theorem dat_dep : ∀ x : Cv, (dOf x).depth ≤ cdep x + 1
  | .non => by simp [dOf, PyData.depth]
  | .bl _ => by simp [dOf, PyData.depth]
  | .int _ => by simp [dOf, PyData.depth]
  | .str _ => by simp [dOf, PyData.depth]
  | .ref _ => by simp [dOf, PyData.depth, PyData.depthKv]
  | .ov _ _ => by simp [dOf, PyData.depth, PyData.depthKv]
  | .tup xs => by have := dats_dep xs; simp only [dOf, PyData.depth, cdep]; omega
  | .lv xs => by have := dats_dep xs; simp only [dOf, PyData.depth, cdep]; omega
  | .fz xs => by have := dats_dep xs; simp only [dOf, PyData.depth, cdep]; omega
theorem dats_dep : ∀ x : List Cv, PyData.depthAll (dOfs x) ≤ cdeps x + 1
  | [] => by simp [dOfs, PyData.depthAll]
  | x :: xs => by have h1 := dat_dep x; have h2 := dats_dep xs; simp only [dOfs, PyData.depthAll, cdeps]; omega
end
theorem okd_of {x : Cv} (h1 : cdat x = true) (h2 : cdep x ≤ 60) : okd x := by
  unfold okd SeqAt.shaped
  have h3 := dat_dep x
  rw [dat_lay, h1, Bool.true_and, decide_eq_true_eq]
  omega
theorem cdeps_le {xs : List Cv} {n : Nat} (h : ∀ x ∈ xs, cdep x ≤ n) : cdeps xs ≤ n := by
  induction xs with
  | nil => simp [cdeps]
  | cons x xs ih => have h1 := h x (List.mem_cons_self ..); have h2 := ih fun y hy => h y (List.mem_cons_of_mem _ hy); simp only [cdeps]; omega
theorem cdats_of {xs : List Cv} (h : ∀ x ∈ xs, cdat x = true) : cdats xs = true := by rw [cdats_all, List.all_eq_true]; exact h
/-- flat things in a list or tuple -/
theorem cdeps_flat {α : Type} {f : α → Cv} (hf : ∀ a, cdep (f a) = 0) (xs : List α) : cdeps (xs.map f) = 0 := by
  have := cdeps_le (xs := xs.map f) (n := 0) fun x hx => by obtain ⟨a, _, rfl⟩ := List.mem_map.mp hx; rw [hf a]; exact Nat.le_refl _
  omega
theorem cdats_flat {α : Type} {f : α → Cv} (hf : ∀ a, cdat (f a) = true) (xs : List α) : cdats (xs.map f) = true := cdats_of fun x hx => by obtain ⟨a, _, rfl⟩ := List.mem_map.mp hx; exact hf a

def cqs : List Cv → List Cv → Bool
  | [], [] => true
  | x :: xs, y :: ys => ceq x y && cqs xs ys
  | _, _ => false
theorem cqs_eq : ∀ xs ys : List Cv, PyData.eqvAll (dOfs xs) (dOfs ys) = cqs xs ys
  | [], [] => rfl
  | x :: xs, y :: ys => by rw [dOfs, dOfs, PyData.eqvAll, cqs_eq xs ys]; rfl
  | [], y :: ys => by rw [dOfs, dOfs, PyData.eqvAll]; rfl; all_goals (intros; simp)
  | x :: xs, [] => by rw [dOfs, dOfs, PyData.eqvAll]; rfl; all_goals (intros; simp)
theorem ceq_tt (xs ys : List Cv) : ceq (.tup xs) (.tup ys) = cqs xs ys := by unfold ceq; rw [dOf, dOf, PyData.eqv, cqs_eq]
theorem ceq_ll (xs ys : List Cv) : ceq (.lv xs) (.lv ys) = cqs xs ys := by unfold ceq; rw [dOf, dOf, PyData.eqv, cqs_eq]
theorem ceq_lf (xs ys : List Cv) : ceq (.lv xs) (.fz ys) = cqs xs ys := by unfold ceq; rw [dOf, dOf, PyData.eqv, cqs_eq]
theorem ceq_fl (xs ys : List Cv) : ceq (.fz xs) (.lv ys) = cqs xs ys := by unfold ceq; rw [dOf, dOf, PyData.eqv, cqs_eq]
theorem ceq_ii (i j : Int) : ceq (.int i) (.int j) = decide (i = j) := by unfold ceq; rw [dOf, dOf, PyData.eqv]; exact (Bool.beq_eq_decide_eq ..)
theorem ceq_ss (i j : Str) : ceq (.str i) (.str j) = decide (i = j) := by unfold ceq; rw [dOf, dOf, PyData.eqv]; exact (Bool.beq_eq_decide_eq ..)
theorem ceq_bb (i j : Bool) : ceq (.bl i) (.bl j) = (i == j) := by unfold ceq; rw [dOf, dOf, PyData.eqv]
theorem ceq_nn : ceq .non .non = true := by unfold ceq; rw [dOf, PyData.eqv]
/-- the kind of a value -/
def ckind : Cv → Nat
  | .non => 0
  | .bl _ => 1
  | .int _ => 1
  | .str _ => 2
  | .tup _ => 3
  | .lv _ => 4
  | .fz _ => 4
  | .ov _ _ => 5
  | .ref _ => 5
theorem ceq_kind {x y : Cv} (h : ckind x ≠ ckind y) : ceq x y = false := by
  cases x <;> cases y <;> first | exact absurd rfl h | (unfold ceq; simp only [dOf]; rw [PyData.eqv] <;> (intros; simp))
mutual
/-- nothing but None, ints, texts and tuples of them -/
def cpur : Cv → Bool
  | .tup xs => cpurs xs
  | .non => true
  | .int _ => true
  | .str _ => true
  | .bl _ => false
  | .lv _ => false
  | .fz _ => false
  | .ov _ _ => false
  | .ref _ => false
def cpurs : List Cv → Bool
  | [] => true
  | x :: xs => cpur x && cpurs xs
end
theorem cpurs_all : ∀ xs : List Cv, cpurs xs = xs.all cpur
  | [] => rfl
  | x :: xs => by rw [cpurs, List.all_cons, cpurs_all xs]
mutual
theorem ceq_iff : ∀ (x y : Cv), cpur x = true → cpur y = true → (ceq x y = true ↔ x = y)
  | .non, .non, _, _ => by simp [ceq_nn]
  | .int i, .int j, _, _ => by simp [ceq_ii]
  | .str i, .str j, _, _ => by simp [ceq_ss]
  | .tup xs, .tup ys, h1, h2 => by
    rw [cpur] at h1 h2
    rw [ceq_tt, cqs_iff xs ys h1 h2]
    simp
  | .non, .int _, _, _ => by rw [ceq_kind (by simp [ckind])]; simp
  | .non, .str _, _, _ => by rw [ceq_kind (by simp [ckind])]; simp
  | .non, .tup _, _, _ => by rw [ceq_kind (by simp [ckind])]; simp
  | .int _, .non, _, _ => by rw [ceq_kind (by simp [ckind])]; simp
  | .int _, .str _, _, _ => by rw [ceq_kind (by simp [ckind])]; simp
  | .int _, .tup _, _, _ => by rw [ceq_kind (by simp [ckind])]; simp
  | .str _, .non, _, _ => by rw [ceq_kind (by simp [ckind])]; simp
  | .str _, .int _, _, _ => by rw [ceq_kind (by simp [ckind])]; simp
  | .str _, .tup _, _, _ => by rw [ceq_kind (by simp [ckind])]; simp
  | .tup _, .non, _, _ => by rw [ceq_kind (by simp [ckind])]; simp
  | .tup _, .int _, _, _ => by rw [ceq_kind (by simp [ckind])]; simp
  | .tup _, .str _, _, _ => by rw [ceq_kind (by simp [ckind])]; simp
  | .bl _, _, h, _ => by cases h
  | .lv _, _, h, _ => by cases h
  | .fz _, _, h, _ => by cases h
  | .ov _ _, _, h, _ => by cases h
  | .ref _, _, h, _ => by cases h
  | _, .bl _, _, h => by cases h
  | _, .lv _, _, h => by cases h
  | _, .fz _, _, h => by cases h
  | _, .ov _ _, _, h => by cases h
  | _, .ref _, _, h => by cases h
theorem cqs_iff : ∀ (x y : List Cv), cpurs x = true → cpurs y = true → (cqs x y = true ↔ x = y)
  | [], [], _, _ => by simp [cqs]
  | [], _ :: _, _, _ => by simp [cqs]
  | _ :: _, [], _, _ => by simp [cqs]
  | x :: xs, y :: ys, h1, h2 => by
    rw [cpurs, Bool.and_eq_true] at h1 h2
    rw [cqs, Bool.and_eq_true, ceq_iff x y h1.1 h2.1, cqs_iff xs ys h1.2 h2.2]
    simp
end
theorem ceq_f {x y : Cv} (h1 : cpur x = true) (h2 : cpur y = true) (h : x ≠ y) : ceq x y = false := by
  cases e : ceq x y with
  | false => rfl
  | true => exact absurd ((ceq_iff x y h1 h2).mp e) h
/-- signs below 128 -/
def asc (s : Str) : Prop := ∀ c ∈ s.cps.toList, c < 128
theorem strOk_of {s : Str} (h : asc s) : PyData.strOk s = true := by
  unfold PyData.strOk
  rw [← Array.all_toList, List.all_eq_true]
  intro c hc
  have := h c hc
  rw [decide_eq_true_eq]
  omega
theorem asc_app {a b : Str} (ha : asc a) (hb : asc b) : asc (a ++ b) := fun c hc => by
  have : (a ++ b).cps = a.cps ++ b.cps := rfl
  rw [this, Array.toList_append, List.mem_append] at hc
  exact hc.elim (ha c) (hb c)
theorem asc_mul {a : Str} (ha : asc a) (n : Int) : asc (txMul a n) := fun c hc => by
  have : (txMul a n).cps.toList = (List.replicate n.toNat a.cps.toList).flatten := rfl
  rw [this, List.mem_flatten] at hc
  obtain ⟨l, hl, hc⟩ := hc
  rw [(List.mem_replicate.mp hl).2] at hc
  exact ha c hc
theorem asc_lit {s : Str} (h : s.cps.toList.all (fun c => decide (c < 128)) = true) : asc s := fun c hc => of_decide_eq_true (List.all_eq_true.mp h c hc)
theorem asc_one {s : Str} {c : Nat} (h : asc s) (hc : c ∈ s.cps.toList) : asc ⟨#[c]⟩ := fun d hd => by
  have : d = c := by simpa using hd
  rw [this]; exact h c hc
theorem asc_sub {s : Str} {l : List Nat} (h : asc s) (hl : ∀ c ∈ l, c ∈ s.cps.toList) : asc (T l) := fun c hc => h c (hl c hc)
mutual
theorem ceq_refl : ∀ x : Cv, cdat x = true → ceq x x = true
  | .non, _ => ceq_nn
  | .bl b, _ => by rw [ceq_bb]; simp
  | .int i, _ => by rw [ceq_ii]; simp
  | .str i, h => by rw [ceq_ss]; simp
  | .ref _, h => by cases h
  | .ov _ _, h => by cases h
  | .tup xs, h => by rw [ceq_tt]; exact cqs_refl xs (by rw [cdat] at h; exact h)
  | .lv xs, h => by rw [ceq_ll]; exact cqs_refl xs (by rw [cdat] at h; exact h)
  | .fz xs, h => by unfold ceq; rw [dOf, PyData.eqv, cqs_eq]; exact cqs_refl xs (by rw [cdat] at h; exact h)
theorem cqs_refl : ∀ xs : List Cv, cdats xs = true → cqs xs xs = true
  | [], _ => rfl
  | x :: xs, h => by rw [cdats, Bool.and_eq_true] at h; rw [cqs, ceq_refl x h.1, cqs_refl xs h.2]; rfl
end
theorem cqs_map {α : Type} [DecidableEq α] {f : α → Cv} (hf : ∀ a b, ceq (f a) (f b) = decide (a = b)) : ∀ xs ys : List α, cqs (xs.map f) (ys.map f) = decide (xs = ys)
  | [], [] => by simp [cqs]
  | [], y :: ys => by simp [cqs]
  | x :: xs, [] => by simp [cqs]
  | x :: xs, y :: ys => by rw [List.map_cons, List.map_cons, cqs, hf, cqs_map hf xs ys]; by_cases e : x = y <;> by_cases e2 : xs = ys <;> simp [e, e2]
end Co
end
section
/-! Core12: a tuple, a list turned about. -/
namespace Co
open PySem PySem.Spec PyProof.Rows L2
section
variable {prog : Program} {w : World} {A : Around} {E : Value → Shared → Prop} {s : Shared}
theorem back_adjust (n : Nat) : Builtin.Slice.sliceAdjust none none (-1) (n : Int) = ((n : Int) - 1, -1) := rfl
theorem back_places (n : Nat) : Builtin.Slice.slicePlaces ((n : Int) - 1) (-1) (-1) = n := by
  unfold Builtin.Slice.slicePlaces
  rw [if_neg (by decide)]
  split
  · show (((n : Int) - 1 - -1 - 1) / 1 + 1).toNat = n
    rw [Int.ediv_one]; omega
  · show (0 : Int).toNat = n
    have : n = 0 := by omega
    subst this; rfl
theorem fm_congr {α β : Type} {f g : α → Option β} : ∀ {l : List α}, (∀ x ∈ l, f x = g x) → l.filterMap f = l.filterMap g
  | [], _ => rfl
  | x :: l, h => by
    have ih := fm_congr fun y hy => h y (List.mem_cons_of_mem x hy)
    rw [List.filterMap_cons, List.filterMap_cons, h x (List.mem_cons_self ..), ih]
theorem back_pick (xs : Array Value) : ((List.range xs.size).filterMap fun (m : Nat) => xs[((xs.size : Int) - 1 + (m : Int) * (-1)).toNat]?) = xs.toList.reverse := by
  have e : (List.range xs.size).filterMap (fun (m : Nat) => xs[((xs.size : Int) - 1 + (m : Int) * (-1)).toNat]?) = ((List.range xs.size).map fun m => xs.size - 1 - m).filterMap (xs[·]?) := by
    rw [List.filterMap_map]
    refine fm_congr fun m hm => ?_
    have hm := List.mem_range.mp hm
    have : ((xs.size : Int) - 1 + (m : Int) * (-1)).toNat = xs.size - 1 - m := by omega
    rw [this]; rfl
  rw [e, PySem.W.krv_range, List.filterMap_reverse, PySem.W.krv_all]
theorem back_tuple {t sl : Addr} {items : Array Value} {vl vu vs : Value} {Q : Value → Shared → Prop} (ht : IsTup s.heap t items) (hs : s.heap.IsSliceOf sl vl vu vs) (pl : IsPart vl none) (pu : IsPart vu none) (ps : IsPart vs (some (-1)))
    (h : Q (.ref s.heap.objs.size) { s with heap := s.heap.push { cls := .type "tuple", data := .seq items.toList.reverse.toArray } }) (hsz : items.size ≤ sizeLine) : wpAny (model prog w) A (getItem (.ref t) (.ref sl)) Q E s := by
  have fits : sizeOk (.seq items.toList.reverse.toArray) := by
    show items.toList.reverse.toArray.size ≤ sizeLine
    simpa using hsz
  obtain ⟨os, g1, g2, g3⟩ := id hs
  have tyS : s.TypeIs (.ref sl) "slice" := ⟨os, g1, g2⟩
  unfold getItem
  try with_reducible refine wpAny_holding ?_
  first | refine wpAny_bind (wpAny_pure ?_) | skip
  refine wpAny_bind (wpAny_sequenceKey ht.typeIs (by decide) ?_)
  refine wpAny_bind (wpAny_callSpecial?_slot (name := Str.ofString "__getitem__") ht.typeIs slot_tuple_getitem (wpAny_call_entry slot_tuple_getitem ht.typeIs entry_tuple_getitem ?_ (args_tuple_getitem _ _)))
  show wpAny _ _ (Builtin.Tuple.tupleItemsOf (.ref t) >>= _) _ _ s
  refine wpAny_bind (tupleItemsOf_ ht ?_)
  refine wpAny_bind (wpAny_typeOf tyS ?_)
  rw [if_pos (by decide)]
  refine wpAny_bind ?_
  unfold Builtin.Slice.sliceApplied Builtin.Slice.sliceFields
  refine wpAny_bind (wpAny_bind (wpAny_field g1 g3 (x := vl) rfl (wpAny_bind (wpAny_field g1 g3 (x := vu) rfl (wpAny_bind (wpAny_field g1 g3 (x := vs) rfl (wpAny_pure ?_)))))))
  refine wpAny_bind (HT.slicePart_ ps ?_)
  show wpAny _ _ (if ((-1 : Int) == 0) = true then _ else _) _ _ s
  rw [if_neg (by decide)]
  refine wpAny_bind (HT.slicePart_ pl (wpAny_bind (HT.slicePart_ pu (wpAny_bind (wpAny_pure ?_)))))
  show wpAny _ _ (match Builtin.Slice.sliceAdjust none none (-1) (items.size : Int) with | (lo, hi) => pure (lo, (-1 : Int), Builtin.Slice.slicePlaces lo hi (-1))) _ _ s
  rw [back_adjust]
  show wpAny _ _ (pure ((items.size : Int) - 1, (-1 : Int), Builtin.Slice.slicePlaces ((items.size : Int) - 1) (-1) (-1))) _ _ s
  rw [back_places]
  refine wpAny_pure ?_
  have hno : ¬ ((((items.size : Int) - 1) == 0 && (-1 : Int) == 1 && items.size == items.size) = true) := by simp
  show wpAny _ _ (if (((items.size : Int) - 1) == 0 && (-1 : Int) == 1 && items.size == items.size) = true then _ else _) _ _ s
  rw [if_neg hno, back_pick]
  first
    | exact wpAny_bind (m := Builtin.Tuple.tupleExact _) (wpAny_newObj_type (wpAny_pure ⟨_, rfl, wpAny_pure h⟩) fits)
    | exact wpAny_bind (m := Builtin.Tuple.tupleExact _) (wpAny_newObj_type (wpAny_bind (wpAny_pure (wpAny_pure ⟨_, rfl, wpAny_pure h⟩))) fits)
    | exact wpAny_bind (wpAny_bind (m := Builtin.Tuple.tupleExact _) (wpAny_newObj_type (wpAny_pure (wpAny_pure ⟨_, rfl, wpAny_pure h⟩)) fits))
    | exact wpAny_bind (wpAny_bind (m := Builtin.Tuple.tupleExact _) (wpAny_newObj_type (wpAny_pure ⟨_, rfl, wpAny_pure h⟩) fits))
end
section
variable {X : Cx} {K : PySem.W.Frag} {cm : String → Addr} {H : Hp} {h : Wh} {W : WX}
/-- e[::-1], of a tuple or a list -/
def tBack (K : PySem.W.Frag) (te : TE) : TE := fun σ H Q => te σ H fun x H1 => ∃ a xs, x = .ref a ∧ ((SqT K H1 a xs ∧ NewT H1 xs.reverse Q) ∨ (SqL K H1 a xs ∧ ∀ p, H1 p = none → Q (.ref p) (upd H1 p (.lst xs.reverse))))
theorem pe_back {e : Expr} {te : TE} {k : Nat} {p1 p2 p3 pos : Pos} (he : PE X e te) : PE X (.Subscript e (.Slice none none (some (.UnaryOp .USub (.Constant (.int 1) k p1) p2)) p3) pos) (tBack X.K te) := by
  refine ⟨fun pins s σ H Q I h => ?_⟩
  refine Subscript_ (thn (he.run pins s σ H _ I h) fun v s1 ⟨x, H1, I1, r1, q1⟩ => ?_)
  obtain ⟨a, xs, ex, q⟩ := q1
  subst ex
  cases r1
  have neg : PO X (some (.UnaryOp .USub (.Constant (.int 1) k p1) p2)) (tPart (tUn (rU fun i => .int (-i)) (tC (.int 1)))) := po_some (pe_un un_neg pe_int)
  refine wpAny_Slice (thn (po_none.run pins s1 σ H1 (fun o H2 => o = none ∧ H2 = H1) I1 ⟨rfl, rfl⟩) fun vl s2 ⟨l, H2, I2, pl, el, e2⟩ => ?_)
  subst el e2
  refine thn (po_none.run pins s2 σ H2 (fun o H3 => o = none ∧ H3 = H2) I2 ⟨rfl, rfl⟩) fun vu s3 ⟨u, H3, I3, pu, eu, e3⟩ => ?_
  subst eu e3
  refine thn (neg.run pins s3 σ H3 (fun o H4 => o = some (-1) ∧ H4 = H3) I3 ⟨1, rfl, -1, rfl, rfl, rfl⟩) fun vs s4 ⟨o, H4, I4, ps, eo, e4⟩ => ?_
  subst eo e4
  have I5 : Inv X pins σ H4 { s4 with heap := s4.heap.push { cls := .type "slice", data := .fields #[vl, vu, vs] } } := I4.kept (t' := s4.toks) fun b ob q => Heap.get?_push_of_some _ q
  show wpAny (model X.prog X.w) X.A (subscriptTail e (.Slice none none (some (.UnaryOp .USub (.Constant (.int 1) k p1) p2)) p3) (.ref a) (.ref s4.heap.objs.size)) (EP X pins σ Q) X.xe { s4 with heap := s4.heap.push { cls := .type "slice", data := .fields #[vl, vu, vs] } }
  rcases q with ⟨hx, q⟩ | ⟨hx, q⟩
  · obtain ⟨its, r, ht, hz⟩ := I5.tuple hx
    have hlen := r.length
    refine tail_any (ops := [.ref a, .ref s4.heap.objs.size]) ht.typeIs (PyProof.Rows.slot_tuple_getitem.lookup) ?_ (by with_unfolding_all rfl)
    refine back_tuple ht (Heap.IsSliceOf.new _ vl vu vs) pl pu ps ?_ (by rw [List.size_toArray]; omega)
    refine ⟨.ref _, _, I5.laid (t' := s4.toks) (o := .frz _ (.tup xs.reverse)) (fun b ob q => Heap.get?_push_of_some _ q) (Nat.le_refl _) ⟨Heap.get?_push_size _ rfl, ?_⟩, rfl, q _ _ (I5.hok.fresh (Nat.le_refl _)) rfl⟩
    exact ⟨by rw [List.length_reverse]; exact hz, _, r.reverse, IsTup.new _ _⟩
  · obtain ⟨its, r, ht, hz⟩ := I5.list hx
    have hlen := r.length
    refine tail_any (ops := [.ref a, .ref s4.heap.objs.size]) ht.isList.typeIs (PySem.slot_list_getitem.lookup) ?_ (by with_unfolding_all rfl)
    refine wpAny_getItem_list_slice ht.isList (Heap.IsSliceOf.new _ vl vu vs) pl pu ps (by decide) ?_ (by rw [List.size_toArray]; omega)
    rw [PySem.W.krv_pick]
    refine ⟨.ref _, _, I5.laid (t' := s4.toks) (o := .lst xs.reverse) (fun b ob q => Heap.get?_push_of_some _ q) (Nat.le_refl _) ?_, rfl, q _ (I5.hok.fresh (Nat.le_refl _))⟩
    exact ⟨by rw [List.length_reverse]; exact hz, _, 0, r.reverse, Heap.get?_push_size _ rfl⟩
def gRev : CU := fun x h q => match x with
  | .tup xs => q (.tup xs.reverse) h
  | x => match asF x h with | some xs => q (.lv xs.reverse) h | none => False
theorem ce_rev {e : Expr} {ca : CT} {k : Nat} {p1 p2 p3 pos : Pos} (ha : PE X e (eOf X.K cm W ca)) : PE X (.Subscript e (.Slice none none (some (.UnaryOp .USub (.Constant (.int 1) k p1) p2)) p3) pos) (eOf X.K cm W (cOp1 gRev ca)) := weakE (fun σ H Q ⟨h, env, q, e, S, R, hc, k, kx⟩ =>
  ⟨h, env, _, e, S, R, hc, fun H1 h1 x V l1 S1 r1 c1 => by
    have k1 := k.mono l1
    cases r1 with
    | tup e _ r => exact ⟨_, _, rfl, .inl ⟨e, newTup S1 r.rev c1 k1⟩⟩
    | lv e n r =>
      exact ⟨_, _, rfl, .inr ⟨.inl (.inl e), newLv S1 r.rev c1 k1⟩⟩
    | fz e r =>
      exact ⟨_, _, rfl, .inr ⟨e.sq, newLv S1 r.rev c1 k1⟩⟩
    | ref a =>
      unfold gRev at c1
      dsimp only at c1
      split at c1
      · next xs ex =>
        obtain ⟨p, Vs, e1, hq, s⟩ := asF_ok S1 (.ref a) ex
        exact ⟨p, Vs, e1, .inr ⟨hq, newLv S1 s.rev c1 k1⟩⟩
      · exact c1.elim
    | _ => exact c1.elim, kx⟩) (pe_back ha)
end
end Co
end
section
/-! Core13: sets of texts: set(xs) of a list or a tuple; sorted, len of it. -/
namespace Co
open PySem PySem.Spec PyProof.Rows L2
def skey (e : Int × Value) : Str := match e.2 with | .str k _ => k | _ => Str.empty
def GoodS (P : Program) (w : World) (e : Int × Value) : Prop := ∃ k tk, e.2 = Value.str k tk ∧ e.1 = (PySem.strKind P w).hash k
/-- the set of the texts M at a, of at most n -/
def SetS (P : Program) (w : World) (h : Heap) (a : Addr) (M : List Str) (n : Nat) : Prop :=
  ∃ o es ep t, h.get? a = some o ∧ o.ExactSet ∧ o.data = .set es ep t ∧ (∀ e ∈ es.toList, GoodS P w e) ∧ (es.toList.map skey).Nodup ∧ (∀ k, k ∈ M ↔ k ∈ es.toList.map skey) ∧
    es.size ≤ n ∧ es.size < scanBound ∧ t.fits es.size = true ∧ Ris t.place.toList ∧ (w.params.followText "set-order" = true ∨ t.led = true)
section
variable {P : Program} {w : World} {h h' : Heap} {a : Addr} {M : List Str} {n : Nat}
theorem SetS.at (R : SetS P w h a M n) (k : ∀ o, h.get? a = some o → h'.get? a = some o) : SetS P w h' a M n := let ⟨o, es, ep, t, ho, r⟩ := R; ⟨o, es, ep, t, k o ho, r⟩
theorem SetS.same {N : List Str} (R : SetS P w h a M n) (e : ∀ k, k ∈ N ↔ k ∈ M) : SetS P w h a N n := by
  obtain ⟨o, es, ep, t, h1, h2, h3, h4, h5, h6, r⟩ := R
  exact ⟨o, es, ep, t, h1, h2, h3, h4, h5, fun k => (e k).trans (h6 k), r⟩
theorem goodS_elems {l : List (Int × Value)} (g : ∀ e ∈ l, GoodS P w e) : ElemsOf (PySem.strKind P w) l := fun e he => by
  obtain ⟨k, tk, h1, h2⟩ := g e he
  exact ⟨⟨k, by rw [h1]; exact strKind_is _ _ _ _, h2⟩, by rw [h1] <;> rfl⟩
theorem goodS_is {e : Int × Value} (g : GoodS P w e) (k : Str) : (PySem.strKind P w).is k e.2 = true ↔ skey e = k := by
  obtain ⟨k0, tk, h1, _⟩ := g
  unfold skey
  rw [h1]
  show ((k0 == k) = true) ↔ k0 = k
  exact beq_iff_eq
theorem goodS_mem {l : List (Int × Value)} (g : ∀ e ∈ l, GoodS P w e) (k : Str) : k ∈ l.map skey ↔ ∃ e ∈ l, (PySem.strKind P w).is k e.2 = true :=
  ⟨fun z => let ⟨e, he, q⟩ := List.mem_map.mp z; ⟨e, he, (goodS_is (g e he) k).2 q⟩, fun ⟨e, he, q⟩ => List.mem_map.mpr ⟨e, he, (goodS_is (g e he) k).1 q⟩⟩
end
section
variable {P : Program} {w : World} {A : Around} {E : Value → Shared → Prop} {s : Shared} {a : Addr} {M : List Str} {n : Nat}
theorem setS_tail {g : Bool → Sem Unit} (hg : ∀ (b : Bool) (s₁ : Shared) (Q' : Unit → Shared → Prop), Q' () s₁ → wpAny (model P w) A (g b) Q' E s₁)
    {o : Obj} {es : Array (Int × Value)} {ep : Nat} {t : SetTable} (ho : s.heap.get? a = some o) (hex : o.ExactSet) (hd : o.data = .set es ep t)
    {es1 : Array (Int × Value)} {t2 : SetTable} {N : List Str} (g1 : ∀ e ∈ es1.toList, GoodS P w e) (nd1 : (es1.toList.map skey).Nodup) (m1 : ∀ k, k ∈ N ↔ k ∈ es1.toList.map skey)
    (hn : es1.size ≤ n) (hb1 : es1.size < scanBound) (hf2 : t2.fits es1.size = true) (hr : Ris t2.place.toList) (hl : w.params.followText "set-order" = true ∨ t2.led = true) {wasDummy : Bool} {R : Option Bool → Shared → Prop}
    (hR : ∀ h', Heap.SameBut a s.heap h' → SetS P w h' a N n → R (some true) { s with heap := h' }) :
    wpAny (model P w) A (do
        storeSet a es1 t2
        if (!wasDummy && t2.tooFull) = true then do
            g (relayAll t2 es1 (SetTable.grown es1.size)).2.2
            storeSet a (relayAll t2 es1 (SetTable.grown es1.size)).1 (relayAll t2 es1 (SetTable.grown es1.size)).2.1
            pure (some true)
          else pure (some true)) R E s := by
  refine wpAny_bind (wpAny_storeSet_of ho hd ?_ (fits_of_scanBound hb1))
  have o1 := store_at (es' := es1) (t' := t2) ho hd
  have sb := Heap.SameBut.update s.heap a (Obj.putSet es1 t2)
  by_cases full : (!wasDummy && t2.tooFull) = true
  · rw [if_pos full]
    have x1 := relayAll_perm t2 es1 (SetTable.grown es1.size)
    have x2 := relayAll_fits t2 es1 (SetTable.grown es1.size)
    have x3 := relayAll_ris t2 es1 (SetTable.grown es1.size)
    have x4 := relayAll_led t2 es1 (SetTable.grown es1.size)
    generalize relayAll t2 es1 (SetTable.grown es1.size) = Y at x1 x2 x3 x4 ⊢
    obtain ⟨es2, t3, gave⟩ := Y
    dsimp only at x1 x2 x3 x4 ⊢
    have sz : es2.size = es1.size := by rw [← Array.length_toList, x1.length_eq, Array.length_toList]
    refine wpAny_bind (hg _ _ _ (wpAny_bind (wpAny_storeSet_of o1 rfl ?_ (fits_of_scanBound (by omega)))))
    have o2 := store_at (es' := es2) (t' := t3) o1 rfl
    exact wpAny_pure (hR _ (sb.trans (Heap.SameBut.update _ a _)) ⟨_, es2, _, t3, o2, hex, rfl, fun e he => g1 e (x1.mem_iff.mp he), (x1.map skey).nodup_iff.mpr nd1, fun k => (m1 k).trans (x1.map skey).mem_iff.symm, by omega, by omega, x2, x3,
      hl.imp id fun z => x4.trans z⟩)
  · rw [if_neg full]
    exact wpAny_pure (hR _ sb ⟨_, es1, _, t2, o1, hex, rfl, g1, nd1, m1, hn, hb1, hf2, hr, hl⟩)
theorem setS_add {k : Str} {tk : Tok} {Q : Bool → Shared → Prop} (R : SetS P w s.heap a M n) (room : n + 1 < scanBound)
    (hQ : ∀ h' b, Heap.SameBut a s.heap h' → SetS P w h' a (k :: M) (n + 1) → Q b { s with heap := h' }) :
    wpAny (model P w) A (setAddHashed a (.str k tk) ((PySem.strKind P w).hash k)) Q E s := by
  obtain ⟨o, es, ep, t, ho, hex, hd, g, nd, hm, hn, hb, hf, hr, hl⟩ := R
  have isk : (PySem.strKind P w).is k (.str k tk) = true := strKind_is _ _ _ _
  have sc : (Value.str k tk).scannable = true := rfl
  have el : ElemsOf (PySem.strKind P w) es.toList := goodS_elems g
  unfold setAddHashed setAddHashedIn
  refine wpAny_holding (wpAny_bind (wpAny_setState_of ho hd hf ?_))
  dsimp only
  rw [byScan_of sc hb el]
  simp only [↓reduceIte]
  unfold setAddByScan
  refine wpAny_bind ?_
  refine wpAny_bind (wpAny_rule ?_)
  refine wpAny_bind (wpAny_setScan_of isk ho hd hf el ?_)
  cases fi : List.findIdx? (fun e => (PySem.strKind P w).is k e.2) es.toList with
  | some j =>
    dsimp only
    obtain ⟨hj, pj, _⟩ := List.findIdx?_eq_some_iff_getElem.mp fi
    have kM : k ∈ M := (hm k).2 ((goodS_mem g k).2 ⟨es.toList[j], List.getElem_mem hj, pj⟩)
    exact wpAny_pure (wpAny_pure (hQ s.heap _ (Heap.SameBut.refl a s.heap) ⟨o, es, ep, t, ho, hex, hd, g, nd, fun i => by
      rw [List.mem_cons, ← hm i]
      exact ⟨fun z => z.elim (fun e => e ▸ kM) id, .inr⟩, by omega, hb, hf, hr, hl⟩))
  | none =>
    dsimp only
    have nk : k ∉ es.toList.map skey := fun z => by
      obtain ⟨e, he, q⟩ := (goodS_mem g k).1 z
      have c := List.findIdx?_eq_none_iff.mp fi e he
      rw [q] at c
      cases c
    have gv : ∀ (b : Bool) {s₁ : Shared} {Q' : Unit → Shared → Prop}, Q' () s₁ → wpAny (model P w) A (match b with | true => rule "set.scan.the-table-gave-way" | false => pure ()) Q' E s₁ :=
      fun b s₁ Q' q => by cases b <;> first | exact wpAny_pure q | exact wpAny_rule q
    have y1 := layNew_perm t es ((PySem.strKind P w).hash k) (.str k tk)
    have y2 := layNew_fits t es ((PySem.strKind P w).hash k) (.str k tk)
    have y3 := layNew_ris t es ((PySem.strKind P w).hash k) (.str k tk) hr
    have y4 := layNew_led t es ((PySem.strKind P w).hash k) (.str k tk)
    generalize layNew t es ((PySem.strKind P w).hash k) (.str k tk) = Y at y1 y2 y3 y4 ⊢
    obtain ⟨es1, t1, wasDummy, gave⟩ := Y
    dsimp only at y1 y2 y3 y4 ⊢
    rw [Array.toList_push] at y1
    have pc : es1.toList.Perm (((PySem.strKind P w).hash k, Value.str k tk) :: es.toList) := y1.trans (List.perm_append_singleton _ _)
    have pk : (es1.toList.map skey).Perm (k :: es.toList.map skey) := pc.map skey
    have g1 : ∀ e ∈ es1.toList, GoodS P w e := fun e he => (List.mem_cons.mp (pc.mem_iff.mp he)).elim (fun z => by rw [z]; exact ⟨k, tk, rfl, rfl⟩) (g e)
    have nd1 : (es1.toList.map skey).Nodup := pk.nodup_iff.mpr (List.nodup_cons.mpr ⟨nk, nd⟩)
    have m1 : ∀ i, i ∈ k :: M ↔ i ∈ es1.toList.map skey := fun i => by rw [pk.mem_iff, List.mem_cons, List.mem_cons, hm i]
    have sz : es1.size = es.size + 1 := by rw [← Array.length_toList, pc.length_eq, List.length_cons, Array.length_toList]
    have led : w.params.followText "set-order" = true ∨ t1.led = true := hl.imp id fun z => y4.trans z
    refine wpAny_bind (gv _ ?_)
    have turn : ∀ {t2 : SetTable}, t2.fits es1.size = true → Ris t2.place.toList → (w.params.followText "set-order" = true ∨ t2.led = true) → ∀ {wd : Bool} {g : Bool → Sem Unit}, (∀ (b : Bool) (s₁ : Shared) (Q' : Unit → Shared → Prop), Q' () s₁ → wpAny (model P w) A (g b) Q' E s₁) →
        ∀ {R : Option Bool → Shared → Prop}, (∀ h', Heap.SameBut a s.heap h' → SetS P w h' a (k :: M) (n + 1) → R (some true) { s with heap := h' }) → wpAny (model P w) A (do
        storeSet a es1 t2
        if (!wd && t2.tooFull) = true then do
            g (relayAll t2 es1 (SetTable.grown es1.size)).2.2
            storeSet a (relayAll t2 es1 (SetTable.grown es1.size)).1 (relayAll t2 es1 (SetTable.grown es1.size)).2.1
            pure (some true)
          else pure (some true)) R E s := by
      intro t2 f1 f2 f3 wd g f4 R f5
      exact setS_tail f4 ho hex hd g1 nd1 m1 (by omega) (by omega) f1 f2 f3 f5
    split
    · refine wpAny_bind ?_
      rw [hashByValue_scannable 8 sc]
      refine wpAny_pure ?_
      refine turn ?_ ?_ ?_ ?_ ?_
      · first | (split <;> first | exact y2 | exact SetTable.fits_plain_off y2) | exact y2
      · first | (split <;> exact y3) | exact y3
      · first | (split <;> exact led) | exact led
      · intro b s₁ Q' q; cases b <;> first | exact wpAny_pure q | exact wpAny_rule q
      · intro h' sb r; dsimp only; exact wpAny_pure (hQ h' _ sb r)
    · refine wpAny_bind (wpAny_pure ?_)
      simp only [↓reduceIte]
      refine turn y2 y3 led ?_ ?_
      · intro b s₁ Q' q; cases b <;> first | exact wpAny_pure q | exact wpAny_rule q
      · intro h' sb r; dsimp only; exact wpAny_pure (hQ h' _ sb r)
/-- set.update's loop over texts -/
theorem setS_loop {I : Addr} {fp wr : List Addr} {G : Array GenState → Array GenState → Prop} {n : Nat} {Pv : Nat → Value → Prop} {St : Nat → Shared → Prop} {R : Result → Shared → Prop}
    (W : WalksS P w A.in1 I fp wr G n Pv St) (S : Addr) (nS : S ∉ fp) (xs : List Str) (hn : n = xs.length) (hb : xs.length + 1 < scanBound) (hval : ∀ i v, Pv i v → ∃ k t, xs[i]? = some k ∧ v = .str k t) :
    ∀ (k i : Nat) (s : Shared), n - i = k → i ≤ n → St i s → SetS P w s.heap S (xs.take i) i →
      (∀ s', Moved (S :: wr) G s s' → SetS P w s'.heap S xs n → R (.ok (.ret .none)) s') → codeAny (model P w) A (.builtin "set.update.loop" ⟨[.ref S, .ref I], []⟩) R s := by
  have nw : S ∉ wr := fun h => nS (W.sub _ h)
  have up : ∀ b ∈ wr, b ∈ S :: wr := fun b hb => List.mem_cons_of_mem _ hb
  intro k
  induction k with
  | zero =>
    intro i s e1 e2 st hS hR
    have e3 : i = n := by omega
    subst e3
    refine codeAny_builtin F.entry_set_update_loop ?_
    rw [Around.under_plainId F.plain_set_update_loop _]
    show wpAny _ A.in1 (pyNext (.ref I) >>= _) _ _ s
    refine wpAny_bind (W.done s _ _ st fun s' hm => ?_)
    show wpAny _ A.in1 (ret Value.none) _ _ s'
    rw [List.take_of_length_le (by omega)] at hS
    exact wpAny_pure (hR s' (hm.mono up) (hS.at fun o e => hm.heap S o nw e))
  | succ k ih =>
    intro i s e1 e2 st hS hR
    have lt : i < n := by omega
    refine codeAny_builtin F.entry_set_update_loop ?_
    rw [Around.under_plainId F.plain_set_update_loop _]
    show wpAny _ A.in1 (pyNext (.ref I) >>= _) _ _ s
    refine wpAny_bind (W.item i s _ _ lt st fun v s' hP st' hm => ?_)
    obtain ⟨z, t, hz, rfl⟩ := hval i v hP
    have hS1 := hS.at (h' := s'.heap) fun o e => hm.heap S o nw e
    show wpAny _ A.in1 (holding [Value.str z t] (setAdd S (.str z t)) >>= _) _ _ s'
    refine wpAny_bind (wpAny_holding ?_)
    unfold setAdd
    refine wpAny_holding ?_
    refine wpAny_bind ((PySem.strKind P w).pyHash (k := z) (strKind_is _ _ _ _) ?_)
    refine setS_add (s := { s' with toks := s'.toks + 1 }) hS1 (by omega) fun h' b sb hS2 => ?_
    have hS3 : SetS P w h' S (xs.take (i + 1)) (i + 1) := hS2.same fun j => by
      rw [List.take_add_one, hz]
      simp [or_comm]
    refine wpAny_pure ⟨plainId_quiet F.plain_set_update_loop _, ih (i + 1) _ (by omega) lt (W.frame _ s' _ _ st' (Nat.le_succ _) fun b hb o e => ?_) hS3 fun s'' hm2 hS4 => ?_⟩
    · rw [sb.2 b (fun h : b = S => nS (by rw [← h]; exact hb))]; exact e
    · refine hR s'' (Moved.trans W.gtrans ((hm.mono up).then_heap (Nat.le_succ _) fun b o hb e => ?_) hm2) hS4
      rw [sb.2 b (fun h : b = S => hb (by rw [h]; exact List.mem_cons_self))]; exact e
set_option maxHeartbeats 6400000 in
/-- set(xs), xs a list of texts -/
theorem call_setS_list {l : Addr} {items : Array Value} (xs : List Str) {Q : Value → Shared → Prop} (hh : A.handled = none) (hl : s.heap.IsList l items) (hit : StrsAre items.toList xs) (hb : xs.length + 1 < scanBound)
    (h : ∀ (h' : Heap) (tk : Nat), SetS P w h' s.heap.objs.size xs xs.length → (∀ b o, s.heap.get? b = some o → h'.get? b = some o) → Q (.ref s.heap.objs.size) { s with heap := h', toks := tk }) :
    wpAny (model P w) A (call (.type "set") [.ref l]) Q E s := by
  have sz : items.size = xs.length := by rw [← StrsAre.len_eq hit, Array.length_toList]
  obtain ⟨c, tl, m1⟩ := F.called_set.mro
  have m2 := F.called_set.made
  have m3 := F.called_set.sub
  refine wpAny_call (codeAny_of_tree ?_)
  show wpAny _ _ (callAny (.type "set") _) _ _ _
  refine wpAny_pure ⟨Code.quiet_builtin _ (by decide +kernel), codeAny_builtin F.entry_type_call ?_⟩
  rw [Around.under_plain (weight_type_call_type "set" [.ref l] []) rfl]
  have m4 := F.called_set.notType
  have m5 := F.called_set.canCreate
  have m6 := F.typeCall_set_1 (.ref l)
  repeat (any_goals (first | assumption | wp_step))
  let ob : Obj := { cls := .type "set", dict := none, data := .set #[] 0 (.fresh 0 0 (!w.params.followText "set-order")) }
  refine codeAny_mono (code_set_led1 (.ref l) (E := E) (Q₁ := fun obj s₁ => obj = .ref s.heap.objs.size ∧ s₁ = { s with heap := s.heap.push ob }) ⟨rfl, rfl⟩) fun r s₁ hr => ?_
  cases r with
  | error e => exact hr
  | ok fl =>
    cases fl with
    | ret obj =>
      obtain ⟨rfl, rfl⟩ := hr
      have atS : (s.heap.push ob).get? s.heap.objs.size = some ob := Heap.get?_push_size _ rfl
      have tyS : Shared.TypeIs { s with heap := s.heap.push ob } (.ref s.heap.objs.size) "set" := ⟨_, atS, rfl⟩
      have m7 := F.called_set.init.lookup
      have m8 := F.called_set.init.bind (.ref s.heap.objs.size)
      repeat (any_goals (first | assumption | wp_step))
      refine codeAny_mono (codeAny_call_builtin (R := wants (fun r s₂ => r = .none ∧ ∃ h' tk, s₂ = { s with heap := h', toks := tk } ∧ SetS P w h' s.heap.objs.size xs xs.length ∧ (∀ b o, s.heap.get? b = some o → h'.get? b = some o)) E) F.called_set.init.plain F.entry_set_init (check_set_init_1 tyS ?_)) fun r₂ s₂ hr₂ => ?_
      · obtain ⟨⟨oc, od, odat, osl⟩, g1, g2, nl, g3⟩ := hl
        simp only at g2 g3
        subst g2; subst g3
        have g1' : (s.heap.push ob).get? l = some { cls := .type "list", dict := od, data := .seq items nl, slots := osl } := Heap.get?_push_of_some _ g1
        have n1 := F.sub_list_set
        have n2 := F.sub_list_frozenset
        have n3 : (Value.type "list" == Value.type "dict") = false := by decide
        have there : (s.heap.push ob).IsList l items := ⟨_, g1', rfl, nl, rfl⟩
        unfold Builtin.«set.__init__» noKeywords Builtin.Frozenset.updateFrom
        generalize hPI : pyIter = PI
        wp_walk
        subst hPI
        refine wpAny_pyIter_list there ?_
        refine wpAny_bind (wpAny_runValue ?_)
        have lS : l < s.heap.objs.size := Heap.lt_size g1
        have calm : A.in1.in1.in1.handled = none := by simp [hh]
        have ne : l ≠ (s.heap.push ob).objs.size := by
          rw [Heap.size_push]; exact Nat.ne_of_lt (Nat.lt_succ_of_lt lS)
        have nfp : s.heap.objs.size ∉ [(s.heap.push ob).objs.size, l] := by
          rw [Heap.size_push]; simp only [List.mem_cons, List.mem_singleton, List.not_mem_nil, or_false, not_or]
          exact ⟨Nat.ne_of_lt (Nat.lt_succ_self _), Nat.ne_of_gt lS⟩
        have val : ∀ (i : Nat) (v : Value), items[i]? = some v → ∃ k t, xs[i]? = some k ∧ v = .str k t := fun i v hv => by
          have hi : i < xs.length := by rw [← sz]; exact (Array.getElem?_eq_some_iff.mp hv).1
          obtain ⟨t, e⟩ := SS.strs_at hit i v (by rw [Array.getElem?_toList]; exact hv)
          refine ⟨xs[i], t, List.getElem?_eq_getElem hi, ?_⟩
          rw [e, List.getD_eq_getElem?_getD, List.getElem?_eq_getElem hi] <;> rfl
        refine setS_loop ((Walks.list calm _ l ne items).toS) s.heap.objs.size nfp xs sz hb val (items.size - 0) 0 _ (by omega) (Nat.zero_le _) ⟨⟨_, Heap.get?_push_size _ rfl, rfl, rfl⟩, (there.push _)⟩ ?start ?fin
        case start =>
          have at2 : ((s.heap.push ob).push { cls := .type "list_iterator", data := .fields #[.ref l, .int 0 0] }).get? s.heap.objs.size = some ob := Heap.get?_push_of_some _ atS
          exact ⟨ob, #[], 0, _, at2, ⟨rfl, rfl, rfl⟩, rfl, (fun e he => by simp at he), (by simp), (fun k => by simp), (by decide), (by decide), (by rfl), List.Pairwise.nil, by
            show _ ∨ (!w.params.followText "set-order") = true
            cases w.params.followText "set-order"
            · exact .inr rfl
            · exact .inl rfl⟩
        case fin =>
          intro s' hm hS'
          obtain ⟨h', g2, d', tk', os'⟩ := s'
          have eg : g2 = s.gens := hm.gens
          have ed : d' = s.drawn := hm.drawn
          have eo : os' = s.os := hm.os
          subst eg; subst ed; subst eo
          show wpAny _ _ _ _ _ _
          refine wpAny_pure ?_
          show wpAny _ _ (ret Value.none) _ _ _
          rw [sz] at hS'
          refine wpAny_pure ⟨rfl, h', tk', rfl, hS', fun b o e => ?_⟩
          have b0 : b < s.heap.objs.size := Heap.lt_size e
          have b1 : b ≠ s.heap.objs.size := Nat.ne_of_lt b0
          have b2 : b ≠ (s.heap.push ob).objs.size := by
            rw [Heap.size_push]; exact Nat.ne_of_lt (Nat.lt_succ_of_lt b0)
          exact hm.heap b o (by simp only [List.mem_cons, List.mem_singleton, List.not_mem_nil, or_false, not_or]; exact ⟨b1, b2⟩) (Heap.get?_push_of_some _ (Heap.get?_push_of_some _ e))
      · cases r₂ with
        | error e => exact hr₂
        | ok fl₂ =>
          cases fl₂ with
          | ret r =>
            obtain ⟨rfl, h', tk, rfl, hS', hk'⟩ := hr₂
            repeat (any_goals (first | assumption | wp_step))
            exact h _ _ hS' hk'
          | _ => exact hr₂.elim
    | _ => exact hr.elim
set_option maxHeartbeats 6400000 in
/-- set(xs), xs a tuple of texts -/
theorem call_setS_tuple {l : Addr} {items : Array Value} (xs : List Str) {Q : Value → Shared → Prop} (hh : A.handled = none) (hl : s.heap.IsTuple l items) (hit : StrsAre items.toList xs) (hb : xs.length + 1 < scanBound)
    (h : ∀ (h' : Heap) (tk : Nat), SetS P w h' s.heap.objs.size xs xs.length → (∀ b o, s.heap.get? b = some o → h'.get? b = some o) → Q (.ref s.heap.objs.size) { s with heap := h', toks := tk }) :
    wpAny (model P w) A (call (.type "set") [.ref l]) Q E s := by
  have sz : items.size = xs.length := by rw [← StrsAre.len_eq hit, Array.length_toList]
  obtain ⟨c, tl, m1⟩ := F.called_set.mro
  have m2 := F.called_set.made
  have m3 := F.called_set.sub
  refine wpAny_call (codeAny_of_tree ?_)
  show wpAny _ _ (callAny (.type "set") _) _ _ _
  refine wpAny_pure ⟨Code.quiet_builtin _ (by decide +kernel), codeAny_builtin F.entry_type_call ?_⟩
  rw [Around.under_plain (weight_type_call_type "set" [.ref l] []) rfl]
  have m4 := F.called_set.notType
  have m5 := F.called_set.canCreate
  have m6 := F.typeCall_set_1 (.ref l)
  repeat (any_goals (first | assumption | wp_step))
  let ob : Obj := { cls := .type "set", dict := none, data := .set #[] 0 (.fresh 0 0 (!w.params.followText "set-order")) }
  refine codeAny_mono (code_set_led1 (.ref l) (E := E) (Q₁ := fun obj s₁ => obj = .ref s.heap.objs.size ∧ s₁ = { s with heap := s.heap.push ob }) ⟨rfl, rfl⟩) fun r s₁ hr => ?_
  cases r with
  | error e => exact hr
  | ok fl =>
    cases fl with
    | ret obj =>
      obtain ⟨rfl, rfl⟩ := hr
      have atS : (s.heap.push ob).get? s.heap.objs.size = some ob := Heap.get?_push_size _ rfl
      have tyS : Shared.TypeIs { s with heap := s.heap.push ob } (.ref s.heap.objs.size) "set" := ⟨_, atS, rfl⟩
      have m7 := F.called_set.init.lookup
      have m8 := F.called_set.init.bind (.ref s.heap.objs.size)
      repeat (any_goals (first | assumption | wp_step))
      refine codeAny_mono (codeAny_call_builtin (R := wants (fun r s₂ => r = .none ∧ ∃ h' tk, s₂ = { s with heap := h', toks := tk } ∧ SetS P w h' s.heap.objs.size xs xs.length ∧ (∀ b o, s.heap.get? b = some o → h'.get? b = some o)) E) F.called_set.init.plain F.entry_set_init (check_set_init_1 tyS ?_)) fun r₂ s₂ hr₂ => ?_
      · obtain ⟨⟨oc, od, odat, osl⟩, g1, g2, nl, g3⟩ := hl
        simp only at g2 g3
        subst g2; subst g3
        have g1' : (s.heap.push ob).get? l = some { cls := .type "tuple", dict := od, data := .seq items nl, slots := osl } := Heap.get?_push_of_some _ g1
        have n1 := F.sub_tuple_set
        have n2 := F.sub_tuple_frozenset
        have n3 : (Value.type "tuple" == Value.type "dict") = false := by decide
        have there : (s.heap.push ob).IsTuple l items := ⟨_, g1', rfl, nl, rfl⟩
        unfold Builtin.«set.__init__» noKeywords Builtin.Frozenset.updateFrom
        generalize hPI : pyIter = PI
        wp_walk
        subst hPI
        refine wpAny_pyIter_tuple there ?_
        refine wpAny_bind (wpAny_runValue ?_)
        have lS : l < s.heap.objs.size := Heap.lt_size g1
        have calm : A.in1.in1.in1.handled = none := by simp [hh]
        have ne : l ≠ (s.heap.push ob).objs.size := by
          rw [Heap.size_push]; exact Nat.ne_of_lt (Nat.lt_succ_of_lt lS)
        have nfp : s.heap.objs.size ∉ [(s.heap.push ob).objs.size, l] := by
          rw [Heap.size_push]; simp only [List.mem_cons, List.mem_singleton, List.not_mem_nil, or_false, not_or]
          exact ⟨Nat.ne_of_lt (Nat.lt_succ_self _), Nat.ne_of_gt lS⟩
        have val : ∀ (i : Nat) (v : Value), items[i]? = some v → ∃ k t, xs[i]? = some k ∧ v = .str k t := fun i v hv => by
          have hi : i < xs.length := by rw [← sz]; exact (Array.getElem?_eq_some_iff.mp hv).1
          obtain ⟨t, e⟩ := SS.strs_at hit i v (by rw [Array.getElem?_toList]; exact hv)
          refine ⟨xs[i], t, List.getElem?_eq_getElem hi, ?_⟩
          rw [e, List.getD_eq_getElem?_getD, List.getElem?_eq_getElem hi] <;> rfl
        refine setS_loop ((Walks.tuple calm _ l ne items).toS) s.heap.objs.size nfp xs sz hb val (items.size - 0) 0 _ (by omega) (Nat.zero_le _) ⟨⟨_, Heap.get?_push_size _ rfl, rfl, rfl⟩, (there.push _)⟩ ?start ?fin
        case start =>
          have at2 : ((s.heap.push ob).push { cls := .type "tuple_iterator", data := .fields #[.ref l, .int 0 0] }).get? s.heap.objs.size = some ob := Heap.get?_push_of_some _ atS
          exact ⟨ob, #[], 0, _, at2, ⟨rfl, rfl, rfl⟩, rfl, (fun e he => by simp at he), (by simp), (fun k => by simp), (by decide), (by decide), (by rfl), List.Pairwise.nil, by
            show _ ∨ (!w.params.followText "set-order") = true
            cases w.params.followText "set-order"
            · exact .inr rfl
            · exact .inl rfl⟩
        case fin =>
          intro s' hm hS'
          obtain ⟨h', g2, d', tk', os'⟩ := s'
          have eg : g2 = s.gens := hm.gens
          have ed : d' = s.drawn := hm.drawn
          have eo : os' = s.os := hm.os
          subst eg; subst ed; subst eo
          show wpAny _ _ _ _ _ _
          refine wpAny_pure ?_
          show wpAny _ _ (ret Value.none) _ _ _
          rw [sz] at hS'
          refine wpAny_pure ⟨rfl, h', tk', rfl, hS', fun b o e => ?_⟩
          have b0 : b < s.heap.objs.size := Heap.lt_size e
          have b1 : b ≠ s.heap.objs.size := Nat.ne_of_lt b0
          have b2 : b ≠ (s.heap.push ob).objs.size := by
            rw [Heap.size_push]; exact Nat.ne_of_lt (Nat.lt_succ_of_lt b0)
          exact hm.heap b o (by simp only [List.mem_cons, List.mem_singleton, List.not_mem_nil, or_false, not_or]; exact ⟨b1, b2⟩) (Heap.get?_push_of_some _ (Heap.get?_push_of_some _ e))
      · cases r₂ with
        | error e => exact hr₂
        | ok fl₂ =>
          cases fl₂ with
          | ret r =>
            obtain ⟨rfl, h', tk, rfl, hS', hk'⟩ := hr₂
            repeat (any_goals (first | assumption | wp_step))
            exact h _ _ hS' hk'
          | _ => exact hr₂.elim
    | _ => exact hr.elim
end
end Co
end
section
/-! Core14: sorted(set(xs)), len(set(xs)). -/
namespace Co
open PySem PySem.Spec PyProof.Rows L2
section
variable {P : Program} {w : World} {A : Around} {E : Value → Shared → Prop} {s : Shared} {a : Addr} {M : List Str} {n : Nat}
theorem strs_vals {P : Program} {w : World} : ∀ (l : List (Int × Value)), (∀ e ∈ l, GoodS P w e) → StrsAre (l.map (·.2)) (l.map skey)
  | [], _ => .nil
  | e :: l, h => by
    obtain ⟨k, tk, h1, _⟩ := h e (List.mem_cons_self ..)
    rw [List.map_cons, List.map_cons]
    have e1 : skey e = k := by unfold skey; rw [h1]
    rw [h1, e1]
    exact .cons k tk (strs_vals l fun x hx => h x (List.mem_cons_of_mem _ hx))
theorem strs_perm : ∀ {vs us : List Value}, vs.Perm us → ∀ {xs : List Str}, StrsAre us xs → ∃ ys, StrsAre vs ys ∧ ys.Perm xs := by
  intro vs us p
  induction p with
  | nil => intro xs h; exact ⟨xs, h, .refl _⟩
  | cons x p ih =>
    intro xs h
    cases h with
    | cons k t h => obtain ⟨ys, h1, h2⟩ := ih h; exact ⟨_, .cons k t h1, h2.cons k⟩
  | swap x y l =>
    intro xs h
    cases h with
    | cons k t h =>
      cases h with
      | cons k2 t2 h => exact ⟨_, .cons k2 t2 (.cons k t h), List.Perm.swap ..⟩
  | trans p q ih1 ih2 =>
    intro xs h
    obtain ⟨ys, h1, h2⟩ := ih2 h
    obtain ⟨zs, h3, h4⟩ := ih1 h1
    exact ⟨zs, h3, h4.trans h2⟩
theorem sorted_setS {Q : Value → Shared → Prop} (R : SetS P w s.heap a M n) (hh : A.handled = none) (h64 : n < 64)
    (hQ : ∀ s' p (out : Array Value) (c : Nat) (ns : List Str), (∀ b o, s.heap.get? b = some o → s'.heap.get? b = some o) → s'.gens = s.gens → s'.os = s.os → s.heap.objs.size ≤ p →
      s'.heap.get? p = some (seqObj "list" out c) → StrsAre out.toList ns → sortedS ns = true → ns.Nodup → (∀ k, k ∈ ns ↔ k ∈ M) → ns.length ≤ n → Q (.ref p) s') :
    wpAny (model P w) A (call (.builtin "sorted") [.ref a]) Q E s := by
  obtain ⟨o, es, ep, t, ho, hex, hd, g, nd, hm, hn, hb, hf, hr, hl⟩ := R
  refine Calls.call_function_entry kind_sorted plain_sorted entry_sorted (args_sorted1 _) ?_
  unfold Builtin.«sorted»
  refine wpAny_bind (m := checkCount "sorted" 1 1 _) (wpAny_pure ?_)
  refine wpAny_bind (collect_set (A := A.in1) hh ⟨o, ho, hex.1, hd⟩ hf hb hr hl fun s1 vs k1 hz g1 o1 pm => ?_)
  have lv : vs.length ≤ n := by rw [pm.length_eq, List.length_map, Array.length_toList]; exact hn
  obtain ⟨ss, sS, pS⟩ := strs_perm pm (strs_vals es.toList g)
  refine wpAny_bind (wpAny_newList ?_ (by rw [sizeLine_eq]; omega))
  have atL : (s1.heap.push (seqObj "list" vs.toArray 0)).get? s1.heap.objs.size = some (seqObj "list" vs.toArray 0) := Heap.get?_push_size _ rfl
  refine wpAny_bind (wpAny_holding (wpAny_call_entry slot_list_sort ⟨_, atL, rfl⟩ entry_list_sort (list_sort_treeK strKind_oneLt atL sS.keysOf (fun v₁ v₂ rest e => keyKind_strs (by rw [← e]; exact sS)) (by omega) fun st' b1 b2 => ⟨_, rfl, ?_⟩) (args_list_sort _)))
  obtain ⟨ss', c1, c2, c3⟩ := sorted_out_str sS b1 b2
  obtain ⟨c, hc⟩ := sortedHeap_at (vs := vs) (out := (arrOf st').map (·.2)) atL
  have pn : ss'.Perm (es.toList.map skey) := c2.trans pS
  refine wpAny_pure ⟨_, rfl, hQ _ s1.heap.objs.size _ c ss' (fun b u e => ?_) g1 o1 hz hc c1 c3 (pn.nodup_iff.mpr nd) (fun k => by rw [pn.mem_iff, ← hm k]) ?_⟩
  · have q := k1 b u e
    have hlt := Heap.lt_size q
    show (sortedHeap (s1.heap.push (seqObj "list" vs.toArray 0)) s1.heap.objs.size vs _).get? b = some u
    rw [sortedHeap_old (Nat.ne_of_lt hlt) (by rw [size_push']; exact Nat.lt_succ_of_lt hlt)]
    exact Heap.get?_push_of_some _ q
  · rw [pn.length_eq, List.length_map, Array.length_toList]; exact hn
end
section
variable {X : Cx} {K : PySem.W.Frag} {cm : String → Addr} {H : Hp} {h : Wh} {W : WX}
/-- set(x) of texts, within another call -/
theorem set_walk {a : Expr} {ta : TE} {p2 q : Pos} (hc : X.calm = true) (hg2 : Gl X "set") (hm2 : X.mg "set" = none) (ha : PE X a ta) (na : starEach [a] X.env = (false, eval a X.env) :: starEach [] X.env)
    {pins : List (Addr × Obj)} {s : Shared} {σ : L2.St} {H : Hp} {R : Value → Shared → Prop} (I : L2.Inv X pins σ H s) {F : V → Hp → Prop} (h : ta σ H F)
    (k : ∀ x H1, F x H1 → ∃ (l : Addr) (xs : List Str), x = .ref l ∧ (SqL X.K H1 l (xs.map V.str) ∨ SqT X.K H1 l (xs.map V.str)) ∧ xs.length < 64 ∧
      ∀ (a : Addr) (s2 : Shared), L2.Inv X pins σ H1 s2 → SetS X.prog X.w s2.heap a xs xs.length → R (.ref a) s2) :
    wpAny (model X.prog X.w) X.A (eval (.Call (.Name "set" p2) [a] [] q) X.env) R X.xe s := by
  refine Call_ (ld_blt I hg2 hm2 boot_set ?_)
  refine PyProof.Rows.callWith_type1 (PyProof.Rows.args_cons (thn (ha.run pins s σ H _ I h) fun v s1 ⟨x, H1, I1, r1, q1⟩ => PyProof.Rows.args_nil ?_) na) na rfl
  obtain ⟨l, xs, rfl, hq, h64, q1⟩ := k _ _ q1
  cases r1
  rcases hq with hq | hq
  · obtain ⟨its, r, pl, hz⟩ := I1.list hq
    refine call_setS_list xs (I1.ok.hd hc) pl.isList (by simpa using strsAre_of r) (by unfold scanBound; omega) fun h' tk hS hk => ?_
    exact q1 _ _ (I1.kept (t' := tk) fun b o e => hk b o e) hS
  · obtain ⟨its, r, pl, hz⟩ := I1.tuple hq
    refine call_setS_tuple xs (I1.ok.hd hc) pl (by simpa using strsAre_of r) (by unfold scanBound; omega) fun h' tk hS hk => ?_
    exact q1 _ _ (I1.kept (t' := tk) fun b o e => hk b o e) hS
def fSortedSet (K : PySem.W.Frag) (Q : VK) : V → Hp → Prop := fun x H1 => ∃ (l : Addr) (xs : List Str), x = .ref l ∧ (SqL K H1 l (xs.map V.str) ∨ SqT K H1 l (xs.map V.str)) ∧ xs.length < 64 ∧
  ∀ ys : List Str, sortedS ys = true → ys.Nodup → (∀ k, k ∈ ys ↔ k ∈ xs) → ys.length ≤ xs.length → ∀ p, H1 p = none → Q (.ref p) (upd H1 p (.lst (ys.map V.str)))
def tSortedSet (K : PySem.W.Frag) (ta : TE) : TE := fun σ H Q => ta σ H (fSortedSet K Q)
theorem boot_sorted' : bootBuiltins "sorted" = some (.builtin "sorted") := by decide +kernel
theorem pe_sortedSet {a : Expr} {ta : TE} {p p2 q pos : Pos} (hc : X.calm = true) (hg : Gl X "sorted") (hm : X.mg "sorted" = none) (hg2 : Gl X "set") (hm2 : X.mg "set" = none) (ha : PE X a ta)
    (na : starEach [a] X.env = (false, eval a X.env) :: starEach [] X.env := by rfl) : PE X (.Call (.Name "sorted" p) [.Call (.Name "set" p2) [a] [] q] [] pos) (tSortedSet X.K ta) := by
  refine ⟨fun pins s σ H Q I h => ?_⟩
  refine Call_ (ld_blt I hg hm boot_sorted' ?_)
  refine PyProof.Rows.callWith_builtin1 (PyProof.Rows.args_cons ?_ rfl) rfl rfl
  refine set_walk hc hg2 hm2 ha na I h fun x H1 ⟨l, xs, e, hq, h64, k⟩ => ⟨l, xs, e, hq, h64, fun b s2 I2 hS => ?_⟩
  refine PyProof.Rows.args_nil ?_
  refine sorted_setS hS (I2.ok.hd hc) h64 fun s3 p out c ns k3 g3 o3 hp at3 st so nd me le => ?_
  have lenL : (ns.map V.str).length ≤ sizeLine := by rw [List.length_map, sizeLine_eq]; omega
  have fr : H1 p = none := I2.hok.fresh hp
  have rv : Vals (ns.map V.str) out.toList := vals_of_strs st
  have J : L2.Inv X pins σ (upd H1 p (.lst (ns.map V.str))) { s2 with heap := s3.heap, gens := s3.gens, drawn := s3.drawn, toks := s3.toks } :=
    I2.call (ch := []) (Un.laid k3 hp fr) (I2.hok.laid k3 hp ⟨lenL, out.toList, c, rv, at3⟩) (by rw [g3]; exact I2.bare) (fun _ z => nomatch z)
  have e3 : s3 = { s2 with heap := s3.heap, gens := s3.gens, drawn := s3.drawn, toks := s3.toks } := by
    cases s3
    cases s2
    cases o3
    rfl
  rw [e3]
  exact ⟨.ref p, _, J, rfl, k ns so nd me le p fr⟩
def fLenSet (K : PySem.W.Frag) (Q : VK) : V → Hp → Prop := fun x H1 => ∃ (l : Addr) (xs : List Str), x = .ref l ∧ (SqL K H1 l (xs.map V.str) ∨ SqT K H1 l (xs.map V.str)) ∧ xs.length < 64 ∧
  ∀ ys : List Str, ys.Nodup → (∀ k, k ∈ ys ↔ k ∈ xs) → Q (.int (ys.length : Nat)) H1
def tLenSetS (K : PySem.W.Frag) (ta : TE) : TE := fun σ H Q => ta σ H (fLenSet K Q)
theorem pe_lenSetS {a : Expr} {ta : TE} {p p2 q pos : Pos} (hc : X.calm = true) (hg : Gl X "len") (hm : X.mg "len" = none) (hg2 : Gl X "set") (hm2 : X.mg "set" = none) (ha : PE X a ta)
    (na : starEach [a] X.env = (false, eval a X.env) :: starEach [] X.env := by rfl) : PE X (.Call (.Name "len" p) [.Call (.Name "set" p2) [a] [] q] [] pos) (tLenSetS X.K ta) := by
  refine ⟨fun pins s σ H Q I h => ?_⟩
  refine Call_ (ld_blt I hg hm boot_len ?_)
  refine PyProof.Rows.callWith_builtin1 (PyProof.Rows.args_cons ?_ rfl) rfl rfl
  refine set_walk hc hg2 hm2 ha na I h fun x H1 ⟨l, xs, e, hq, h64, k⟩ => ⟨l, xs, e, hq, h64, fun b s2 I2 hS => ?_⟩
  refine PyProof.Rows.args_nil ?_
  obtain ⟨o, es, ep, t, ho, hex, hd, g, nd, hm, hn, hb, hf, hr, hl⟩ := hS
  refine call_len_set ho hex hd hf (by omega) ⟨.int es.size, H1, I2.tok _, ⟨_, rfl⟩, ?_⟩
  have := k (es.toList.map skey) nd fun j => (hm j).symm
  simpa using this
/-! ### .. for the core -/
def gSortedSet : CF := fun xs h q => match xs with
  | [x] => ∃ ss : List Str, asQ x h = some (ss.map .str) ∧ ss.length < 64 ∧ ∀ ys : List Str, sortedS ys = true → ys.Nodup → (∀ k, k ∈ ys ↔ k ∈ ss) → q (.lv (ys.map .str)) h
  | _ => False
def gLenSet : CF := fun xs h q => match xs with
  | [x] => ∃ ss : List Str, asQ x h = some (ss.map .str) ∧ ss.length < 64 ∧ ∀ ys : List Str, ys.Nodup → (∀ k, k ∈ ys ↔ k ∈ ss) → q (.int ys.length) h
  | _ => False
theorem ce_sortedset {a : Expr} {ca : CT} {p p2 q pos : Pos} (hc : X.calm = true) (hg : Gl X "sorted") (hm : X.mg "sorted" = none) (hg2 : Gl X "set") (hm2 : X.mg "set" = none) (ha : PE X a (eOf X.K cm W ca))
    (na : starEach [a] X.env = (false, eval a X.env) :: starEach [] X.env := by rfl) : PE X (.Call (.Name "sorted" p) [.Call (.Name "set" p2) [a] [] q] [] pos) (eOf X.K cm W (cCall gSortedSet (cCons ca cNil))) := weakE (fun σ H Q ⟨h, env, q, e, S, R, hc, k, kx⟩ =>
  ⟨h, env, _, e, S, R, hc, fun H1 h1 x V l1 S1 r1 c1 => by
    obtain ⟨ss, ex, h64, c1⟩ := c1
    obtain ⟨b, Vs, rfl, hq, s⟩ := asQ_ok S1 r1 ex
    rw [RelCs.inv_strs s] at hq
    exact ⟨b, ss, rfl, hq, h64, fun ys so nd me le p n => newLv S1 RelCs.strs (c1 ys so nd me) (k.mono l1) p n⟩, kx⟩) (pe_sortedSet hc hg hm hg2 hm2 ha na)
theorem ce_lenset {a : Expr} {ca : CT} {p p2 q pos : Pos} (hc : X.calm = true) (hg : Gl X "len") (hm : X.mg "len" = none) (hg2 : Gl X "set") (hm2 : X.mg "set" = none) (ha : PE X a (eOf X.K cm W ca))
    (na : starEach [a] X.env = (false, eval a X.env) :: starEach [] X.env := by rfl) : PE X (.Call (.Name "len" p) [.Call (.Name "set" p2) [a] [] q] [] pos) (eOf X.K cm W (cCall gLenSet (cCons ca cNil))) := weakE (fun σ H Q ⟨h, env, q, e, S, R, hc, k, kx⟩ =>
  ⟨h, env, _, e, S, R, hc, fun H1 h1 x V l1 S1 r1 c1 => by
    obtain ⟨ss, ex, h64, c1⟩ := c1
    obtain ⟨b, Vs, rfl, hq, s⟩ := asQ_ok S1 r1 ex
    rw [RelCs.inv_strs s] at hq
    exact ⟨b, ss, rfl, hq, h64, fun ys nd me => (k.mono l1) _ _ _ _ .refl S1 (.int _) (c1 ys nd me)⟩, kx⟩) (pe_lenSetS hc hg hm hg2 hm2 ha na)
end
end Co
namespace Co
open L2
theorem atI_0 {α : Type} (x : α) (xs : List α) : atI (x :: xs) 0 = some x := by unfold atI ixN; rw [if_pos (by decide), if_pos (by rw [List.length_cons]; omega)]; rfl
theorem atI_1 {α : Type} (x y : α) (xs : List α) : atI (x :: y :: xs) 1 = some y := by unfold atI ixN; rw [if_pos (by decide), if_pos (by simp only [List.length_cons]; omega)]; rfl
theorem atI_2 {α : Type} (x y z : α) (xs : List α) : atI (x :: y :: z :: xs) 2 = some z := by unfold atI ixN; rw [if_pos (by decide), if_pos (by simp only [List.length_cons]; omega)]; rfl
theorem atI_3 {α : Type} (x y z u : α) (xs : List α) : atI (x :: y :: z :: u :: xs) 3 = some u := by unfold atI ixN; rw [if_pos (by decide), if_pos (by simp only [List.length_cons]; omega)]; rfl
theorem atI_4 {α : Type} (x y z u v : α) (xs : List α) : atI (x :: y :: z :: u :: v :: xs) 4 = some v := by unfold atI ixN; rw [if_pos (by decide), if_pos (by simp only [List.length_cons]; omega)]; rfl
theorem atI_5 {α : Type} (x y z u v w : α) (xs : List α) : atI (x :: y :: z :: u :: v :: w :: xs) 5 = some w := by unfold atI ixN; rw [if_pos (by decide), if_pos (by simp only [List.length_cons]; omega)]; rfl
theorem ixN_20 : ixN 2 0 = some 0 := rfl
theorem ixN_21 : ixN 2 1 = some 1 := rfl
theorem ixN_10 : ixN 1 0 = some 0 := rfl
theorem ixN_30 : ixN 3 0 = some 0 := rfl
theorem ixN_31 : ixN 3 1 = some 1 := rfl
theorem ixN_32 : ixN 3 2 = some 2 := rfl
end Co
namespace Co
open L2
theorem seq_cut {c d : CS} {env : CEnv} {h : CH} {R : CEnds} (post : CEnv → CH → Prop) (h1 : ∀ K : CEnv → CH → Prop, (∀ e g, post e g → K e g) → c env h { R with nx := K }) (h2 : ∀ e g, post e g → d e g R) : sSeq c d env h R := h1 _ h2
end Co
namespace Co
open L2
theorem seq_step {c d : CS} {env : CEnv} {h : CH} {R : CEnds} (x : c env h { R with nx := fun e g => d e g R }) : sSeq c d env h R := x
end Co
end
section
/-! Core15: new instances; raise, try .. except X; while. -/
namespace Co
open PySem PySem.Spec L2
section
variable {X : Cx} {CX : CXT} {k n : Nat} {f C : Addr} {fd : FuncData} {ps : List Str} {sp : Sp} {E : XK} {cm : String → Addr} {W : WX} {cs : CTs} {m : CD} {c0 : String} {x : Str} {p pos : Pos} {e : Expr} {es : List Expr}
theorem run_makeS {pins : List (Addr × Obj)} {σ : St} {H : Hp} {s : Shared} {Q : VK} {us : List Value} {vs : List V} (M : Mk X.K C f) (F : FnOk X.prog X.w X.K X.mg X.base CX k f fd ps sp) (hr : Room (k + 1) X.A) (hb : Binds X.K fd ps [])
    (hx : PassesAt CX X σ E) (I : Inv X pins σ H s) (r : Vals vs us)
    (h : ∀ x dx, H x = none → H dx = none → dx ≠ x → sp (.ref x :: vs) (upd (upd H dx (.own x)) x (.ins C dx [])) (fun v H2 => v = .non ∧ Q (.ref x) H2) E) :
    wpAny (model X.prog X.w) X.A (call (.ref C) us) (EP X pins σ Q) X.xe s := by
  have hq := h (s.heap.objs.size + 1) s.heap.objs.size (I.hok.fresh (Nat.le_succ _)) (I.hok.fresh (Nat.le_refl _)) (Nat.ne_of_lt (Nat.lt_succ_self _))
  have I2 := Inv.made (C := C) I
  have r2 : Vals (V.ref (s.heap.objs.size + 1) :: vs) (Value.ref (s.heap.objs.size + 1) :: us) := .cons rfl r
  have hl : (Value.ref (s.heap.objs.size + 1) :: us).length = ps.length := by rw [← r2.length, F.len _ _ _ _ hq]
  have hl2 : (Value.ref (s.heap.objs.size + 1) :: us ++ []).length = ps.length := by rw [List.append_nil]; exact hl
  have hB := hb _ (Value.ref (s.heap.objs.size + 1) :: us) I2.kIn hl2
  rw [List.append_nil] at hB
  refine wpAny_call (make_map (f := f) I.kIn M.makes M.init (beq_iff_eq.mp M.fn) (codeAny_mono (F.run _ X.stack _ _ ⟨Value.ref (s.heap.objs.size + 1) :: us, []⟩ (Value.ref (s.heap.objs.size + 1) :: us) _ _ E (hr.make C us [])
    (I2.env0.make C us []) hB r2 hq) fun r s' hq' => ?_))
  cases r with
  | error e => exact hx pins _ _ e s' I2 hq'
  | ok fl =>
    cases fl with
    | ret u =>
      obtain ⟨v, H', I3, rv, ev, q3⟩ := I2.after hq'
      subst ev
      exact ⟨rv, ⟨V.ref (s.heap.objs.size + 1), H', I3, rfl, q3⟩⟩
    | next => exact False.elim hq'
    | brk => exact False.elim hq'
    | cont => exact False.elim hq'
theorem made_rst {K : PySem.W.Frag} {H : Hp} {h : Wh} {a dx : Addr} (S : Rst K cm H h) (n : H a = none) (nd : H dx = none) (ne : dx ≠ a) :
    Le H h (upd (upd H dx (.own a)) a (.ins (cm c0) dx [])) (wup h a (.ins c0 [])) ∧ Rst K cm (upd (upd H dx (.own a)) a (.ins (cm c0) dx [])) (wup h a (.ins c0 [])) := by
  have S1 : Rst K cm (upd H dx (.own a)) h := S.plain nd
  have l1 : Le H h (upd H dx (.own a)) h := Le.plain S nd
  have n1 : upd H dx (.own a) a = none := by rw [upd_ne (Ne.symm ne)]; exact n
  exact ⟨l1.trans (Le.new S1 n1), S1.new (u := .ins c0 []) n1 ⟨dx, [], upd_same, .nil⟩⟩
theorem sp_make {K : PySem.W.Frag} {H1 : Hp} {h1 : Wh} {σ : St} {q : Cv → CH → Prop} {e : XQ} {Q : VK} {xs : List Cv} {Vs : List V} (S1 : Rst K cm H1 h1) (r1 : RelCs K cm H1 h1 xs Vs) (hn : xs.length + 1 = n)
    (c : ∀ a, h1.c a = none → m (.ref a :: xs) (cup h1.c a (.ins c0 [])) (fun v h2 => v = .non ∧ q (.ref a) h2) e) (kq : Cnv K cm H1 h1 q Q) (kx : CnvX K cm H1 h1 σ e W) :
    ∀ x dx, H1 x = none → H1 dx = none → dx ≠ x → spOf K cm n m (.ref x :: Vs) (upd (upd H1 dx (.own x)) x (.ins (cm c0) dx [])) (fun v H2 => v = .non ∧ Q (.ref x) H2) (WE W σ) := fun x dx nx ndx ne => by
  obtain ⟨l, S2⟩ := made_rst (c0 := c0) S1 nx ndx ne
  refine ⟨wup h1 x (.ins c0 []), _, _, e, S2, .cons (.ref x) (r1.mono S1 l), c x (S1.dead nx), fun H' h' z V l2 S3 r3 c3 => ?_, (kx.mono l).toE, hn⟩
  obtain ⟨rfl, c3⟩ := c3
  cases r3
  exact ⟨rfl, kq _ _ _ _ (l.trans l2) S3 (.ref x) c3⟩
theorem ce_makeD (M : Mk X.K (cm c0) f) (F : OkD X.prog X.w X.K X.mg X.base cm k f fd ps n m) (hr : Room (k + 1) X.A) (tk : Takes X W) (hg : Gl X x) (hm : X.mg x = some (.ref (cm c0))) (hb : Binds X.K fd ps [])
    (ha : PA X (e :: es) (aOf X.K cm W cs)) (hdb : (x == ("__debug__" : Str)) = false := by decide) (he : starEach (e :: es) X.env = (false, eval e X.env) :: starEach es X.env := by rfl) (hpl : (backTo pos (starEach es X.env)).any (·.1) = false := by rfl) :
    PE X (.Call (.Name x p) (e :: es) [] pos) (eOf X.K cm W (cMakeD c0 n m cs)) := ⟨fun pins s σ H Q I ⟨h, env, q, ex, S, R, hc, kq, kx⟩ => by
  refine wpAny_Call_Name_kw (ld_glob I hg hm ?_ hdb)
  refine PySem.W.callWith_K (h₀ := X.base) I.ok.mod.kin M.kp (thn (ha.run pos pins s σ H (fun Vs H1 => ∀ x dx, H1 x = none → H1 dx = none → dx ≠ x → spOf X.K cm n m (.ref x :: Vs) (upd (upd H1 dx (.own x)) x (.ins (cm c0) dx [])) (fun v H2 => v = .non ∧ Q (.ref x) H2) (WE W σ)) I
    ⟨h, env, _, ex, S, R, hc, fun H1 h1 xs Vs l1 S1 r1 c1 => sp_make S1 r1 c1.1 c1.2 (kq.mono l1) (kx.mono l1), kx⟩) fun us s1 ⟨vs, H1, I1, r, q⟩ => ⟨I1.kIn, ?_⟩) he hpl
  exact run_makeS M F hr hb (passAt tk σ) I1 r q⟩
theorem ce_makeD0 (M : Mk X.K (cm c0) f) (F : OkD X.prog X.w X.K X.mg X.base cm k f fd ps n m) (hr : Room (k + 1) X.A) (tk : Takes X W) (hg : Gl X x) (hm : X.mg x = some (.ref (cm c0))) (hb : Binds X.K fd ps [])
    (hdb : (x == ("__debug__" : Str)) = false := by decide) : PE X (.Call (.Name x p) [] [] pos) (eOf X.K cm W (cMakeD c0 n m cNil)) := ⟨fun pins s σ H Q I ⟨h, env, q, ex, S, R, hc, kq, kx⟩ => by
  refine wpAny_Call_Name_kw (ld_glob I hg hm ?_ hdb)
  refine PySem.W.callWith_K0 I.kIn M.kp (run_makeS (us := []) (vs := []) M F hr hb (passAt tk σ) I .nil ?_)
  exact sp_make S .nil hc.1 hc.2 kq kx⟩
/-- made, then never changed -/
theorem frz_ins {K : PySem.W.Frag} {H : Hp} {h : Wh} {a : Addr} {c : String} {fs : List (Str × Cv)} (S : Rst K cm H h) (e : h.c a = some (.ins c fs)) : RelC K cm H (wdel h a) (.ov c fs) (.ref a) := by
  obtain ⟨dx, fV, e1, r1⟩ := S.obj _ _ e
  exact .ov e1 (fun q => q.1 rfl) (r1.mono S (Le.freeze e))
theorem ce_makeV (M : Mk X.K (cm c0) f) (F : OkD X.prog X.w X.K X.mg X.base cm k f fd ps n m) (hr : Room (k + 1) X.A) (tk : Takes X W) (hg : Gl X x) (hm : X.mg x = some (.ref (cm c0))) (hb : Binds X.K fd ps [])
    (ha : PA X (e :: es) (aOf X.K cm W cs)) (hdb : (x == ("__debug__" : Str)) = false := by decide) (he : starEach (e :: es) X.env = (false, eval e X.env) :: starEach es X.env := by rfl) (hpl : (backTo pos (starEach es X.env)).any (·.1) = false := by rfl) :
    PE X (.Call (.Name x p) (e :: es) [] pos) (eOf X.K cm W (cMakeV c0 n m cs)) := weakE (fun σ H Q ⟨h, env, q, ex, S, R, hc, kq, kx⟩ =>
  ⟨h, env, fun x h1 => match x with | .ref a => (match h1 a with | some (.ins c fs) => q (.ov c fs) (cdel h1 a) | _ => False) | _ => False, ex, S, R, hc, fun H1 h1 y V l1 S1 r1 c1 => by
    cases r1 <;> first | exact c1.elim | skip
    next a =>
      dsimp only at c1
      split at c1
      · next c fs e => exact kq _ _ _ _ (l1.trans (Le.freeze e)) (S1.freeze e) (frz_ins S1 e) c1
      · exact c1.elim, kx⟩) (ce_makeD M F hr tk hg hm hb ha hdb he hpl)
/-! ### raise -/
def sRaise (c0 : String) : CS := fun env h R => R.ex (c0, []) env h
theorem cs_raise {mm : Str} {j : Nat} {p2 pos2 : Pos} (hc : X.calm = true) (tk : Takes X W) (ek : PySem.W.excIn X.K (cm c0) He.veBase "ValueError.__new__" = true ∧ PySem.W.keepIn X.K (.ref (cm c0)) = true ∧ PySem.W.subIn X.K (.ref (cm c0)) (.type "BaseException") = some true ∧ PySem.W.typeIn X.K (.ref (cm c0)) = some (.type "type"))
    (hg : Gl X x) (hm : X.mg x = some (.ref (cm c0))) (hdb : (x == ("__debug__" : Str)) = false := by decide) : PS X (.Raise (some (.Call (.Name x p) [.Constant (.str mm) j p2] [] pos2)) none pos) (sOf X.K cm W (sRaise c0)) :=
  weakS (fun D σ H ⟨h, env, R, S, RE, hcc, kn, kr, kb, kc, kx⟩ => kx _ _ _ _ _ _ _ .refl S RE ⟨rfl, .inl ⟨rfl, rfl⟩⟩ hcc) (ps_raise hc tk (pmk_own PySem.F.excBase_ValueError ek.1 hm ek.2.1 (raises_own ek.2.2.1 ek.2.2.2) hg hdb))
/-! ### try .. except X -/
theorem lookup_mem {α : Type} {n : String} {b : α} : ∀ {ks : List (String × α)}, ks.lookup n = some b → (n, b) ∈ ks
  | [], e => by cases e
  | (y1, y2) :: ys, e => by
    rw [List.lookup_cons] at e
    cases z : n == y1 with
    | true => rw [z] at e; cases e; rw [beq_iff_eq.mp z]; exact List.mem_cons_self ..
    | false => rw [z] at e; exact List.mem_cons_of_mem _ (lookup_mem e)
/-- ks: the classes that may come, and whether the clause takes them -/
def sTry (ks : List (String × Bool)) (cb cs : CS) : CS := fun env h R => cb env h { R with ex := fun x env1 h1 => match ks.lookup x.1 with
  | some true => cs env1 h1 { R with ex := fun _ _ _ => False }
  | some false => R.ex x env1 h1
  | none => False }
theorem cs_try {cn : Str} {ks : List (String × Bool)} {body suite : List Stmt} {b₀ : Stmt} {np pos' : Pos} {c : Value} {cb cs : CS} (hs : X.stack = X.env :: X.outer) (hf : X.env.frame = some X.env.locals) (hc : Names X cn c) (tk : Takes X W)
    (hk : ∀ n b, (n, b) ∈ ks → PySem.W.exmOne X.K (.ref (cm n)) c = some b)
    (hb : ∀ (W : WX) (pn : List (Addr × Obj)) (xe : Value → Shared → Prop), Takes (X.tr pn xe) W → PassesOwn (model X.prog X.w) X.A X.env xe → PSs (X.tr pn xe) body (sOf X.K cm W cb))
    (hsu : ∀ (a : Addr) (oe : Obj) (cls : Value) (d : Option Addr) (pn : List (Addr × Obj)), Zc cls d oe → (∃ vs, oe.data = .fields vs) → PSs (X.suite a ((a, oe) :: pn)) (b₀ :: suite) (sOf X.K cm W0 cs)) :
    PS X (.Try body [.ExceptHandler (some (.Name cn np)) none (b₀ :: suite) pos'] [] [] pos) (sOf X.K cm W (sTry ks cb cs)) :=
  weakS (fun D σ H ⟨h, env, R, S, RE, hcc, kn, kr, kb, kc, kx⟩ =>
    ⟨h, env, _, S, RE, hcc, kn, kr, kb, kc, fun H1 h1 env1 σ1 x cls d l S1 RE1 rx c1 => by
      have lk : ∀ b, ks.lookup x.1 = some b → PySem.W.exmOne X.K cls c = some b := fun b e => by
        rw [rx.1]
        exact hk _ _ (lookup_mem e)
      dsimp only at c1
      split at c1
      · next e => exact ⟨true, lk _ e, fun _ a na => ⟨h1, env1, _, S1, RE1, c1, kn.mono l, kr.mono l, kb.mono l, kc.mono l, fun _ _ _ _ _ _ _ _ _ _ _ z => z.elim⟩, fun z => (by cases z)⟩
      · next e => exact ⟨false, lk _ e, fun z => (by cases z), fun _ => kx _ _ _ _ _ _ _ l S1 RE1 rx c1⟩
      · exact c1.elim⟩) (ps_try_only hs hf hc tk hb hsu)
end
end Co
namespace Co
theorem hk_nil {K : PySem.W.Frag} {cm : String → PySem.Addr} {c : PySem.Value} : ∀ n b, (n, b) ∈ ([] : List (String × Bool)) → PySem.W.exmOne K (.ref (cm n)) c = some b := fun _ _ h => by cases h
theorem hk_cons {K : PySem.W.Frag} {cm : String → PySem.Addr} {c : PySem.Value} {n0 : String} {b0 : Bool} {ks : List (String × Bool)} (h0 : PySem.W.exmOne K (.ref (cm n0)) c = some b0) (h : ∀ n b, (n, b) ∈ ks → PySem.W.exmOne K (.ref (cm n)) c = some b) :
    ∀ n b, (n, b) ∈ (n0, b0) :: ks → PySem.W.exmOne K (.ref (cm n)) c = some b := fun n b hm => by
  rcases List.mem_cons.mp hm with e | e
  · cases e; exact h0
  · exact h n b e
end Co
end
section
/-! Core16: an error that is caught and kept; isinstance of it. -/
namespace Co
open PySem PySem.Spec PyProof.Rows L2
section
variable {X : Cx} {pins : List (Addr × Obj)} {σ : L2.St} {H : Hp} {a C : Addr}
/-- the error joins what is tracked -/
theorem adopt {sI s4 : Shared} {oe : Obj} {vs : Array Value} (I : Inv X pins σ H sI) (J : Inv X pins σ H s4) (hn : sI.heap.get? a = none) (he : s4.heap.get? a = some oe) (hc : oe.cls = .ref C) (hd : oe.dict = none) (hv : oe.data = .fields vs) (na : H a = none) (nL : a ≠ X.env.locals) :
    Inv (X.suite a (X.pn ++ pins)) [] σ (upd H a (exk a C)) s4 := by
  have ne : ∀ {b : Addr} {o : HO}, H b = some o → b ≠ a := fun e => ne_of_none e na
  refine ⟨J.ok.suite _ _, J.os, J.bare, ⟨J.base.keep, J.base.slot, fun b o e n hx => ?_, J.base.there, fun b xs e => ?_, fun b o u e => ?_, fun b ps e => ?_⟩, J.loc, J.cell, ?_, fun x c e => ?_, fun p hp => ?_, fun b o e => ?_, J.len⟩
  · obtain ⟨o', e'⟩ := I.base.there b o e hx
    have nb : b ≠ a := fun z => by rw [z, hn] at e'; cases e'
    show upd H a (exk a C) b = none
    rw [upd_ne nb]
    exact J.base.free b o e n hx
  · have q := J.base.tups b xs e
    show upd H a (exk a C) b = some _
    rw [upd_ne (ne q)]
    exact q
  · have q := J.base.frzs b o u e
    show upd H a (exk a C) b = some _
    rw [upd_ne (ne q)]
    exact q
  · obtain ⟨m, q⟩ := J.base.tbls b ps e
    exact ⟨m, by show upd H a (exk a C) b = some _; rw [upd_ne (ne q)]; exact q⟩
  · show upd H a (exk a C) X.env.locals = none
    rw [upd_ne (Ne.symm nL)]
    exact J.free
  · have nc : c ≠ a := fun z => by
      obtain ⟨v, o, ho, hd'⟩ := J.cell x c e
      rw [z, he] at ho
      cases ho
      rw [hv] at hd'
      cases hd'
    show upd H a (exk a C) c = none
    rw [upd_ne nc]
    exact J.freeC x c e
  · have hp' : p ∈ X.pn ++ pins := by rw [List.append_nil] at hp; exact hp
    have np : p.1 ≠ a := fun z => by
      have := (I.pin p hp').1
      rw [z, hn] at this
      cases this
    obtain ⟨h1, h2, h3⟩ := J.pin p hp'
    exact ⟨h1, by show upd H a (exk a C) p.1 = none; rw [upd_ne np]; exact h2, h3⟩
  · by_cases hb : b = a
    · subst hb
      rw [upd_same] at e
      cases e
      exact ⟨⟨oe, he, hc, hd, vs, hv⟩, ⟨oe, he⟩, fun h1 h2 ⟨o, q1, q2⟩ k => ⟨o, k _ q1, q2⟩⟩
    · rw [upd_ne hb] at e
      exact (J.hok b o e).stay (fun c v _ q => q) (fun c q => by rw [upd_ne (ne q)]; exact q) fun c xs q => by rw [upd_ne (ne q)]; exact q
theorem unadopt {s : Shared} (ok : X.Ok) (I : Inv (X.suite a (X.pn ++ pins)) [] σ H s) : Inv X pins σ H s :=
  ⟨ok, I.os, I.bare, I.base, I.loc, I.cell, I.free, I.freeC, fun p hp => I.pin p (List.mem_append_left _ hp), I.hok, I.len⟩
/-- what the clause wishes -/
def wKeep (K : PySem.W.Frag) (c : Value) (i : Nat) (ts : Addr → Addr → TS) (Wout : WX) (D : Ends) : WX := fun cls d σ H =>
  ∃ b, PySem.W.exmOne K cls c = some b ∧ (b = true → d = none ∧ ∃ C, cls = .ref C ∧ ∀ a, H a = none →
      ts a C { nx := fun σ' H' => D.nx (σ'.set i none) H', rt := D.rt, bk := fun σ' H' => D.bk (σ'.set i none) H', ct := fun σ' H' => D.ct (σ'.set i none) H' } (σ.set i (some (.ref a))) (upd H a (exk a C))) ∧
    (b = false → Wout cls d σ H)
end
section
variable {X : Cx} {x n : Str} {c : Value} {i : Nat} {body suite : List Stmt} {b₀ : Stmt} {np pos pos' : Pos} {tb : WX → TS} {ts : Addr → Addr → TS} {Wout : WX}
theorem sky_none {B : Heap} {l : List Env} {a L : Addr} {Z : Obj → Prop} {h : Heap} (k : Sky B l a Z L h) : B.get? a = none := by
  rcases k with k | k | k
  · exact k.2.1
  · exact k.2.1
  · exact k.2.1
/-- try: .. except x as n: .. : n's object may be handed on -/
theorem ps_try_keep (hs : X.stack = X.env :: X.outer) (hf : X.env.frame = some X.env.locals) (hN : X.N.Nodup) (hi : X.N[i]? = some n) (hln : X.env.kindOf n = some .local) (hc : Names X x c) (tk : L2.Takes X Wout)
    (hb : ∀ (W : WX) (pn : List (Addr × Obj)) (xe : Value → Shared → Prop), L2.Takes (X.tr pn xe) W → PassesOwn (model X.prog X.w) X.A X.env xe → PSs (X.tr pn xe) body (tb W))
    (hsu : ∀ (a C : Addr) (pn : List (Addr × Obj)), PSs (X.suite a pn) (b₀ :: suite) (ts a C)) :
    PS X (.Try body [.ExceptHandler (some (.Name x np)) (some n) (b₀ :: suite) pos'] [] [] pos) (fun D σ H => tb (wKeep X.K c i ts Wout D) D σ H) := by
  refine ⟨fun pins s σ H D I h => ?_⟩
  have ok := I.ok
  have hfr : X.A.frames = some (X.env :: X.outer) := by rw [ok.frames, hs]
  refine wpAny_Try_except ?_
  refine wpAny_mono ((hb (wKeep X.K c i ts Wout D) (X.pn ++ pins) (fun e s₁ => wpAny (model X.prog X.w) X.A (noteFrame e X.env) (fun _ s₂ => wpAny (model X.prog X.w) X.A (setFlight e none) (fun _ s₃ =>
    wpAny (model X.prog X.w) X.A (handleBy e X.env [.ExceptHandler (some (.Name x np)) (some n) (b₀ :: suite) pos']) (SP X pins D) X.xe s₃) X.xe s₂) X.xe s₁) (fun u s' xx => ?_) PassesOwn.looking).run [] s σ H D (I.toTry _) h) (fun f s1 hsp => ?_) (fun e s1 he => he)
  · obtain ⟨a, B, sI, pins', σ', H', cls, d, rfl, J', nb, up, sky, na, os, ag, w⟩ := xx
    have J : Inv X pins σ' H' sI := J'.ofTry ok
    have sky' : Sky B (X.env :: X.outer) a (Zc cls d) X.env.locals s'.heap := by rw [← hs]; exact sky
    have nB : B.get? a = none := sky_none sky
    refine Sky.land Zc.steady hfr hf sky' fun h3 fl3 up3 => ?_
    have J3 : Inv X pins σ' H' { s' with heap := h3 } := J.landed nb fl3.1 (up.trans up3) os ag
    obtain ⟨oe3, vs3, he3, hz3, hd3⟩ := fl3.there
    have nfr : a ∉ frs (X.env :: X.outer) := fun hm => by
      obtain ⟨_, o', e', hnf⟩ := fl3.2.2.1.mem hm
      rw [he3] at e'
      cases e'
      exact hnf _ hd3
    have nL : a ≠ X.env.locals := fun z => nfr (List.mem_filterMap.mpr ⟨X.env, List.mem_cons_self, by rw [hf, z]⟩)
    have nF : a ∉ X.fs := fun hm => by
      obtain ⟨e, he, q⟩ := List.mem_filterMap.mp hm
      exact nfr (List.mem_filterMap.mpr ⟨e, List.mem_cons_of_mem _ he, q⟩)
    have hn : sI.heap.get? a = none := by
      cases q : sI.heap.get? a with
      | none => rfl
      | some o =>
        have := nb a o q (by rw [hs]; exact nfr)
        rw [nB] at this
        cases this
    obtain ⟨b, hb1, hyes, hno⟩ := w
    refine wpAny_handleBy_cons (codeAny_handlers_test ?_) (by intro q; cases q)
    have LT : PySem.W.Looks (model X.prog X.w) h3 (typeOf (.ref a)) cls := fun A Q E s k q => wpAny_typeOf_ref (k _ _ he3) (by rw [hz3.1]; exact q)
    have LM := PySem.W.exm_one (M := model X.prog X.w) (J3.kIn) LT hb1
    have S3 := J3.suite he3 hd3 na nL nF
    have look : ∀ {Q : Value → Shared → Prop} {E : Value → Shared → Prop}, Q c { s' with heap := h3 } → wpAny (model X.prog X.w) (X.A.mark (some (.ref a))) (eval (.Name x np) X.env) Q E { s' with heap := h3 } := fun {Q E} q => by
      obtain ⟨hg, hdbg, hm | ⟨hm, hv, hnn⟩⟩ := hc
      · exact ld_glob (X := X.suite a ((a, oe3) :: (X.pn ++ pins))) S3 hg hm q hdbg
      · exact ld_blt (X := X.suite a ((a, oe3) :: (X.pn ++ pins))) S3 hg hm hv q hnn hdbg
    refine look (LM.here ?_)
    cases b with
    | true =>
      obtain ⟨rfl, C, rfl, go⟩ := hyes rfl
      refine codeAny_handlers_suite_as ?_
      refine HandSPX.lands_againZ fl3 fun h4 fl4 up4 => ?_
      have J4 : Inv X pins σ' H' { s' with heap := h4 } := J.landed nb fl4.1 ((up.trans up3).trans up4) os ag
      obtain ⟨oe4, vs4, he4, hz4, hd4⟩ := fl4.there
      have S4 := adopt J J4 hn he4 hz4.1 hz4.2 hd4 na nL
      refine store_ok (X := X.suite a (X.pn ++ pins)) (v := .ref a) S4 hN hi (.inl hln) rfl (fun s5 S5 => ?_) (.inr hln)
      refine wpAny_mono ((hsu a C (X.pn ++ pins)).run [] s5 _ _ _ S5 (go a na)) (fun f s6 hsp => ?_) (fun _ _ z => False.elim z)
      have fin : ∀ {σ6 : L2.St} {H6 : Hp} {Q : Shared → Prop}, Inv (X.suite a (X.pn ++ pins)) [] σ6 H6 s6 → (∀ s7, Inv X pins (σ6.set i none) H6 s7 → Q s7) →
          wpAny (model X.prog X.w) X.A (do bindName X.env n .none; unbindBehindTheSuite X.env n pos') (fun _ s7 => Q s7) X.xe s6 := fun {σ6 H6 Q} S6 hq => gone_ok (unadopt ok S6) hN hi hln hq
      cases f with
      | next => obtain ⟨σ6, H6, S6, q6⟩ := hsp; exact fin S6 fun s7 J7 => ⟨_, _, J7, q6⟩
      | brk => obtain ⟨σ6, H6, S6, q6⟩ := hsp; exact fin S6 fun s7 J7 => ⟨_, _, J7, q6⟩
      | cont => obtain ⟨σ6, H6, S6, q6⟩ := hsp; exact fin S6 fun s7 J7 => ⟨_, _, J7, q6⟩
      | ret u => obtain ⟨v6, σ6, H6, S6, r6, q6⟩ := hsp; exact fin S6 fun s7 J7 => ⟨_, _, _, J7, r6, q6⟩
    | false =>
      refine wpAny_handleBy_nil ?_
      obtain ⟨k1, k2, k3, oe, vs, T, oT, ts', he, hz, hd, h1, hr⟩ := id fl3
      unfold PySem.passOn
      refine wpAny_bind (wpAny_field he hd h1 ?_)
      rw [if_neg (show ¬ ((Value.ref T == Value.none) = true) from by simp)]
      have on : wpAny (model X.prog X.w) X.A (setFlight (.ref a) X.env.frame) (fun _ s4 => wpAny (model X.prog X.w) X.A (throw (.ref a) : Sem Flow) (SP X pins D) X.xe s4) X.xe { s' with heap := h3 } := by
        rw [hf]
        refine HandSPX.setFlight_upZ fl3 fun h4 hh4 up4 => wpAny_throw (tk _ _ ?_)
        exact ⟨a, B, sI, pins, σ', H', cls, d, rfl, J, nb, (up.trans up3).trans up4, .inr (.inr (by rw [hs]; exact hh4)), na, os, ag, hno rfl⟩
      first
        | exact wpAny_bind (wpAny_pure (wpAny_bind on))
        | exact wpAny_bind on
  · cases f with
    | next => obtain ⟨σ', H', J', q⟩ := hsp; exact wpAny_execs_nil ⟨σ', H', J'.ofTry ok, q⟩
    | brk => obtain ⟨σ', H', J', q⟩ := hsp; exact ⟨σ', H', J'.ofTry ok, q⟩
    | cont => obtain ⟨σ', H', J', q⟩ := hsp; exact ⟨σ', H', J'.ofTry ok, q⟩
    | ret u => obtain ⟨v, σ', H', J', r, q⟩ := hsp; exact ⟨v, σ', H', J'.ofTry ok, r, q⟩
end

/-! ### try .. except X as n -/
/-- ks: the classes that may come, and whether the clause takes them; i: n's slot -/
def sTryAs (ks : List (String × Bool)) (i : Nat) (cb cs : CS) : CS := fun env h R => cb env h { R with ex := fun x env1 h1 => match ks.lookup x.1 with
  | some true => x.2 = [] ∧ ∀ a, h1 a = none → cs (env1.set i (some (.ref a))) (cup h1 a (.exc x.1)) { nx := fun e g => R.nx (e.set i none) g, rt := R.rt, bk := fun e g => R.bk (e.set i none) g, ct := fun e g => R.ct (e.set i none) g, ex := fun _ _ _ => False }
  | some false => R.ex x env1 h1
  | none => False }
section
variable {X : Cx} {n : Str} {i : Nat} {cm : String → Addr} {W : WX} {pos : Pos}
theorem cs_tryAs {cn : Str} {ks : List (String × Bool)} {body suite : List Stmt} {b₀ : Stmt} {np pos' : Pos} {c : Value} {cb cs : CS} (hN : X.N.Nodup) (hi : X.N[i]? = some n) (hs : X.stack = X.env :: X.outer) (hf : X.env.frame = some X.env.locals) (hln : X.env.kindOf n = some .local) (hc : Names X cn c) (tk : L2.Takes X W)
    (hk : ∀ n b, (n, b) ∈ ks → PySem.W.exmOne X.K (.ref (cm n)) c = some b)
    (hb : ∀ (W : WX) (pn : List (Addr × Obj)) (xe : Value → Shared → Prop), L2.Takes (X.tr pn xe) W → PassesOwn (model X.prog X.w) X.A X.env xe → PSs (X.tr pn xe) body (sOf X.K cm W cb))
    (hsu : ∀ (a : Addr) (pn : List (Addr × Obj)), PSs (X.suite a pn) (b₀ :: suite) (sOf X.K cm W0 cs)) :
    PS X (.Try body [.ExceptHandler (some (.Name cn np)) (some n) (b₀ :: suite) pos'] [] [] pos) (sOf X.K cm W (sTryAs ks i cb cs)) :=
  weakS (fun D σ H ⟨h, env, R, S, RE, hcc, kn, kr, kb, kc, kx⟩ =>
    ⟨h, env, _, S, RE, hcc, kn, kr, kb, kc, fun H1 h1 env1 σ1 x cls d l S1 RE1 rx c1 => by
      have lk : ∀ b, ks.lookup x.1 = some b → PySem.W.exmOne X.K cls c = some b := fun b e => by
        rw [rx.1]
        exact hk _ _ (lookup_mem e)
      dsimp only at c1
      split at c1
      · next e =>
        obtain ⟨x0, c1⟩ := c1
        refine ⟨true, lk _ e, fun _ => ?_, fun z => (by cases z)⟩
        rcases rx.2 with ⟨_, hd⟩ | ⟨_, _, z, _⟩
        · refine ⟨hd, cm x.1, rx.1, fun a na => ?_⟩
          have n1 : h1.c a = none := S1.dead na
          have l2 : Le H1 h1 (upd H1 a (exk a (cm x.1))) (wup h1 a (.exc x.1)) := Le.new S1 na
          have S2 : Rst X.K cm (upd H1 a (exk a (cm x.1))) (wup h1 a (.exc x.1)) := Rst.new S1 na upd_same
          have R2 : REnv X.K cm (upd H1 a (exk a (cm x.1))) (wup h1 a (.exc x.1)) (env1.set i (some (.ref a))) (σ1.set i (some (.ref a))) := (RE1.mono S1 l2).set i (.ref a)
          exact ⟨_, _, _, S2, R2, c1 a n1, fun H3 h3 e3 σ3 l3 S3 R3 q => kn _ _ _ _ ((l.trans l2).trans l3) S3 (R3.unset i) q, fun H3 h3 z V l3 S3 r3 q => kr _ _ _ _ ((l.trans l2).trans l3) S3 r3 q,
            fun H3 h3 e3 σ3 l3 S3 R3 q => kb _ _ _ _ ((l.trans l2).trans l3) S3 (R3.unset i) q, fun H3 h3 e3 σ3 l3 S3 R3 q => kc _ _ _ _ ((l.trans l2).trans l3) S3 (R3.unset i) q, fun _ _ _ _ _ _ _ _ _ _ _ z => z.elim⟩
        · exact (z x0).elim
      · next e => exact ⟨false, lk _ e, fun z => (by cases z), fun _ => kx _ _ _ _ _ _ _ l S1 RE1 rx c1⟩
      · exact c1.elim⟩) (ps_try_keep hs hf hN hi hln hc tk hb fun a _ pn => hsu a pn)
end
/-! ### isinstance of a kept error -/
/-- isinstance(e, T), isinstance(e, (T1, T2, ..)) -/
def rIsX (K : PySem.W.Frag) : List V → Hp → VK → Prop := fun xs H Q => ∃ (a C : Addr) (c : V) (u : Value) (b : Bool), xs = [.ref a, c] ∧ H a = some (exk a C) ∧ ExcC K C ∧ ClsV c u ∧ PySem.W.kitOne K (.ref C) u = some b ∧ Q (.bl b) H
def rIsXT (K : PySem.W.Frag) : List V → Hp → VK → Prop := fun xs H Q => ∃ (a C tp : Addr) (cs : List V) (us : List Value) (b : Bool), xs = [.ref a, .ref tp] ∧ H a = some (exk a C) ∧ ExcC K C ∧ H tp = some (.tup cs) ∧ Paired ClsV cs us ∧ PySem.W.kitAny K (.ref C) us = some b ∧ Q (.bl b) H
section
variable {X : Cx}
theorem exk_at {P : Program} {w : World} {H : Hp} {h : Heap} {a C : Addr} (hok : HOk P w H h) (e : H a = some (exk a C)) : ∃ oe, PySem.W.InstAt h a oe C none := by
  have x : ObjOk P w H h a (.ext fun h => ∃ oe : Obj, h.get? a = some oe ∧ oe.cls = .ref C ∧ oe.dict = none ∧ ∃ vs, oe.data = .fields vs) := hok a _ e
  obtain ⟨⟨oe, h1, h2, h3, vs, h4⟩, _⟩ := x
  refine ⟨oe, ?_⟩
  obtain ⟨oc, od, oda, osl⟩ := oe
  dsimp only at h2 h3 h4
  subst h2 h3 h4
  exact ⟨h1, rfl, rfl, trivial⟩
theorem call_isX : CallR X (.builtin "isinstance") (rIsX X.K) := by
  intro pins s σ H xs us Q I r h
  obtain ⟨a, C, c, u, b, rfl, ea, T, k, e, q⟩ := h
  obtain ⟨u1, u2, rfl, r1, r2⟩ := vals2 r
  cases (show u1 = Value.ref a from r1)
  have e2 := k.eq r2
  subst e2
  obtain ⟨oe, J⟩ := exk_at I.hok ea
  exact PySem.W.kia_one (PySem.W.handS_kitx_exc T.hg T.hk T.hs T.hd T.ha T.hn T.ht T.hm) I.kIn J e (fun z => nomatch z) fun tk => ⟨.bl b, H, I.tok tk, rfl, q⟩
theorem call_isXT : CallR X (.builtin "isinstance") (rIsXT X.K) := by
  intro pins s σ H xs us Q I r h
  obtain ⟨a, C, tp, cs, ws, b, rfl, ea, T, hT, k, e, q⟩ := h
  obtain ⟨u1, u2, rfl, r1, r2⟩ := vals2 r
  cases (show u1 = Value.ref a from r1)
  cases (show u2 = Value.ref tp from r2)
  obtain ⟨oe, J⟩ := exk_at I.hok ea
  obtain ⟨_, its, rv, o, h1, h2, n, h3⟩ := (show ObjOk X.prog X.w H s.heap tp (.tup cs) from I.hok tp _ hT)
  have e3 := ClsV.all k rv
  subst e3
  obtain ⟨oc, od, dt, sl⟩ := o
  simp only at h2 h3
  subst h2 h3
  exact PySem.W.kia_tup (PySem.W.handS_kitx_exc T.hg T.hk T.hs T.hd T.ha T.hn T.ht T.hm) I.kIn J h1 e (fun z => nomatch z) fun tk => ⟨.bl b, H, I.tok tk, rfl, q⟩
end
/-- ms: what is said of each class that may come -/
def gIsX (ms : List (String × Bool)) (x : Cv) (h : CH) (q : Cv → CH → Prop) : Prop := match x with
  | .ref a => (match h a with
    | some (.exc c) => (match ms.lookup c with
      | some b => q (.bl b) h
      | none => False)
    | _ => False)
  | _ => False
def cIsX (ms : List (String × Bool)) (ca : CT) : CT := fun env h q e => ca env h (fun x h1 => gIsX ms x h1 q) e
section
variable {X : Cx} {cm : String → Addr} {W : WX} {e : Expr} {ca : CT} {p pos : Pos}
theorem gIsX_inv {ms : List (String × Bool)} {x : Cv} {h : CH} {q : Cv → CH → Prop} (c : gIsX ms x h q) : ∃ a n b, x = .ref a ∧ h a = some (.exc n) ∧ (n, b) ∈ ms ∧ q (.bl b) h := by
  unfold gIsX at c
  split at c
  · next a =>
    split at c
    · next n e =>
      split at c
      · next b e2 => exact ⟨a, n, b, rfl, e, lookup_mem e2, c⟩
      · exact c.elim
    · exact c.elim
  · exact c.elim
/-- a name that stands for a class -/
def ClsN (X : Cx) (Tx : Str) (c : V) (u : Value) : Prop := ClsV c u ∧ ∀ p2 : Pos, PE X (.Name Tx p2) (tC c)
theorem clsN_own {Tx : Str} {a : Addr} (gT : Gl X Tx) (mT : X.mg Tx = some (.ref a)) (hdT : (Tx == ("__debug__" : Str)) = false := by decide) : ClsN X Tx (.ref a) (.ref a) := ⟨.own a, fun _ => pe_glob gT mT rfl hdT⟩
theorem clsN_blt {Tx : Str} {T : String} (gT : Gl X Tx) (mT : X.mg Tx = none) (bT : bootBuiltins Tx = some (.type T)) (hnT : Tx ≠ "__name__" := by decide) (hdT : (Tx == ("__debug__" : Str)) = false := by decide) : ClsN X Tx (.ty T) (.type T) := ⟨.ty T, fun _ => pe_bltn gT mT bT (v := .ty T) rfl hnT hdT⟩
theorem ce_isX {ms : List (String × Bool)} {Tx : Str} {c : V} {u : Value} {p2 : Pos} (gi : Gl X "isinstance") (mi : X.mg "isinstance" = none) (hT : ClsN X Tx c u) (ha : PE X e (eOf X.K cm W ca))
    (hm : ∀ n b, (n, b) ∈ ms → ExcC X.K (cm n) ∧ PySem.W.kitOne X.K (.ref (cm n)) u = some b)
    (bi : bootBuiltins "isinstance" = some (.builtin "isinstance") := by decide +kernel)
    (hs2 : starEach [.Name Tx p2] X.env = (false, eval (.Name Tx p2) X.env) :: starEach [] X.env := by rfl)
    (he : starEach (e :: [.Name Tx p2]) X.env = (false, eval e X.env) :: starEach [.Name Tx p2] X.env := by rfl) (hpl : (backTo pos (starEach [.Name Tx p2] X.env)).any (·.1) = false := by rfl) :
    PE X (.Call (.Name "isinstance" p) [e, .Name Tx p2] [] pos) (eOf X.K cm W (cIsX ms ca)) := weakE (fun σ H Q ⟨h, env, q, ex, S, R, hc, k, kx⟩ =>
  ⟨h, env, _, ex, S, R, hc, fun H1 h1 x V l1 S1 r1 c1 => by
    obtain ⟨a, n, b, rfl, e1, hmem, c2⟩ := gIsX_inv c1
    cases r1
    exact ⟨a, cm n, c, u, b, rfl, S1.obj _ _ e1, (hm n b hmem).1, hT.1, (hm n b hmem).2, k _ _ _ _ l1 S1 (.bl _) c2⟩, kx⟩)
  (pe_callB call_isX gi mi bi (pa_cons ha (pa_cons (hT.2 p2) pa_nil hs2) he) (by decide) (by decide) he hpl)
/-- several classes, as a tuple -/
def tCs : List V → TA
  | [] => tNil
  | c :: cs => tCons (tC c) (tCs cs)
theorem tCs_run {σ : L2.St} {H : Hp} {Q : List V → Hp → Prop} : ∀ cs : List V, tCs cs σ H Q = Q cs H
  | [] => rfl
  | c :: cs => tCs_run (Q := fun xs H2 => Q (c :: xs) H2) cs
inductive ClsNs (X : Cx) : List Expr → List V → List Value → Prop
  | nil : ClsNs X [] [] []
  | cons {Tx : Str} {p2 : Pos} {c : V} {u : Value} {es : List Expr} {cs : List V} {us : List Value} (h : ClsN X Tx c u) (t : ClsNs X es cs us) (hs : starEach (.Name Tx p2 :: es) X.env = (false, eval (.Name Tx p2) X.env) :: starEach es X.env := by rfl) : ClsNs X (.Name Tx p2 :: es) (c :: cs) (u :: us)
theorem ClsNs.pa : ∀ {es : List Expr} {cs : List V} {us : List Value}, ClsNs X es cs us → PA X es (tCs cs)
  | _, _, _, .nil => pa_nil
  | _, _, _, .cons h t hs => pa_cons (h.2 _) t.pa hs
theorem ClsNs.pr : ∀ {es : List Expr} {cs : List V} {us : List Value}, ClsNs X es cs us → Paired ClsV cs us
  | _, _, _, .nil => .nil
  | _, _, _, .cons h t _ => .cons h.1 t.pr
theorem ClsNs.len : ∀ {es : List Expr} {cs : List V} {us : List Value}, ClsNs X es cs us → cs.length = es.length
  | _, _, _, .nil => rfl
  | _, _, _, .cons h t _ => congrArg Nat.succ t.len
theorem ce_isXT {ms : List (String × Bool)} {es : List Expr} {cs : List V} {us : List Value} {x1 : _} {p2 : Pos} (gi : Gl X "isinstance") (mi : X.mg "isinstance" = none) (hT : ClsNs X es cs us) (ha : PE X e (eOf X.K cm W ca))
    (hm : ∀ n b, (n, b) ∈ ms → ExcC X.K (cm n) ∧ PySem.W.kitAny X.K (.ref (cm n)) us = some b) (hl : es.length ≤ 100 := by decide)
    (bi : bootBuiltins "isinstance" = some (.builtin "isinstance") := by decide +kernel)
    (hs2 : starEach [.Tuple es x1 p2] X.env = (false, eval (.Tuple es x1 p2) X.env) :: starEach [] X.env := by rfl)
    (he : starEach (e :: [.Tuple es x1 p2]) X.env = (false, eval e X.env) :: starEach [.Tuple es x1 p2] X.env := by rfl) (hpl : (backTo pos (starEach [.Tuple es x1 p2] X.env)).any (·.1) = false := by rfl) :
    PE X (.Call (.Name "isinstance" p) [e, .Tuple es x1 p2] [] pos) (eOf X.K cm W (cIsX ms ca)) := weakE (fun σ H Q ⟨h, env, q, ex, S, R, hc, k, kx⟩ =>
  ⟨h, env, _, ex, S, R, hc, fun H1 h1 x V l1 S1 r1 c1 => by
    obtain ⟨a, n, b, rfl, e1, hmem, c2⟩ := gIsX_inv c1
    cases r1
    have ea : H1 a = some (exk a (cm n)) := S1.obj _ _ e1
    show tCs cs σ H1 (fun xs H2 => xs.length ≤ sizeLine ∧ ∀ p, H2 p = none → rIsXT X.K [V.ref a, V.ref p] (upd H2 p (.tup xs)) Q)
    rw [tCs_run]
    refine ⟨by rw [hT.len, sizeLine_eq]; omega, fun tp n2 => ?_⟩
    have ne : a ≠ tp := ne_of_none ea n2
    exact ⟨a, cm n, tp, cs, us, b, rfl, by rw [upd_ne ne]; exact ea, (hm n b hmem).1, upd_same, hT.pr, (hm n b hmem).2, k _ _ _ _ (l1.trans (Le.plain S1 n2)) (Rst.plain S1 n2) (.bl _) c2⟩, kx⟩)
  (pe_callB call_isXT gi mi bi (pa_cons ha (pa_cons (pe_tup hT.pa) pa_nil hs2) he) (by decide) (by decide) he hpl)
end
end Co
namespace Lw
open PySem PySem.Spec L2 Co
/-! ### more facts -/
/-- what the class D must say, as a Bool -/
def excB (K : PySem.W.Frag) (D : Addr) : Bool :=
  decide (PySem.W.findIn K (.ref D) "__getattribute__" = some (some (.builtin "BaseException.__getattribute__"))) && (decide (PySem.W.findIn K (.ref D) "__getattr__" = some none) && (decide (PySem.W.subIn K (.ref D) (.type "BaseException") = some true) && (PySem.W.hasDictIn K D &&
  (decide (PySem.W.findIn K (.ref D) "__class__" = some (some (.builtin "object.__class__"))) && (decide (PySem.W.specialIn K (.builtin "object.__class__") "__get__" = some (some (.builtin "getset_descriptor.__get__"))) && (decide (PySem.W.takesIn K (.builtin "object.__class__") = some true) && decide (PySem.W.mroIn K D (.type "object") = some true)))))))
theorem excB_ok {K : PySem.W.Frag} {D : Addr} (h : excB K D = true) : ExcC K D := by
  unfold excB at h
  simp only [Bool.and_eq_true, decide_eq_true_eq] at h
  obtain ⟨h1, h2, h3, h4, h5, h6, h7, h8⟩ := h
  exact ⟨h1, h2, h3, h4, h5, h6, h7, h8⟩
inductive Fb where
  | exc (x : Str)
  | kit (x y : Str) (b : Bool)
  | kitT (x : Str) (T : String) (b : Bool)
  | tup (x : Str) (vs : List He.Dv)
  | isc (x : Str)
  | kitN (T : String) (x : Str) (b : Bool)
def Fb.ok (K : PySem.W.Frag) : Fb → Bool
  | .exc x => excB K (He.ga K x)
  | .kit x y b => decide (PySem.W.kitOne K (.ref (He.ga K x)) (.ref (He.ga K y)) = some b)
  | .kitT x T b => decide (PySem.W.kitOne K (.ref (He.ga K x)) (.type T) = some b)
  | .tup x vs => He.tupB K x vs && (match K.lookup (He.ga K x) with | some o => o.dict.isNone | none => false)
  | .isc x => decide (PySem.W.findIn K (.ref (He.ga K x)) "__class__" = some (some (.builtin "object.__class__"))) && (decide (PySem.W.specialIn K (.builtin "object.__class__") "__get__" = some (some (.builtin "getset_descriptor.__get__"))) &&
      (decide (PySem.W.takesIn K (.builtin "object.__class__") = some true) && decide (PySem.W.mroIn K (He.ga K x) (.type "object") = some true)))
  | .kitN T x b => decide (PySem.W.kitOne K (.type T) (.ref (He.ga K x)) = some b)
def SaysE (fa : List He.Fa) (fn : List He.DefD) (fb : List Fb) (K : PySem.W.Frag) : Prop := He.SaysD fa fn K ∧ (fb.all fun f => f.ok K) = true
abbrev AlE : Type := He.AlD × Bool
def obsE (fa : List He.Fa) (fn : List He.DefD) (fb : List Fb) (K : PySem.W.Frag) : AlE := (He.obsD fa fn K, fb.all fun f => f.ok K)
def valE (fn : List He.DefD) : AlE := (He.valD fn, true)
def obsEG (n : Nat) (fa : List He.Fa) (fn : List He.DefD) (fb : List Fb) (g : Addr → Option Obj) : AlE := obsE fa fn fb (He.frG g (He.asD g n))
theorem saysE_of {fa : List He.Fa} {fn : List He.DefD} {fb : List Fb} {K : PySem.W.Frag} (e : obsE fa fn fb K = valE fn) : SaysE fa fn fb K := ⟨congrArg (fun z : AlE => z.1) e, congrArg (fun z : AlE => z.2) e⟩
def hookE (n : Nat) (fa : List He.Fa) (fn : List He.DefD) (fb : List Fb) : PySem.W.Hook where
  α := AlE
  obs := fun s => obsEG n fa fn fb s.heap.get?
  val := fun _ => valE fn
  says := fun _ h => ∃ K : PySem.W.Frag, K.In h ∧ SaysE fa fn fb K
  of := fun _ _ e => ⟨_, He.frG_in, saysE_of e⟩
  keeps := fun _ _ _ ⟨K, hK, c⟩ k => ⟨K, PySem.W.Frag.In.keeps hK k, c⟩
theorem obsEG_eq {n : Nat} {fa : List He.Fa} {fn : List He.DefD} {fb : List Fb} {g : Addr → Option Obj} {s : Shared} (h : ∀ a, g a = s.heap.get? a) : obsEG n fa fn fb g = (hookE n fa fn fb).obs s := by
  have e : g = s.heap.get? := funext h
  rw [e] <;> rfl
section
variable {fa : List He.Fa} {fn : List He.DefD} {fb : List Fb} {K : PySem.W.Frag}
theorem SaysE.fact (c : SaysE fa fn fb K) (i : Nat) {f : He.Fa} (h : fa[i]? = some f := by rfl) : f.ok K = true := He.SaysD.fact c.1 i h
theorem SaysE.def_ (c : SaysE fa fn fb K) (i : Nat) {d : He.DefD} (h : fn[i]? = some d := by rfl) : ∃ fd, FunD K d.name d.qual d.params d.body d.scope (d.dvs K) (d.kws K) (He.fAd K d.at_) fd := He.SaysD.def_ c.1 i h
theorem SaysE.more (c : SaysE fa fn fb K) (i : Nat) {f : Fb} (h : fb[i]? = some f := by rfl) : f.ok K = true := List.all_eq_true.mp c.2 f (List.mem_of_getElem? h)
theorem fb_exc {x : Str} (c : (Fb.exc x).ok K = true) : ExcC K (He.ga K x) := excB_ok c
theorem fb_kit {x y : Str} {b : Bool} (c : (Fb.kit x y b).ok K = true) : PySem.W.kitOne K (.ref (He.ga K x)) (.ref (He.ga K y)) = some b := of_decide_eq_true c
theorem fb_kitT {x : Str} {T : String} {b : Bool} (c : (Fb.kitT x T b).ok K = true) : PySem.W.kitOne K (.ref (He.ga K x)) (.type T) = some b := of_decide_eq_true c
theorem fb_tup {x : Str} {vs : List He.Dv} (c : (Fb.tup x vs).ok K = true) (H : Hp) : SqT K H (He.ga K x) (vs.map (He.Dv.v K)) ∧ Co.Dl K H (He.ga K x) := by
  have c' : (He.tupB K x vs && (match K.lookup (He.ga K x) with | some o => o.dict.isNone | none => false)) = true := c
  rw [Bool.and_eq_true] at c'
  obtain ⟨c1, c2⟩ := c'
  refine ⟨He.tupB_ok c1 H, .inr ?_⟩
  cases e : K.lookup (He.ga K x) with
  | none => rw [e] at c2; cases c2
  | some o =>
    rw [e] at c2
    exact ⟨o, rfl, by simpa using c2⟩
end
theorem kany_nil {K : PySem.W.Frag} {t : Value} : PySem.W.kitAny K t [] = some false := rfl
theorem kany_no {K : PySem.W.Frag} {t c : Value} {cs : List Value} {r : Bool} (h : PySem.W.kitOne K t c = some false) (t2 : PySem.W.kitAny K t cs = some r) : PySem.W.kitAny K t (c :: cs) = some r := kitAny_cons h (fun _ => t2) fun z => (by cases z)
theorem kany_yes {K : PySem.W.Frag} {t c : Value} {cs : List Value} (h : PySem.W.kitOne K t c = some true) : PySem.W.kitAny K t (c :: cs) = some true := kitAny_cons h (fun z => (by cases z)) fun _ => rfl
theorem hm_nil {P : String → Bool → Prop} : ∀ n b, (n, b) ∈ ([] : List (String × Bool)) → P n b := fun _ _ h => by cases h
theorem hm_cons {P : String → Bool → Prop} {n0 : String} {b0 : Bool} {ms : List (String × Bool)} (h0 : P n0 b0) (h : ∀ n b, (n, b) ∈ ms → P n b) : ∀ n b, (n, b) ∈ (n0, b0) :: ms → P n b := fun n b hm => by
  rcases List.mem_cons.mp hm with e | e
  · cases e; exact h0
  · exact h n b e
end Lw
end
section
/-! Core17: list.count, list.index, of flat items. -/
namespace Co
open PySem PySem.Spec PyProof.Rows L2
section
variable {X : Cx}
def rCount (K : PySem.W.Frag) : V → List V → Hp → VK → Prop := fun x xs H Q => ∃ (a : Addr) (ys : List V) (y : V), x = V.ref a ∧ xs = [y] ∧ SqL K H a ys ∧ flatV y = true ∧ ys.all flatV = true ∧ Q (.int (ys.countP fun z => eqV z y : Nat)) H
theorem countP_vals {y : V} {uy : Value} (ry : RelV y uy) : ∀ {ys : List V} {its : List Value}, Vals ys its → ys.all flatV = true → its.countP (eqU y) = ys.countP fun z => eqV z y
  | _, _, .nil, _ => rfl
  | z :: ys, u :: its, .cons r t, f => by
    rw [List.all_cons, Bool.and_eq_true] at f
    rw [List.countP_cons, List.countP_cons, countP_vals ry t f.2, eqU_of r f.1]
theorem mt_count : MtR X "list.count" (rCount X.K) := by
  intro pins s σ H x xs v us Q I rx rxs h
  obtain ⟨a, ys, y, rfl, rfl, hs, fy, fys, q⟩ := h
  cases rx
  cases rxs with
  | cons ry rt =>
    rename_i uy ut
    cases rt
    obtain ⟨its, rv, ⟨⟨cls, dd, data, sl⟩, n, ho, hc, hdn, hd⟩, hlen⟩ := I.list hs
    simp only at hc hd
    subst hc hd
    refine call_meets PySem.F.slot_list_count ⟨_, ho, rfl⟩ PySem.F.entry_list_count (PySem.F.args_list_count_2 _ _)
      (SeqAt.list_countAt a its.toArray n dd sl uy (eqU y)) ⟨ho, fun u' hu' => mem_eqAt ry fy rv fys u' (by simpa using hu'), ?_⟩
    have e : its.toArray.toList.countP (eqU y) = ys.countP fun z => eqV z y := countP_vals ry rv fys
    rw [e]
    exact ⟨.int (ys.countP fun z => eqV z y : Nat), H, I.tok _, ⟨_, rfl⟩, q⟩
end
section
variable {K : PySem.W.Frag} {cm : String → Addr} {H : Hp} {h : Wh}
def gCount : CM := fun x xs h q => match xs with
  | [y] => ∃ ys, asF x h = some ys ∧ flatC y = true ∧ ys.all flatC = true ∧ q (.int (ys.countP fun z => eqF z y : Nat)) h
  | _ => False
theorem countP_rel {y : Cv} {U : V} (r : RelC K cm H h y U) : ∀ {ys : List Cv} {Us : List V}, RelCs K cm H h ys Us → Us.countP (fun z => eqV z U) = ys.countP fun z => eqF z y
  | _, _, .nil => rfl
  | _, _, .cons r1 t => by rw [List.countP_cons, List.countP_cons, countP_rel r t, r1.eqF r]
theorem mc_count : MtC K cm (rCount K) gCount := fun H h x V xs Vs q Q S r rs c k => by
  unfold gCount at c
  split at c
  · next y =>
    obtain ⟨U, rfl, ru⟩ := rs.one
    obtain ⟨ys, e1, f1, f2, c⟩ := c
    obtain ⟨a, Us, rfl, hq, s⟩ := asF_ok S r e1
    refine ⟨a, Us, U, rfl, rfl, hq, by rw [ru.flat]; exact f1, by rw [s.flat]; exact f2, ?_⟩
    rw [countP_rel ru s]
    exact k _ _ _ _ .refl S (.int _) c
  · exact c.elim
/-- the item is there -/
def gIndex : CM := fun x xs h q => match xs with
  | [y] => ∃ ys, asF x h = some ys ∧ flatC y = true ∧ ys.all flatC = true ∧ ∃ j, ys.findIdx? (fun z => eqF z y) = some j ∧ q (.int (j : Nat)) h
  | _ => False
theorem RelCs.getR : ∀ {xs : List Cv} {Vs : List V}, RelCs K cm H h xs Vs → ∀ {j : Nat} {V : L2.V}, Vs[j]? = some V → ∃ x, xs[j]? = some x ∧ RelC K cm H h x V
  | _, _, .nil, j, V, e => by simp at e
  | _, _, .cons r t, 0, V, e => by cases e; exact ⟨_, rfl, r⟩
  | _, _, .cons r t, j + 1, V, e => by
    rw [List.getElem?_cons_succ] at e
    obtain ⟨x, e1, r1⟩ := t.getR e
    exact ⟨x, by rw [List.getElem?_cons_succ]; exact e1, r1⟩
theorem RelCs.getC : ∀ {xs : List Cv} {Vs : List V}, RelCs K cm H h xs Vs → ∀ {j : Nat} {x : Cv}, xs[j]? = some x → ∃ V, Vs[j]? = some V ∧ RelC K cm H h x V
  | _, _, .nil, j, V, e => by simp at e
  | _, _, .cons r t, 0, V, e => by cases e; exact ⟨_, rfl, r⟩
  | _, _, .cons r t, j + 1, V, e => by
    rw [List.getElem?_cons_succ] at e
    obtain ⟨x, e1, r1⟩ := t.getC e
    exact ⟨x, by rw [List.getElem?_cons_succ]; exact e1, r1⟩
theorem mc_index : MtC K cm (rIndex K) gIndex := fun H h x V xs Vs q Q S r rs c k => by
  unfold gIndex at c
  split at c
  · next y =>
    obtain ⟨U, rfl, ru⟩ := rs.one
    obtain ⟨ys, e1, f1, f2, j, e2, c⟩ := c
    obtain ⟨a, Us, rfl, hq, s⟩ := asF_ok S r e1
    obtain ⟨g1, g2, g3⟩ := List.findIdx?_eq_some_iff_getElem.mp e2
    obtain ⟨z, hz, rz⟩ := s.getC (List.getElem?_eq_getElem g1)
    refine ⟨a, Us, U, j, z, rfl, rfl, hq, by rw [ru.flat]; exact f1, by rw [s.flat]; exact f2, hz, by rw [rz.eqF ru]; exact g2, fun m z' hm hz' => ?_, k _ _ _ _ .refl S (.int _) c⟩
    obtain ⟨x', hx', rx'⟩ := s.getR hz'
    obtain ⟨hm2, ex⟩ := List.getElem?_eq_some_iff.mp hx'
    rw [rx'.eqF ru, ← ex]
    have := g3 m hm
    simpa using this
  · exact c.elim
end
section
variable {X : Cx} {cm : String → Addr} {W : WX} {o e : Expr} {es : List Expr} {co : CT} {cs : CTs} {apos cpos : Pos}
/-- the receiver is a list -/
def isLq (x : Cv) : Prop := match x with | .lv _ => True | _ => False
theorem isLq_ok {K : PySem.W.Frag} {H : Hp} {h : Wh} {x : Cv} {V : V} (r : RelC K cm H h x V) (z : isLq x) : tyV K "list" V H := by
  cases r <;> first | exact z.elim | skip
  next a Vs xs e n r => exact .inl ⟨rfl, Vs, .inl (.inl e)⟩
def cLQ (g : CM) (co : CT) (cs : CTs) : CT := fun env h q e => co env h (fun x h1 => isLq x ∧ cs env h1 (fun xs h2 => g x xs h2 q) e) e
theorem ce_lq {name : Str} {id : String} {r : V → List V → Hp → VK → Prop} {g : CM} (slot : Slot "list" name id) (hty : typeOf (.builtin id) = pure (.type "method_descriptor")) (hm : MtR X id r) (hg : MtC X.K cm r g) (ho : PE X o (eOf X.K cm W co)) (ha : PA X (e :: es) (aOf X.K cm W cs))
    (hbase : attributeBase o name X.env (eval o X.env) = eval o X.env := by rfl)
    (hfew : ((backTo cpos (starEach (e :: es) X.env)).all (fun x => !x.1) && (backToKw cpos (keywordEach [] X.env)).all (fun x => x.1.isSome)
      && decide ((e :: es).length + ([] : List Keyword).length + (if ([] : List Keyword).isEmpty then 0 else 1) < 30)) = true := by rfl)
    (hline : (apos.endLine == cpos.line) = true := by rfl) (hs : starEach (e :: es) X.env = (false, eval e X.env) :: starEach es X.env := by rfl) (hplain : (backTo cpos (starEach es X.env)).any (·.1) = false := by rfl) :
    PE X (.Call (.Attribute o name apos) (e :: es) [] cpos) (eOf X.K cm W (cLQ g co cs)) := weakE (fun σ H Q ⟨h, env, q, ex, S, R, hc, k, kx⟩ =>
  ⟨h, env, _, ex, S, R, hc, fun H1 h1 x V l1 S1 r1 c1 => ⟨isLq_ok r1 c1.1, h1, env, _, ex, S1, R.mono S l1, c1.2, fun H2 h2 xs Vs l2 S2 r2 c2 => hg _ _ _ _ _ _ _ _ S2 (r1.mono S1 l2) r2 c2 (k.mono (l1.trans l2)), kx.mono l1⟩, kx⟩)
  (pe_bm PySem.F.plainAttrs_list slot hty hm ho ha hbase hfew hline hs hplain)
end
end Co
namespace Co
open PySem PySem.Spec PyProof.Rows L2
def kTx (x : Cv) (k : Str → Prop) : Prop := match x with | .str a => k a | _ => False
/-- x.upper() -/
def cUp (co : CT) : CT := fun env h q e => co env h (fun x h1 => kTx x fun a => a.length ≤ 1000000 ∧ q (.str (Txt.upper a)) h1) e
section
variable {X : Cx} {cm : String → Addr} {W : WX} {o : Expr} {co : CT} {apos pos : Pos}
theorem ce_up (ho : PE X o (eOf X.K cm W co)) (hbase : attributeBase o "upper" X.env (eval o X.env) = eval o X.env := by rfl) (hline : (apos.endLine == pos.line) = true := by rfl) :
    PE X (.Call (.Attribute o "upper" apos) [] [] pos) (eOf X.K cm W (cUp co)) := weakE (fun σ H Q ⟨h, env, q, ex, S, R, hc, k, kx⟩ =>
  ⟨h, env, _, ex, S, R, hc, fun H1 h1 x V l1 S1 r1 c1 => by
    unfold kTx at c1
    dsimp only at c1
    split at c1
    · next a =>
      cases r1
      exact ⟨⟨a, rfl⟩, a, rfl, rfl, by omega, k _ _ _ _ l1 S1 (.str _) c1.2⟩
    · exact c1.elim, kx⟩) (pe_upper ho hbase hline)
end
end Co
end
section
/-! Core18: sorted of a tuple of texts. -/
namespace Co
open PySem PySem.Spec PyProof.Rows L2
section
variable {prog : Program} {w : World} {A : Around} {E : Value → Shared → Prop} {s : Shared}
theorem collect_tup {l : Addr} {o : Obj} {n : Nat} {vs : List Value} {Q : List Value → Shared → Prop} (ho : s.heap.get? l = some o) (hc : o.cls = .type "tuple") (hd : o.data = .seq vs.toArray n) (hsz : vs.length ≤ sizeLine)
    (h : Q vs { s with heap := (s.heap.push (seqObj "list" #[] 0)).update s.heap.objs.size (Obj.mapSeq (· ++ vs.toArray)) }) :
    wpAny (model prog w) A (collect (.ref l)) Q E s := by
  unfold collect
  refine wpAny_bind (wpAny_runValue (codeAny_builtin entry_proto_collect' ?_))
  show wpAny _ _ (do again (.builtin "list.__iadd__" ⟨[← newList [], .ref l], []⟩)) _ _ s
  refine wpAny_bind (wpAny_newList (wpAny_pure ⟨Code.quiet_builtin _ (by decide +kernel), codeAny_builtin entry_list_iadd' ?_⟩))
  show wpAny _ _ (Builtin.List.listExtendWith (.ref s.heap.objs.size) (.ref l) (.ref s.heap.objs.size)) _ _ { s with heap := s.heap.push (seqObj "list" #[] 0) }
  unfold Builtin.List.listExtendWith
  have ho' : (s.heap.push (seqObj "list" #[] 0)).get? l = some o := Heap.get?_push_of_some _ ho
  refine wpAny_bind (wpAny_typeOf (T := "tuple") ⟨o, ho', hc⟩ ?_)
  have ht : (Value.type "tuple" == Value.type "tuple") = true := by rfl
  rw [if_pos (by rw [ht]; simp)]
  refine wpAny_bind (listItems_at ho' hd ?_)
  refine wpAny_bind (listItems_at (xs := #[]) (n := 0) (Heap.get?_push_size _ rfl) rfl ?_)
  rw [if_neg (by simp)]
  refine wpAny_bind (listUpdate_at (xs := #[]) (n := 0) (Heap.get?_push_size _ rfl) rfl ?_ (Nat.zero_le _) (by show (#[] ++ vs.toArray).size ≤ sizeLine + 1; simp only [Array.size_append, List.size_toArray, List.length_nil]; simp; omega))
  refine wpAny_pure ?_
  show wpAny (model prog w) A (do
      let o ← load s.heap.objs.size
      match o.data with
      | .seq xs _ => pure xs.toList
      | _ => unsupported "internal:collect") Q E { s with heap := (s.heap.push (seqObj "list" #[] 0)).update s.heap.objs.size (Obj.mapSeq (· ++ vs.toArray)) }
  refine wpAny_bind (wpAny_load (get?_update_seq (Heap.get?_push_size _ rfl) _) ?_)
  show wpAny _ _ (pure ((#[] : Array Value) ++ vs.toArray).toList) Q E _
  rw [show ((#[] : Array Value) ++ vs.toArray).toList = vs by simp]
  exact wpAny_pure h
theorem sorted_tup {l : Addr} {o : Obj} {n : Nat} {vs : List Value} {ss : List Str} {Q : Value → Shared → Prop} (ho : s.heap.get? l = some o) (hc : o.cls = .type "tuple") (hd : o.data = .seq vs.toArray n) (hS : StrsAre vs ss) (h64 : vs.length < 64)
    (h : ∀ (out : Array Value) (ss' : List Str), StrsAre out.toList ss' → ss'.Perm ss → sortedS ss' = true → Q (.ref (s.heap.objs.size + 1)) { s with heap := sortedAll s.heap vs out }) :
    wpAny (model prog w) A (call (.builtin "sorted") [.ref l]) Q E s := by
  have hz : vs.length ≤ sizeLine := by rw [sizeLine_eq]; omega
  refine Calls.call_function_entry kind_sorted plain_sorted entry_sorted (args_sorted1 _) ?_
  unfold Builtin.«sorted»
  refine wpAny_bind (m := checkCount "sorted" 1 1 _) (wpAny_pure ?_)
  refine wpAny_bind (collect_tup ho hc hd hz ?_)
  refine wpAny_bind (wpAny_newList ?_ (by rw [sizeLine_eq]; omega))
  have hs1 : ((s.heap.push (seqObj "list" #[] 0)).update s.heap.objs.size (Obj.mapSeq (· ++ vs.toArray))).objs.size = s.heap.objs.size + 1 := by
    rw [Heap.size_update, size_push']
  have hoL : (((s.heap.push (seqObj "list" #[] 0)).update s.heap.objs.size (Obj.mapSeq (· ++ vs.toArray))).push (seqObj "list" vs.toArray 0)).get? (s.heap.objs.size + 1) = some (seqObj "list" vs.toArray 0) := by
    rw [← hs1]; exact Heap.get?_push_size _ rfl
  show wpAny _ _ _ _ _ { s with heap := ((s.heap.push (seqObj "list" #[] 0)).update s.heap.objs.size (Obj.mapSeq (· ++ vs.toArray))).push (seqObj "list" vs.toArray 0) }
  rw [hs1]
  refine wpAny_bind (wpAny_holding (wpAny_call_entry slot_list_sort ⟨_, hoL, rfl⟩ entry_list_sort (list_sort_treeK strKind_oneLt hoL hS.keysOf (fun v₁ v₂ rest e => keyKind_strs (by rw [← e]; exact hS)) h64 fun st' b1 b2 => ⟨_, rfl, ?_⟩) (args_list_sort _)))
  obtain ⟨ss', c1, c2, c3⟩ := sorted_out_str hS b1 b2
  exact wpAny_pure ⟨_, rfl, h _ ss' c1 c2 c3⟩
end
section
variable {X : Cx}
def rSortedT (K : PySem.W.Frag) : List V → Hp → VK → Prop := fun vs H Q => ∃ (a : Addr) (xs : List Str), vs = [V.ref a] ∧ SqT K H a (xs.map V.str) ∧ xs.length < 64 ∧
  ∀ (ys : List Str) (p : Addr), ys.Perm xs → sortedS ys = true → H p = none → Q (.ref p) (upd H p (.lst (ys.map V.str)))
theorem cr_sortedT : CallR X (.builtin "sorted") (rSortedT X.K) := by
  intro pins s σ H vs us Q I r h
  obtain ⟨a, xs, rfl, hs, h64, q⟩ := h
  obtain ⟨its, rv, ⟨o, ho, hc, n, hd⟩, _⟩ := I.tuple hs
  rw [Vals.ref1 r]
  have hlen0 := rv.length
  rw [List.length_map] at hlen0
  refine sorted_tup ho hc hd rv.strs (by rw [← hlen0]; exact h64) fun out ys h1 h2 h3 => ?_
  obtain ⟨ep, he'⟩ := PyProof.Rows.sortedAll_at s.heap its out
  have hlen : (ys.map V.str).length ≤ sizeLine := by rw [List.length_map, h2.length_eq]; rw [sizeLine_eq]; omega
  exact ⟨.ref _, upd H (s.heap.objs.size + 1) (.lst (ys.map V.str)), I.laid (t' := s.toks) (fun _ _ => PyProof.Rows.sortedAll_old) (Nat.le_succ _) ⟨hlen, out.toList, ep, vals_of_strs h1, he'⟩, rfl, q ys _ h2 h3 (I.hok.fresh (Nat.le_succ _))⟩
variable {K : PySem.W.Frag} {cm : String → Addr}
def gSortedT : CF := fun xs h q => match xs with
  | [x] => ∃ ss : List Str, x = .tup (ss.map .str) ∧ ss.length < 64 ∧ ∀ ys : List Str, ys.Perm ss → PyProof.Rows.sortedS ys = true → q (.lv (ys.map .str)) h
  | _ => False
theorem cc_sortedT : CallC K cm (rSortedT K) gSortedT := fun H h xs Vs q Q S r c k => by
  unfold gSortedT at c
  split at c
  · obtain ⟨v, rfl, r1⟩ := r.one
    obtain ⟨bs, rfl, z, c⟩ := c
    cases r1 with
    | tup e _ s =>
      rw [RelCs.inv_strs s] at e
      exact ⟨_, bs, rfl, e, z, fun ys p p1 p2 n => newLv S RelCs.strs (c ys p1 p2) k p n⟩
  · exact c.elim
end
end Co
end
section
/-! Core19: defs that make no exception of their own, called while another is in hand. -/
namespace Co
open PySem PySem.Spec PyProof.Rows L2
/-- room, whatever is handled -/
structure RoomQ (k : Nat) (A : Around) : Prop where
  dp : A.depth + 3 * k + 5 < recursionLimit
  un : A.units + 16 * k + 200 < cLine
theorem RoomQ.mono {j k : Nat} {A : Around} (r : RoomQ k A) (h : j ≤ k) : RoomQ j A := ⟨by have := r.dp; omega, by have := r.un; omega⟩
theorem RoomQ.deeper {k : Nat} {A : Around} (r : RoomQ (k + 1) A) (env : Env) : RoomQ k (A.deeper env) :=
  ⟨by have := r.dp; show A.depth + 1 + 3 * k + 5 < _; omega, by have := r.un; show A.units + 3 + 16 * k + 200 < _; omega⟩
theorem RoomQ.depth {k : Nat} {A : Around} (r : RoomQ k A) : A.depth < recursionLimit := by have := r.dp; omega
theorem RoomQ.units {k : Nat} {A : Around} (r : RoomQ k A) : A.units + 64 < cLine := by have := r.un; omega
theorem roomQ_mark {k : Nat} {A : Around} {v : Option Value} (r : Room k A) : RoomQ k (A.mark v) := ⟨r.dp, r.un⟩
/-- the promise -/
structure FnQ (P : Program) (w : World) (K : PySem.W.Frag) (mg : Str → Option Value) (base : Heap) (CX : CXT) (k : Nat) (f : Addr) (fd : FuncData) (ps : List Str) (sp : Sp) : Prop where
  len : ∀ vs H Q E, sp vs H Q E → vs.length = ps.length
  run : ∀ (A : Around) (outer : List Env) (s : Shared) (H : Hp) (args : Args) (us : List Value) (vs : List V) (Q : VK) (E : XK), RoomQ k A → Env0 P w K mg base A outer s H → BindsTo s fd args (ps.zip us) → Vals vs us → sp vs H Q E →
    codeAny (model P w) A (.call (.ref f) args) (CR CX outer P w H s Q E) s
def cxQ (CX : CXT) (P : Program) (w : World) (K : PySem.W.Frag) (mg : Str → Option Value) (base : Heap) (N : List Str) (qual : Str) (scope : Scope) (f : Addr) (cd : Value) (A : Around) (outer : List Env) (s : Shared) (H : Hp) (E : XK) : Cx :=
  { cxOf CX P w K mg base N qual scope f cd A outer s H E with calm := false }
section
variable {CX : CXT} {P : Program} {w : World} {K : PySem.W.Frag} {mg : Str → Option Value} {base : Heap} {N ps : List Str} {qual : Str} {scope : Scope} {f : Addr} {cd : Value} {A : Around} {outer : List Env} {s s1 : Shared} {H : Hp} {E : XK} {us : List Value} {vs : List V}
/-- from the start of a calm call -/
theorem inv_startQ (S : FnScope N ps scope) (e0 : Env0 P w K mg base A outer s H) (hl : vs.length = ps.length) (r : Vals vs us)
    (x : InCallC s s.heap.objs.size (bindL (envOfC qual scope s.heap.objs.size f cd).kindOf (ps.zip us) fun _ => none) (cellsFrom (s.heap.objs.size + 1) scope.names []) (bindC (envOfC qual scope s.heap.objs.size f cd).kindOf (ps.zip us) fun _ => none) s1) :
    Inv (cxQ CX P w K mg base N qual scope f cd A outer s H E) [] (L2.start N vs) H s1 := by
  have e1 : Env0 P w K mg base { A with handled := none } outer s H := ⟨e0.frames, e0.mod, e0.bs, e0.bsz, e0.funs, e0.frf, e0.hok, e0.bare⟩
  have I := inv_start (CX := CX) (E := E) S (A := { A with handled := none }) rfl e1 hl r x
  exact ⟨⟨I.ok.mod, I.ok.kind, I.ok.glob, I.ok.blt, I.ok.above, I.ok.inj, I.ok.has, I.ok.cab, fun z => Bool.noConfusion (show false = true from z), Around.frames_deeper e0.frames, I.ok.stk, I.ok.exf, I.ok.bs, I.ok.bsz, I.ok.noex, I.ok.exfs, I.ok.funs, I.ok.frf⟩,
    I.os, I.bare, I.base, I.loc, I.cell, I.free, I.freeC, I.pin, I.hok, I.len⟩
end
theorem fn_ofQ {CX : CXT} {P : Program} {w : World} {K : PySem.W.Frag} {mg : Str → Option Value} {base : Heap} {k : Nat} {f : Addr} {name qual : Str} {params : Arguments} {body : List Stmt} {scope : Scope} {dV kV doc pm cdv ct oc : Value} {an od : Option Addr}
    {osl : Array (Option Value)} {N ps : List Str} {sp : Sp} (lk : K.lookup f = some ⟨oc, od, .func (PySem.W.fnOf name qual params body scope dV kV doc pm an cdv ct), osl⟩) (hcd : PySem.W.codeIn K cdv qual = true) (S : FnScope N ps scope)
    (len : ∀ vs H Q E, sp vs H Q E → vs.length = ps.length)
    (hbody : ∀ (A : Around) (outer : List Env) (s : Shared) (H : Hp) (vs : List V) (Q : VK) (E : XK), RoomQ k (A.deeper (envOfC qual scope s.heap.objs.size f cdv)) → sp vs H Q E →
      ∃ t, PSs (cxQ CX P w K mg base N qual scope f cdv A outer s H E) body t ∧ t { nx := fun _ H' => Q .non H', rt := Q } (L2.start N vs) H) :
    FnQ P w K mg base CX (k + 1) f (PySem.W.fnOf name qual params body scope dV kV doc pm an cdv ct) ps sp := by
  refine ⟨len, fun A outer s H args us vs Q E hr e0 hb r hsp => ?_⟩
  have hl := len _ _ _ _ hsp
  have KX : K.In s.heap := e0.mod.kin.keeps fun b o e => (e0.bs b o e).1
  have lim : s.heap.NoLimit := e0.mod.nolimit.keeps fun b o e => (e0.bs b o e).1
  have hkind : ∀ y ∈ ps.zip us, scope.names.lookup y.1 = some .local ∨ (scope.names.lookup y.1 = some .cell ∧ ((cellsFrom (s.heap.objs.size + 1) scope.names []).lookup y.1).isSome = true) := fun ⟨n, v⟩ hy =>
    (S.par n (List.of_mem_zip hy).1).imp id fun q => ⟨q, PySem.W.cellsFrom_some _ _ _ (.inl q)⟩
  refine codeAny_call_function hr.depth (KX _ _ lk) rfl S.co S.gen rfl (PySem.W.codeRec_of KX hcd) (hb _ _ _ _ ?_)
  refine wpAny_newFunctionEnv_cells S.kind hkind fun env he s1 x => ?_
  subst he
  refine ⟨lim.keeps x.toInCall.keep, codeAny_func ?_⟩
  obtain ⟨t, ht, hq⟩ := hbody A outer s H vs Q E (hr.deeper _) hsp
  have I : Inv (cxQ CX P w K mg base N qual scope f cdv A outer s H E) [] (L2.start N vs) H s1 := inv_startQ S e0 hl r x
  refine wpAny_mono (ht.run [] s1 (L2.start N vs) H _ I hq) (fun fl s' hs => ?_) fun e s' hs => hs
  have fin : ∀ {σ' : L2.St} {H' : Hp} {v : V} {u : Value}, Inv (cxQ CX P w K mg base N qual scope f cdv A outer s H E) [] σ' H' s' → RelV v u → Q v H' → CE outer P w H s Q u s' :=
    fun {σ' H' v u} J rv q => ⟨v, H', J.os, J.bare, J.base, J.hok, rv, q⟩
  cases fl with
  | ret u => obtain ⟨v, σ', H', J, rv, q⟩ := hs; exact fin J rv q
  | next => obtain ⟨σ', H', J, q⟩ := hs; exact fin (v := V.non) (u := Value.none) J rfl q
  | brk => obtain ⟨_, _, _, q⟩ := hs; exact q.elim
  | cont => obtain ⟨_, _, _, q⟩ := hs; exact q.elim
section
variable {X : Cx} {CX : CXT} {k : Nat} {f : Addr} {fd : FuncData} {ps : List Str} {sp : Sp} {E : L2.St → XK}
theorem run_fnQ {pins : List (Addr × Obj)} {σ : L2.St} {H : Hp} {s : Shared} {Q : VK} {us : List Value} {vs : List V} (F : FnQ X.prog X.w X.K X.mg X.base CX k f fd ps sp) (hr : RoomQ k X.A) (hb : Binds X.K fd ps []) (hx : PassesAt CX X σ (E σ))
    (I : Inv X pins σ H s) (r : Vals vs us) (h : sp vs H Q (E σ)) : wpAny (model X.prog X.w) X.A (call (.ref f) us) (EP X pins σ Q) X.xe s := by
  have hl : us.length = ps.length := by rw [← r.length]; exact F.len _ _ _ _ h
  have b := hb s us I.kIn (by rw [List.append_nil]; exact hl)
  rw [List.append_nil] at b
  refine wpAny_call (codeAny_mono (F.run X.A X.stack s H ⟨us, []⟩ us vs Q (E σ) hr I.env0 b r h) fun r s' hq => ?_)
  cases r with
  | error e => exact hx pins H s e s' I hq
  | ok fl =>
    cases fl with
    | ret u => exact I.after hq
    | next => exact hq.elim
    | brk => exact hq.elim
    | cont => exact hq.elim
end
/-- .. of a mirror -/
abbrev OkQ (P : Program) (w : World) (K : PySem.W.Frag) (mg : Str → Option Value) (base : Heap) (cm : String → Addr) (k : Nat) (f : Addr) (fd : FuncData) (ps : List Str) (n : Nat) (m : CD) : Prop := FnQ P w K mg base (L2.CX P w) k f fd ps (spOf K cm n m)
section
variable {P : Program} {w : World} {K : PySem.W.Frag} {mg : Str → Option Value} {base : Heap} {cm : String → Addr}
theorem ok_defQ {x qual : Str} {st : Stmt} {f : Addr} {fd : FuncData} {N ps : List Str} {k n : Nat} {c : CS} (F : FnP K x qual st f fd) (S : FnScope N ps (defScope st)) (hn : ps.length = n)
    (body : ∀ (cdv : Value) (A : Around) (outer : List Env) (s : Shared) (H : Hp) (E : XK) (W : WX), RoomQ k (cxQ (L2.CX P w) P w K mg base N qual (defScope st) f cdv A outer s H E).A → L2.Takes (cxQ (L2.CX P w) P w K mg base N qual (defScope st) f cdv A outer s H E) W →
      PSs (cxQ (L2.CX P w) P w K mg base N qual (defScope st) f cdv A outer s H E) (defBody st) (sOf K cm W c)) : OkQ P w K mg base cm (k + 1) f fd ps n (dBody N.length c) := by
  obtain ⟨oc, od, dV, kV, doc, pm, an, cdv, ct, osl, rfl, lk, hcd, _, _⟩ := F.ex
  refine fn_ofQ lk hcd S (fun vs H Q E ⟨h, xs, q, e, _, r, _, _, _, z⟩ => by rw [← r.length, z, hn]) (fun A outer s H vs Q E hr ⟨h, xs, q, e, Sr, r, hc, kq, ke, z⟩ => ?_)
  refine ⟨_, body cdv A outer s H E (fun cls d _ H => E cls d H) hr (takes_of rfl rfl rfl rfl), h, _, _, Sr, REnv.start r N, hc, fun _ _ _ _ l S1 _ c1 => kq _ _ _ _ l S1 .non c1, kq, fun _ _ _ _ _ _ _ z => z.elim, fun _ _ _ _ _ _ _ z => z.elim, fun _ _ _ _ _ _ _ l S1 _ rx c1 => ke _ _ _ _ _ l S1 rx c1⟩
end
section
variable {X : Cx} {cm : String → Addr} {W : WX} {x : Str} {fa : Addr} {fd : FuncData} {ps : List Str} {k n : Nat} {m : CD} {e : Expr} {es : List Expr} {cs : CTs} {p pos : Pos}
theorem ce_callQ (F : OkQ X.prog X.w X.K X.mg X.base cm k fa fd ps n m) (hr : RoomQ k X.A) (tk : L2.Takes X W) (hg : Gl X x) (hm : X.mg x = some (.ref fa)) (hk : PySem.W.keepIn X.K (.ref fa) = true) (hb : Binds X.K fd ps [])
    (ha : PA X (e :: es) (aOf X.K cm W cs)) (hdb : (x == ("__debug__" : Str)) = false := by decide) (he : starEach (e :: es) X.env = (false, eval e X.env) :: starEach es X.env := by rfl) (hpl : (backTo pos (starEach es X.env)).any (·.1) = false := by rfl) :
    PE X (.Call (.Name x p) (e :: es) [] pos) (eOf X.K cm W (cCallD n m cs)) := by
  refine ⟨fun pins s σ H Q I ⟨h, env, q, ex, S, R, hc, kq, kx⟩ => ?_⟩
  refine wpAny_Call_Name_kw (ld_glob I hg hm ?_ hdb)
  refine PySem.W.callWith_K (h₀ := X.base) I.ok.mod.kin hk (thn (ha.run pos pins s σ H (fun Vs H1 => spOf X.K cm n m Vs H1 Q (WE W σ)) I ⟨h, env, _, ex, S, R, hc, fun H1 h1 xs Vs l1 S1 r1 c1 => ⟨h1, xs, q, ex, S1, r1, c1.2, kq.mono l1, (kx.mono l1).toE, c1.1⟩, kx⟩) fun us s1 ⟨vs, H1, I1, r, q1⟩ => ⟨I1.kIn, ?_⟩) he hpl
  exact run_fnQ (E := WE W) F hr hb (passAt tk σ) I1 r q1
end
end Co
end
section
/-! Core20: a tuple that the module's name holds. -/
namespace Co
open PySem PySem.Spec PyProof.Rows L2
section
variable {X : Cx} {cm : String → Addr} {W : WX} {x : Str} {a : Addr} {Vs : List V} {cs : List Cv} {p : Pos}
theorem ce_gtup (hg : Gl X x) (hm : X.mg x = some (.ref a)) (hT : ∀ H, SqT X.K H a Vs ∧ Dl X.K H a) (r : ∀ (H : Hp) (h : Wh), RelCs X.K cm H h cs Vs) (hd : (x == ("__debug__" : Str)) = false := by decide) : PE X (.Name x p) (eOf X.K cm W (cC (.tup cs))) :=
  weakE (fun σ H Q ⟨h, env, q, ex, S, R, hc, k, kx⟩ => k _ _ _ _ .refl S (.tup (hT H).1 (hT H).2 (r H h)) hc) (pe_glob hg hm (v := .ref a) rfl hd)
end
end Co
end
section
/-! Core21: dicts of texts or ints as keys. -/
namespace Co
open PySem PySem.Spec PyProof.Rows L2
def keyC : Cv → Option Key
  | .int i => some (.inl i)
  | .str x => some (.inr x)
  | _ => none
def dval (kvs : List (Key × Cv)) (k : Key) : Option Cv := (kvs.find? fun kv => decide (kv.1 = k)).map (·.2)
def dput (kvs : List (Key × Cv)) (k : Key) (v : Cv) : List (Key × Cv) :=
  if (kvs.any fun kv => decide (kv.1 = k)) = true then kvs.map (fun kv => if kv.1 = k then (kv.1, v) else kv) else kvs ++ [(k, v)]
def ddrop (kvs : List (Key × Cv)) (k : Key) : List (Key × Cv) := kvs.filter fun kv => decide (kv.1 ≠ k)
section
variable {K : PySem.W.Frag} {cm : String → Addr} {H H' : Hp} {h h' : Wh}
abbrev RelD (K : PySem.W.Frag) (cm : String → Addr) (H : Hp) (h : Wh) (kvs : List (Key × Cv)) (kV : List (Key × V)) : Prop := Paired (fun (p : Key × Cv) (q : Key × V) => p.1 = q.1 ∧ RelC K cm H h p.2 q.2) kvs kV
theorem keyC_ok {y : Cv} {V : V} {k : Key} (r : RelC K cm H h y V) (e : keyC y = some k) : V = kV k := by
  cases r <;> first | (cases e; rfl) | cases e
theorem RelD.any (k : Key) : ∀ {kvs : List (Key × Cv)} {kV : List (Key × V)}, RelD K cm H h kvs kV → (kV.any fun kv => decide (kv.1 = k)) = kvs.any fun kv => decide (kv.1 = k)
  | _, _, .nil => rfl
  | _, _, .cons r t => by rw [List.any_cons, List.any_cons, RelD.any k t, r.1]
theorem RelD.len : ∀ {kvs : List (Key × Cv)} {kV : List (Key × V)}, RelD K cm H h kvs kV → kV.length = kvs.length
  | _, _, .nil => rfl
  | _, _, .cons r t => by rw [List.length_cons, List.length_cons, RelD.len t]
theorem RelD.none (k : Key) : ∀ {kvs : List (Key × Cv)} {kV : List (Key × V)}, RelD K cm H h kvs kV → dval kvs k = none → valV kV k = none
  | _, _, .nil, _ => rfl
  | p :: _, q :: _, .cons r t, e => by
    unfold dval at e
    rw [List.find?_cons] at e
    by_cases z : p.1 = k
    · rw [decide_eq_true z] at e
      cases e
    · rw [decide_eq_false z] at e
      have z' : ¬ q.1 = k := by rw [← r.1]; exact z
      rw [valV_neg z']
      exact RelD.none k t e
theorem RelD.some (k : Key) {x : Cv} : ∀ {kvs : List (Key × Cv)} {kV : List (Key × V)}, RelD K cm H h kvs kV → dval kvs k = some x → ∃ V, valV kV k = some V ∧ RelC K cm H h x V
  | _, _, .nil, e => by cases e
  | p :: _, q :: _, .cons r t, e => by
    unfold dval at e
    rw [List.find?_cons] at e
    by_cases z : p.1 = k
    · rw [decide_eq_true z] at e
      cases e
      exact ⟨q.2, valV_pos (by rw [← r.1]; exact z), r.2⟩
    · rw [decide_eq_false z] at e
      have z' : ¬ q.1 = k := by rw [← r.1]; exact z
      rw [valV_neg z']
      exact RelD.some k t e
theorem RelD.app : ∀ {kvs ls : List (Key × Cv)} {kV lV : List (Key × V)}, RelD K cm H h kvs kV → RelD K cm H h ls lV → RelD K cm H h (kvs ++ ls) (kV ++ lV)
  | _, _, _, _, .nil, s => s
  | _, _, _, _, .cons r t, s => .cons r (RelD.app t s)
theorem RelD.put {k : Key} {x : Cv} {V : V} (rx : RelC K cm H h x V) {kvs : List (Key × Cv)} {kV : List (Key × L2.V)} (r : RelD K cm H h kvs kV) : RelD K cm H h (dput kvs k x) (putK kV k V) := by
  unfold dput putK
  rw [RelD.any k r]
  split
  · induction r with
    | nil => exact .nil
    | @cons p q l m r t ih =>
      have go : ∀ {l : List (Key × Cv)} {m : List (Key × L2.V)}, RelD K cm H h l m → RelD K cm H h (l.map fun kv => if kv.1 = k then (kv.1, x) else kv) (m.map fun kv => if kv.1 = k then (kv.1, V) else kv) := by
        intro l m t
        induction t with
        | nil => exact .nil
        | cons r t ih =>
          refine .cons ?_ ih
          dsimp only
          rw [← r.1]
          split
          · exact ⟨rfl, rx⟩
          · exact r
      exact go (.cons r t)
  · exact RelD.app r (.cons ⟨rfl, rx⟩ .nil)
theorem RelD.drop (k : Key) : ∀ {kvs : List (Key × Cv)} {kV : List (Key × V)}, RelD K cm H h kvs kV → RelD K cm H h (ddrop kvs k) (dropK kV k)
  | _, _, .nil => .nil
  | p :: l, q :: m, .cons r t => by
    unfold ddrop dropK
    rw [List.filter_cons, List.filter_cons, ← r.1]
    split
    · exact .cons r (RelD.drop k t)
    · exact RelD.drop k t
theorem RelD.mono (S : Rst K cm H h) (l : Le H h H' h') {kvs : List (Key × Cv)} {kV : List (Key × V)} (r : RelD K cm H h kvs kV) : RelD K cm H' h' kvs kV := L2.Paired.mapP r fun _ _ q => ⟨q.1, q.2.mono S l⟩
/-- the items of a live dict -/
def kDc (o : Option Cob) (k : List (Key × Cv) → Prop) : Prop := match o with | some (.dct kvs) => k kvs | _ => False
theorem kDc_ok {a : Addr} {k : List (Key × Cv) → Prop} (S : Rst K cm H h) (c : kDc (h.c a) k) : ∃ kvs kV, h.c a = some (.dct kvs) ∧ H a = some (.dK kV) ∧ RelD K cm H h kvs kV ∧ k kvs := by
  unfold kDc at c
  split at c
  · next kvs e =>
    obtain ⟨kV, e1, r⟩ := S.obj _ _ e
    exact ⟨kvs, kV, e, e1, r, c⟩
  · exact c.elim
theorem wr_dct {a : Addr} {xs ys : List (Key × Cv)} {Us : List (Key × V)} (S : Rst K cm H h) (ex : h.c a = some (.dct xs)) (r : RelD K cm H h ys Us) : Le H h (upd H a (.dK Us)) (wup h a (.dct ys)) ∧ Rst K cm (upd H a (.dK Us)) (wup h a (.dct ys)) := by
  have l : Le H h (upd H a (.dK Us)) (wup h a (.dct ys)) := Le.write S ex
  exact ⟨l, S.write ex ⟨Us, upd_same, r.mono S l⟩⟩
end
/-- .. read, locked or not -/
def kDr (o : Option Cob) (k : List (Key × Cv) → Prop) : Prop := match o with | some (.dct kvs) => k kvs | some (.lck _ kvs) => k kvs | _ => False
theorem kDr_ok {K : PySem.W.Frag} {cm : String → Addr} {H : Hp} {h : Wh} {a : Addr} {k : List (Key × Cv) → Prop} (S : Rst K cm H h) (c : kDr (h.c a) k) : ∃ kvs kV, Rd H a (.dK kV) ∧ RelD K cm H h kvs kV ∧ k kvs := by
  unfold kDr at c
  split at c
  · next kvs e =>
    obtain ⟨kV, e1, r⟩ := S.obj _ _ e
    exact ⟨kvs, kV, .inl e1, r, c⟩
  · next tg kvs e =>
    obtain ⟨e1, r⟩ := S.obj _ _ e
    exact ⟨kvs, tg.2, .inr ⟨_, e1⟩, r, c⟩
  · exact c.elim
def kKy (y : Cv) (k : Key → Prop) : Prop := match keyC y with | some z => k z | none => False
theorem kKy_ok {y : Cv} {k : Key → Prop} (c : kKy y k) : ∃ z, keyC y = some z ∧ k z := by
  unfold kKy at c
  split at c
  · next z e => exact ⟨z, e, c⟩
  · exact c.elim
def kRf (x : Cv) (k : Addr → Prop) : Prop := match x with | .ref a => k a | _ => False
theorem kRf_ok {x : Cv} {k : Addr → Prop} (c : match x with | .ref a => k a | _ => False) : ∃ a, x = .ref a ∧ k a := by
  cases x <;> first | exact ⟨_, rfl, c⟩ | exact c.elim
/-- {} -/
def cDNew : CT := fun env h q e => ∀ p, h p = none → q (.ref p) (cup h p (.dct []))
/-- d[k] -/
def gDGet : CG := fun x y h q => match x with
  | .ref a => kDr (h a) fun kvs => kKy y fun k => ∃ v, dval kvs k = some v ∧ q v h
  | _ => False
/-- d[k] = v -/
def sDPutC (cd ck cv : CT) : CS := fun env h R => cv env h (fun v h1 => cd env h1 (fun x h2 => ck env h2 (fun y h3 => match x with
  | .ref a => kDc (h3 a) fun kvs => kKy y fun k => kvs.length < 1000000 ∧ R.nx env (cup h3 a (.dct (dput kvs k v)))
  | _ => False) fun x h => R.ex x env h) fun x h => R.ex x env h) fun x h => R.ex x env h
section
variable {X : Cx} {cm : String → Addr} {W : WX} {a b v : Expr} {ca cb cv : CT} {pos pos' : Pos}
theorem ce_dnew : PE X (.Dict [] [] pos) (eOf X.K cm W cDNew) := weakE (fun σ H Q ⟨h, env, q, ex, S, R, hc, k, kx⟩ => fun p n =>
  k _ _ _ _ (Le.new (u := .dct []) S n) (Rst.new (u := .dct []) S n ⟨[], upd_same, .nil⟩) (.ref p) (hc p (S.dead n))) pe_dnewK
theorem ce_dget (hu : X.A.units + 1 < cLine) (ha : PE X a (eOf X.K cm W ca)) (hb : PE X b (eOf X.K cm W cb)) (hs : NoSl b := by first | trivial | (intros; rfl) | decide) : PE X (.Subscript a b pos) (eOf X.K cm W (cOp2 gDGet ca cb)) := weakE (fun σ H Q ⟨h, env, q, ex, S, R, hc, k, kx⟩ =>
  ⟨h, env, _, ex, S, R, hc, fun H1 h1 x V l1 S1 r1 c1 => ⟨h1, env, _, ex, S1, R.mono S l1, c1, fun H2 h2 y U l2 S2 r2 c2 => by
    unfold gDGet at c2
    obtain ⟨ad, rfl, c3⟩ := kRf_ok c2
    obtain ⟨kvs, kV', e2, rd, c4⟩ := kDr_ok S2 c3
    obtain ⟨z, ez, w, ew, c5⟩ := kKy_ok c4
    have eU := keyC_ok r2 ez
    subst eU
    obtain ⟨Vw, eV, rw'⟩ := rd.some z ew
    cases r1
    exact ⟨ad, Vw, rfl, .inl ⟨kV', z, e2, rfl, eV.symm⟩, k _ _ _ _ (l1.trans l2) S2 rw' c5⟩, kx.mono l1⟩, kx⟩) (pe_dget hu ha hb hs)
theorem cs_dput (hu : X.A.units + 1 < cLine) (ha : PE X a (eOf X.K cm W ca)) (hb : PE X b (eOf X.K cm W cb)) (hv : PE X v (eOf X.K cm W cv)) (hs : swapsWith v (some (.Subscript a b pos')) pos.line X.env = pure false) : PS X (.Assign [.Subscript a b pos'] v pos) (sOf X.K cm W (sDPutC ca cb cv)) :=
  weakS (fun D σ H ⟨h, env, R, S, RE, hcc, kn, kr, kb, kc, kx⟩ =>
    ⟨h, env, _, _, S, RE, hcc, fun H1 h1 w Vw l1 S1 r1 c1 => ⟨h1, env, _, _, S1, RE.mono S l1, c1, fun H2 h2 x V l2 S2 r2 c2 => ⟨h2, env, _, _, S2, RE.mono S (l1.trans l2), c2, fun H3 h3 y U l3 S3 r3 c3 => by
      obtain ⟨ad, rfl, c4⟩ := kRf_ok c3
      obtain ⟨kvs, kV', e1, e2, rd, c5⟩ := kDc_ok S3 c4
      obtain ⟨z, ez, hl, c6⟩ := kKy_ok c5
      have eU := keyC_ok r3 ez
      subst eU
      cases r2
      obtain ⟨l4, S4⟩ := wr_dct S3 e1 (rd.put (k := z) ((r1.mono S1 l2).mono S2 l3))
      exact ⟨ad, _, rfl, .inl ⟨kV', z, e2, rfl, by rw [rd.len, sizeLine_eq]; omega, rfl⟩, kn _ _ _ _ (((l1.trans l2).trans l3).trans l4) S4 (RE.mono S (((l1.trans l2).trans l3).trans l4)) c6⟩,
      (kx.toX S RE).mono (l1.trans l2)⟩, (kx.toX S RE).mono l1⟩, kx.toX S RE⟩) (ps_dput hu ha hb hv hs)
end
end Co
end
section
/-! Core22: a list's slice with a step. -/
namespace Co
open PySem PySem.Spec PyProof.Rows L2
/-- the places -/
def stpI (n : Nat) (lo hi : Option Int) (c : Int) : List Nat := sliceRange (sliceBounds lo hi (some c) n).1 (sliceBounds lo hi (some c) n).2.1 (sliceBounds lo hi (some c) n).2.2
def stp {α : Type} (xs : List α) (lo hi : Option Int) (c : Int) : List α := (stpI xs.length lo hi c).filterMap (xs[·]?)
theorem stp_pick (its : List Value) (lo hi : Option Int) (c : Int) : slicePick its.toArray lo hi (some c) = (stp its lo hi c).toArray := by
  unfold slicePick stp stpI
  rw [List.size_toArray]
  congr 2
  funext i
  exact List.getElem?_toArray
theorem stp_mem {α : Type} {xs : List α} {lo hi : Option Int} {c : Int} {x : α} (h : x ∈ stp xs lo hi c) : x ∈ xs := by
  obtain ⟨i, _, e⟩ := List.mem_filterMap.mp h
  exact List.mem_of_getElem? e
theorem stp_len {α : Type} (xs : List α) (lo hi : Option Int) (c : Int) : (stp xs lo hi c).length ≤ xs.length := by
  have h := slicePick_size_le ((xs.map fun _ => Value.none).toArray) lo hi (some c)
  have e : ∀ is : List Nat, (is.filterMap (xs[·]?)).length = (is.filterMap ((xs.map fun _ => Value.none)[·]?)).length := fun is => by
    have : (is.filterMap ((xs.map fun _ => Value.none)[·]?)) = (is.filterMap (xs[·]?)).map fun _ => Value.none := by
      rw [List.map_filterMap]
      congr 1
      funext i
      rw [List.getElem?_map]
    rw [this, List.length_map]
  rw [stp_pick, List.size_toArray, List.size_toArray, List.length_map] at h
  unfold stp at h ⊢
  rw [List.length_map] at h
  rw [e]
  exact h
theorem stp_map {α β : Type} (f : α → β) (xs : List α) (lo hi : Option Int) (c : Int) : stp (xs.map f) lo hi c = (stp xs lo hi c).map f := by
  unfold stp
  rw [List.length_map, List.map_filterMap]
  congr 1
  funext i
  rw [List.getElem?_map]
theorem pick_vals : ∀ (is : List Nat) {xs : List V} {its : List Value}, Vals xs its → Vals (is.filterMap (xs[·]?)) (is.filterMap (its[·]?))
  | [], _, _, _ => .nil
  | i :: is, xs, its, r => by
    have ih := pick_vals is r
    rw [List.filterMap_cons, List.filterMap_cons]
    cases e : xs[i]? with
    | none =>
      have : its[i]? = none := by
        rw [List.getElem?_eq_none_iff] at e ⊢
        rw [← r.length]; exact e
      rw [this]; exact ih
    | some x =>
      obtain ⟨u, hu, ru⟩ := r.get e
      rw [hu]; exact .cons ru ih
theorem pick_rel {K : PySem.W.Frag} {cm : String → Addr} {H : Hp} {h : Wh} : ∀ (is : List Nat) {xs : List Cv} {Vs : List V}, RelCs K cm H h xs Vs → RelCs K cm H h (is.filterMap (xs[·]?)) (is.filterMap (Vs[·]?))
  | [], _, _, _ => .nil
  | i :: is, xs, Vs, r => by
    have ih := pick_rel is r
    rw [List.filterMap_cons, List.filterMap_cons]
    cases e : xs[i]? with
    | none =>
      cases e2 : Vs[i]? with
      | none => exact ih
      | some V =>
        obtain ⟨x, ex, _⟩ := r.getR e2
        rw [e] at ex; cases ex
    | some x =>
      obtain ⟨V, eV, rV⟩ := r.getC e
      rw [eV]; exact .cons rV ih
theorem RelCs.lenE {K : PySem.W.Frag} {cm : String → Addr} {H : Hp} {h : Wh} : ∀ {xs : List Cv} {Vs : List V}, RelCs K cm H h xs Vs → Vs.length = xs.length
  | _, _, .nil => rfl
  | _, _, .cons r t => by rw [List.length_cons, List.length_cons, t.lenE]
section
variable {X : Cx} {K : PySem.W.Frag} {cm : String → Addr} {W : WX}
/-- e[lo:hi:c] of a list -/
def tStp (K : PySem.W.Frag) (te : TE) (tl tu : TO) (c : Int) : TE := fun σ H Q => te σ H fun x H1 => tl σ H1 fun lo H2 => tu σ H2 fun hi H3 => ∃ a xs, x = .ref a ∧ SqL K H3 a xs ∧ (stp xs lo hi c).length ≤ sizeLine ∧ ∀ p, H3 p = none → Q (.ref p) (upd H3 p (.lst (stp xs lo hi c)))
theorem pe_stp {e : Expr} {lo hi : Option Expr} {te : TE} {tl tu : TO} {c : Nat} {k : Nat} {p1 p3 pos : Pos} (hc : c ≠ 0) (he : PE X e te) (hl : PO X lo tl) (hu : PO X hi tu) : PE X (.Subscript e (.Slice lo hi (some (.Constant (.int c) k p1)) p3) pos) (tStp X.K te tl tu c) := by
  refine ⟨fun pins s σ H Q I h => ?_⟩
  refine Subscript_ (thn (he.run pins s σ H _ I h) fun v s1 ⟨x, H1, I1, r1, q1⟩ => ?_)
  have stc : PO X (some (.Constant (.int c) k p1)) (tPart (tC (.int c))) := po_some pe_int
  refine wpAny_Slice (thn (hl.run pins s1 σ H1 _ I1 q1) fun vl s2 ⟨l, H2, I2, pl, q2⟩ => ?_)
  refine thn (hu.run pins s2 σ H2 _ I2 q2) fun vu s3 ⟨u, H3, I3, pu, q3⟩ => ?_
  refine thn (stc.run pins s3 σ H3 (fun o H4 => o = some (c : Int) ∧ H4 = H3) I3 ⟨c, rfl, rfl, rfl⟩) fun vs s4 ⟨o, H4, I4, ps, eo, e4⟩ => ?_
  subst eo e4
  obtain ⟨a, xs, ex, hx, hz2, q⟩ := q3
  subst ex
  cases r1
  have I5 : Inv X pins σ H4 { s4 with heap := s4.heap.push { cls := .type "slice", data := .fields #[vl, vu, vs] } } := I4.kept (t' := s4.toks) fun b ob q => Heap.get?_push_of_some _ q
  show wpAny (model X.prog X.w) X.A (subscriptTail e (.Slice lo hi (some (.Constant (.int c) k p1)) p3) (.ref a) (.ref s4.heap.objs.size)) (EP X pins σ Q) X.xe { s4 with heap := s4.heap.push { cls := .type "slice", data := .fields #[vl, vu, vs] } }
  obtain ⟨its, r, ht, hz⟩ := I5.list hx
  have hlen := r.length
  refine tail_any (ops := [.ref a, .ref s4.heap.objs.size]) ht.isList.typeIs (PySem.slot_list_getitem.lookup) ?_ (by with_unfolding_all rfl)
  refine wpAny_getItem_list_slice ht.isList (Heap.IsSliceOf.new _ vl vu vs) pl pu ps (by intro z; cases z; exact hc rfl) ?_ (by rw [List.size_toArray]; omega)
  rw [stp_pick]
  have rp : Vals (stp xs l u (c : Int)) (stp its l u (c : Int)) := by
    unfold stp
    rw [← hlen]
    exact pick_vals _ r
  refine ⟨.ref _, _, I5.laid (t' := s4.toks) (o := .lst (stp xs l u (c : Int))) (fun b ob q => Heap.get?_push_of_some _ q) (Nat.le_refl _) ?_, rfl, q _ (I5.hok.fresh (Nat.le_refl _))⟩
  exact ⟨hz2, _, 0, rp, Heap.get?_push_size _ rfl⟩
def gStp (c : Int) : CSl := fun x lo hi h q => ∃ xs, asF x h = some xs ∧ (stp xs lo hi c).length ≤ 1000000 ∧ q (.lv (stp xs lo hi c)) h
theorem ce_stp {a : Expr} {ca : CT} {lo hi : Option Expr} {cl cu : CO} {c k : Nat} {p1 p3 pos : Pos} (hc : c ≠ 0) (ha : PE X a (eOf X.K cm W ca)) (hl : PO X lo (oOf X.K cm W cl)) (hu : PO X hi (oOf X.K cm W cu)) :
    PE X (.Subscript a (.Slice lo hi (some (.Constant (.int c) k p1)) p3) pos) (eOf X.K cm W (cSl (gStp c) ca cl cu)) := weakE (fun σ H Q ⟨h, env, q, e, S, R, hc, k, kx⟩ =>
  ⟨h, env, _, e, S, R, hc, fun H1 h1 x V l1 S1 r1 c1 => ⟨h1, env, _, e, S1, R.mono S l1, c1, fun H2 h2 lo' l2 S2 c2 => ⟨h2, env, _, e, S2, R.mono S (l1.trans l2), c2, fun H3 h3 hi' l3 S3 c3 => by
    obtain ⟨xs, e1, hz, c4⟩ := c3
    obtain ⟨p, Vs, rfl, hq, s⟩ := asF_ok S3 (r1.mono S1 (l2.trans l3)) e1
    have el := s.lenE
    have rs : RelCs X.K cm H3 h3 (stp xs lo' hi' c) (stp Vs lo' hi' c) := by
      unfold stp
      rw [el]
      exact pick_rel _ s
    refine ⟨p, Vs, rfl, hq, by rw [rs.lenE, sizeLine_eq]; omega, newLv S3 rs c4 (k.mono ((l1.trans l2).trans l3))⟩, kx.mono (l1.trans l2)⟩, kx.mono l1⟩, kx⟩) (pe_stp hc ha hl hu)
end
end Co
end
section
/-! Core23: more of dicts: get, pop, in, dict(..), list(d), sorted(d), walks. -/
namespace Co
open PySem PySem.Spec PyProof.Rows L2
def cDGet1 (co ck : CT) : CT := fun env h q e => co env h (fun x h1 => kRf x fun a => kDr (h1 a) (fun _ => True) ∧ ck env h1 (fun y h2 => kDr (h2 a) fun kvs => kKy y fun k => q ((dval kvs k).getD .non) h2) e) e
def cDGet2 (co ck cz : CT) : CT := fun env h q e => co env h (fun x h1 => kRf x fun a => kDr (h1 a) (fun _ => True) ∧ ck env h1 (fun y h2 => cz env h2 (fun z h3 => kDr (h3 a) fun kvs => kKy y fun k => q ((dval kvs k).getD z) h3) e) e) e
def cDPop (co ck : CT) : CT := fun env h q e => co env h (fun x h1 => kRf x fun a => kDc (h1 a) (fun _ => True) ∧ ck env h1 (fun y h2 => kDc (h2 a) fun kvs => kKy y fun k => ∃ v, dval kvs k = some v ∧ q v (cup h2 a (.dct (ddrop kvs k)))) e) e
def gDIn : CG := fun y x h q => kRf x fun a => kDr (h a) fun kvs => kKy y fun k => q (.bl (dval kvs k).isSome) h
def gDNotIn : CG := fun y x h q => kRf x fun a => kDr (h a) fun kvs => kKy y fun k => q (.bl (!(dval kvs k).isSome)) h
theorem valV_some_of {K : PySem.W.Frag} {cm : String → Addr} {H : Hp} {h : Wh} {kvs : List (Key × Cv)} {kV : List (Key × V)} (rd : RelD K cm H h kvs kV) (z : Key) : (valV kV z).isSome = (dval kvs z).isSome := by
  cases ed : dval kvs z with
  | none => rw [rd.none z ed]; rfl
  | some w => obtain ⟨Vw, eV, _⟩ := rd.some z ed; rw [eV]; rfl
section
variable {X : Cx} {cm : String → Addr} {W : WX} {a b c v o e f : Expr} {ca cb cc co ck cz : CT} {pos pos' apos cpos : Pos}
theorem ce_dget1 (hu : X.A.units + 1 < cLine) (ho : PE X o (eOf X.K cm W co)) (he : PE X e (eOf X.K cm W ck)) (m : M1 X o "get" apos e cpos) : PE X (.Call (.Attribute o "get" apos) [e] [] cpos) (eOf X.K cm W (cDGet1 co ck)) := weakE (fun σ H Q ⟨h, env, q, ex, S, R, hc, k, kx⟩ =>
  ⟨h, env, _, ex, S, R, hc, fun H1 h1 x V l1 S1 r1 c1 => by
    obtain ⟨ad, rfl, c2, c3⟩ := kRf_ok c1
    obtain ⟨kvs0, kV0, e1, _, _⟩ := kDr_ok S1 c2
    cases r1
    exact ⟨ad, rfl, .inl ⟨kV0, e1⟩, h1, env, _, ex, S1, R.mono S l1, c3, fun H2 h2 y U l2 S2 r2 c4 => by
      obtain ⟨kvs, kV', e2, rd, c5⟩ := kDr_ok S2 c4
      obtain ⟨z, ez, c6⟩ := kKy_ok c5
      have eU := keyC_ok r2 ez
      subst eU
      refine ⟨valV kV' z, .inl ⟨kV', z, e2, rfl, rfl⟩, ?_⟩
      cases ed : dval kvs z with
      | none => rw [rd.none z ed]; rw [ed] at c6; exact k _ _ _ _ (l1.trans l2) S2 .non c6
      | some w => obtain ⟨Vw, eV, rw'⟩ := rd.some z ed; rw [eV]; rw [ed] at c6; exact k _ _ _ _ (l1.trans l2) S2 rw' c6, kx.mono l1⟩, kx⟩) (pe_dget1 hu ho he m)
theorem ce_dget2 (hu : X.A.units + 1 < cLine) (ho : PE X o (eOf X.K cm W co)) (he : PE X e (eOf X.K cm W ck)) (hf : PE X f (eOf X.K cm W cz)) (m : M2 X o "get" apos e f cpos) : PE X (.Call (.Attribute o "get" apos) [e, f] [] cpos) (eOf X.K cm W (cDGet2 co ck cz)) := weakE (fun σ H Q ⟨h, env, q, ex, S, R, hc, k, kx⟩ =>
  ⟨h, env, _, ex, S, R, hc, fun H1 h1 x V l1 S1 r1 c1 => by
    obtain ⟨ad, rfl, c2, c3⟩ := kRf_ok c1
    obtain ⟨kvs0, kV0, e1, _, _⟩ := kDr_ok S1 c2
    cases r1
    exact ⟨ad, rfl, .inl ⟨kV0, e1⟩, h1, env, _, ex, S1, R.mono S l1, c3, fun H2 h2 y U l2 S2 r2 c4 => ⟨h2, env, _, ex, S2, R.mono S (l1.trans l2), c4, fun H3 h3 d D l3 S3 r3 c5 => by
      obtain ⟨kvs, kV', e2, rd, c5⟩ := kDr_ok S3 c5
      obtain ⟨z, ez, c6⟩ := kKy_ok c5
      have eU := keyC_ok r2 ez
      subst eU
      refine ⟨valV kV' z, .inl ⟨kV', z, e2, rfl, rfl⟩, ?_⟩
      cases ed : dval kvs z with
      | none => rw [rd.none z ed]; rw [ed] at c6; exact k _ _ _ _ ((l1.trans l2).trans l3) S3 r3 c6
      | some w => obtain ⟨Vw, eV, rw'⟩ := rd.some z ed; rw [eV]; rw [ed] at c6; exact k _ _ _ _ ((l1.trans l2).trans l3) S3 rw' c6, kx.mono (l1.trans l2)⟩, kx.mono l1⟩, kx⟩) (pe_dget2 hu ho he hf m)
theorem ce_dpop (ho : PE X o (eOf X.K cm W co)) (he : PE X e (eOf X.K cm W ck)) (m : M1 X o "pop" apos e cpos) : PE X (.Call (.Attribute o "pop" apos) [e] [] cpos) (eOf X.K cm W (cDPop co ck)) := weakE (fun σ H Q ⟨h, env, q, ex, S, R, hc, k, kx⟩ =>
  ⟨h, env, _, ex, S, R, hc, fun H1 h1 x V l1 S1 r1 c1 => by
    obtain ⟨ad, rfl, c2, c3⟩ := kRf_ok c1
    obtain ⟨kvs0, kV0, _, e1, _, _⟩ := kDc_ok S1 c2
    cases r1
    exact ⟨ad, rfl, .inl ⟨kV0, .inl e1⟩, h1, env, _, ex, S1, R.mono S l1, c3, fun H2 h2 y U l2 S2 r2 c4 => by
      obtain ⟨kvs, kV', e0, e2, rd, c5⟩ := kDc_ok S2 c4
      obtain ⟨z, ez, w, ew, c6⟩ := kKy_ok c5
      have eU := keyC_ok r2 ez
      subst eU
      obtain ⟨Vw, eV, rw'⟩ := rd.some z ew
      obtain ⟨l3, S3⟩ := wr_dct S2 e0 (rd.drop z)
      exact ⟨kV', z, Vw, e2, rfl, eV, k _ _ _ _ ((l1.trans l2).trans l3) S3 (rw'.mono S2 l3) c6⟩, kx.mono l1⟩, kx⟩) (pe_dpop1 ho he m)
def rDIn : R2 := fun y x H Q => ∃ a o, x = .ref a ∧ DGet H a y o ∧ Q (.bl o.isSome) H
def rDNotIn : R2 := fun y x H Q => ∃ a o, x = .ref a ∧ DGet H a y o ∧ Q (.bl (!o.isSome)) H
theorem op_din (hu : X.A.units + 1 < cLine) : OpR X (compareOp .In) rDIn := fun pins s σ H x y v u Q I rx ry ⟨a, o, e, g, q⟩ => by
  subst e
  cases ry
  exact d_in hu I g rx fun s' I' => ⟨.bl _, H, I', rfl, q⟩
theorem op_dnotin (hu : X.A.units + 1 < cLine) : OpR X (compareOp .NotIn) rDNotIn := fun pins s σ H x y v u Q I rx ry ⟨a, o, e, g, q⟩ => by
  subst e
  cases ry
  exact d_notIn hu I g rx fun s' I' => ⟨.bl _, H, I', rfl, q⟩
theorem oc_din {K : PySem.W.Frag} : OpC K cm rDIn gDIn := fun H h x y V U q Q S rx ry c k => by
  obtain ⟨ad, rfl, c2⟩ := kRf_ok c
  obtain ⟨kvs, kV', e2, rd, c5⟩ := kDr_ok S c2
  obtain ⟨z, ez, c6⟩ := kKy_ok c5
  have eU := keyC_ok rx ez
  subst eU
  cases ry
  refine ⟨ad, valV kV' z, rfl, .inl ⟨kV', z, e2, rfl, rfl⟩, ?_⟩
  rw [valV_some_of rd]
  exact k _ _ _ _ .refl S (.bl _) c6
theorem oc_dnotin {K : PySem.W.Frag} : OpC K cm rDNotIn gDNotIn := fun H h x y V U q Q S rx ry c k => by
  obtain ⟨ad, rfl, c2⟩ := kRf_ok c
  obtain ⟨kvs, kV', e2, rd, c5⟩ := kDr_ok S c2
  obtain ⟨z, ez, c6⟩ := kKy_ok c5
  have eU := keyC_ok rx ez
  subst eU
  cases ry
  refine ⟨ad, valV kV' z, rfl, .inl ⟨kV', z, e2, rfl, rfl⟩, ?_⟩
  rw [valV_some_of rd]
  exact k _ _ _ _ .refl S (.bl _) c6
end

/-! ### dict(..) -/
section
variable {X : Cx}
theorem plain_tup {pins : List (Addr × Obj)} {σ : L2.St} {H : Hp} {s : Shared} {a : Addr} {xs : List V} (I : Inv X pins σ H s) (hq : SqT X.K H a xs) (d : Dl X.K H a) : ∃ its : List Value, Vals xs its ∧ PySem.PlainSeq "tuple" s.heap a its.toArray ∧ xs.length ≤ sizeLine := by
  obtain ⟨its, rv, ⟨o, ho, hc, n, hd⟩, hz⟩ := I.tuple hq
  refine ⟨its, rv, ⟨o, n, ho, hc, ?_, hd⟩, hz⟩
  rcases d with ⟨o', ys, e, dd⟩ | ⟨o', e, dd⟩
  · have := (I.hok a _ e).1
    rw [ho] at this
    cases this
    exact dd
  · have := I.kIn a o' e
    rw [ho] at this
    cases this
    exact dd
theorem pairs_ofW {pins : List (Addr × Obj)} {σ : L2.St} {H : Hp} {s : Shared} (I : Inv X pins σ H s) : ∀ {ps : List Addr} {kvs : List (Key × V)}, Paired (fun p kv => SqT X.K H p [kV kv.1, kv.2]) ps kvs →
    ∃ (prs : List (Key × Value)) (ws : List (Value × Value)), KV kvs prs ∧ prs.length = ps.length ∧ ws.length = ps.length ∧ ∀ (j : Nat) (k v : Value), ws[j]? = some (k, v) → ∃ (b : Addr) (key : Key), ps[j]? = some b ∧ IsTup s.heap b #[k, v] ∧ prs[j]? = some (key, v) ∧ keyIs key k = true
  | _, _, .nil => ⟨[], [], .nil, rfl, rfl, fun j k v e => by simp at e⟩
  | _, _, .cons (a := p) (b := kv) h t => by
    obtain ⟨prs, ws, r, hl, hw, hp⟩ := pairs_ofW I t
    obtain ⟨its, rv, ht, _⟩ := I.tuple h
    obtain ⟨u, y, ei, ru, ry⟩ := vals2 rv
    subst ei
    refine ⟨(kv.1, y) :: prs, (u, y) :: ws, .cons ⟨rfl, ry⟩ r, by rw [List.length_cons, List.length_cons, hl], by rw [List.length_cons, List.length_cons, hw], fun j k v e => ?_⟩
    cases j with
    | zero =>
      have e' : (u, y) = (k, v) := Option.some.inj e
      cases e'
      exact ⟨p, kv.1, rfl, ht, rfl, kV_is (P := X.prog) (w := X.w) ru⟩
    | succ j =>
      obtain ⟨b, key, e1, e2, e3, e4⟩ := hp j k v (by simpa using e)
      exact ⟨b, key, by simpa using e1, e2, by simpa using e3, e4⟩
/-- dict(xs) of a tuple of pairs -/
theorem call_dictT (hcalm : X.calm = true) : CallR X (.type "dict") (fun xs H Q => ∃ (a : Addr) (ps : List Addr) (kvs : List (Key × V)), xs = [.ref a] ∧ SqT X.K H a (ps.map V.ref) ∧ Dl X.K H a ∧ Paired (fun p kv => SqT X.K H p [kV kv.1, kv.2]) ps kvs ∧
    ∀ p, H p = none → Q (.ref p) (upd H p (.dK (mergeK [] kvs)))) := by
  intro pins s σ H xs us Q I r q
  obtain ⟨a, ps, kvs, ex, hq, hd, hp, q⟩ := q
  subst ex
  obtain ⟨u, eu, rx⟩ := vals1 r
  subst eu
  cases rx
  obtain ⟨its, rv, pl, hz⟩ := plain_tup I hq hd
  have ei := refs_at rv
  subst ei
  rw [List.length_map] at hz
  obtain ⟨prs, ws, rel, hl, hw, hpr⟩ := pairs_ofW I hp
  have hPI : PySem.PairItems s.heap (ps.map Value.ref).toArray (fun j => ps.getD j 0) ws := by
    refine ⟨by simp [hw], fun j k v e => ?_⟩
    obtain ⟨b, key, e1, e2, _⟩ := hpr j k v e
    obtain ⟨o, ho, hc, n, hdt⟩ := e2
    have eg : ps.getD j 0 = b := by rw [List.getD_eq_getElem?_getD, e1]; rfl
    refine ⟨by simp [eg, e1], ?_⟩
    show PySem.PairAt s.heap (ps.getD j 0) k v
    rw [eg]
    exact .inl ⟨o, ho, hc, n, hdt⟩
  refine PySem.call_dict_pairs (knd := mixKind X.prog X.w) (kvs := prs) (PySem.PairArg.tuple a (ps.map Value.ref).toArray (fun j => ps.getD j 0) ws) (I.ok.hd hcalm) ⟨pl, hPI⟩ ⟨by omega, fun i k v e => ?_⟩ (by omega) fun h' tk hd' k => ?_
  · obtain ⟨b, key, _, _, e3, e4⟩ := hpr i k v e
    exact ⟨key, e3, e4⟩
  · have hm : (s.heap.objs.size == sysModules) = false := beq_eq_false_iff_ne.mpr (Nat.ne_of_gt I.big)
    have hlen : (mergeK [] kvs).length ≤ sizeLine := by
      refine Nat.le_trans (length_mergeK kvs []) ?_
      rw [List.length_nil, Nat.zero_add, rel.length, hl]
      exact hz
    exact ⟨.ref s.heap.objs.size, upd H s.heap.objs.size (.dK (mergeK [] kvs)), I.laid (t' := tk) (fun b o e => k b o (by simp) e) (Nat.le_refl _) (show ObjOk X.prog X.w _ _ _ (.dK (mergeK [] kvs)) from ⟨hlen, hm, merged [] prs, KV.merge rel .nil, hd'⟩), rfl, q _ (I.hok.fresh (Nat.le_refl _))⟩
def rDictA (K : PySem.W.Frag) : List V → Hp → VK → Prop := fun xs H Q => ((∃ (a : Addr) (kvs : List (Key × V)), xs = [.ref a] ∧ Rd H a (.dK kvs) ∧ ∀ p, H p = none → Q (.ref p) (upd H p (.dK kvs))) ∨
  (∃ (a : Addr) (ps : List Addr) (kvs : List (Key × V)), xs = [.ref a] ∧ SqL K H a (ps.map V.ref) ∧ Paired (fun p kv => SqT K H p [kV kv.1, kv.2]) ps kvs ∧ ∀ p, H p = none → Q (.ref p) (upd H p (.dK (mergeK [] kvs))))) ∨
  (∃ (a : Addr) (ps : List Addr) (kvs : List (Key × V)), xs = [.ref a] ∧ SqT K H a (ps.map V.ref) ∧ Dl K H a ∧ Paired (fun p kv => SqT K H p [kV kv.1, kv.2]) ps kvs ∧ ∀ p, H p = none → Q (.ref p) (upd H p (.dK (mergeK [] kvs))))
theorem call_dictA (hc : X.calm = true) : CallR X (.type "dict") (rDictA X.K) := CallR.or (CallR.or call_dictD (call_dictP hc)) (call_dictT hc)
end
/-- pairs as a dict's items -/
def kvsC : List Cv → Option (List (Key × Cv))
  | [] => some []
  | .tup [k, v] :: r => match keyC k, kvsC r with | some z, some t => some ((z, v) :: t) | _, _ => none
  | _ => none
def dmerge (acc more : List (Key × Cv)) : List (Key × Cv) := more.foldl (fun a kv => dput a kv.1 kv.2) acc
section
variable {K : PySem.W.Frag} {cm : String → Addr} {H : Hp} {h : Wh}
theorem kvsC_ok : ∀ {xs : List Cv} {Vs : List V} {kvs : List (Key × Cv)}, RelCs K cm H h xs Vs → kvsC xs = some kvs → ∃ (ps : List Addr) (kV' : List (Key × V)), Vs = ps.map V.ref ∧ Paired (fun p kv => SqT K H p [kV kv.1, kv.2]) ps kV' ∧ RelD K cm H h kvs kV'
  | [], _, _, .nil, e => by cases e; exact ⟨[], [], rfl, .nil, .nil⟩
  | x :: xs, _, kvs, .cons r t, e => by
    unfold kvsC at e
    split at e
    · next heq => cases heq
    · next k v rr heq =>
      cases heq
      split at e
      · next z tt e1 e2 =>
        cases e
        obtain ⟨ps, kV', rfl, hp, rd⟩ := kvsC_ok t e2
        cases r with
        | tup e3 _ r3 =>
          cases r3 with
          | cons ra rb =>
            cases rb with
            | cons rb rc =>
              cases rc
              have := keyC_ok ra e1
              subst this
              exact ⟨_ :: ps, (z, _) :: kV', rfl, .cons e3 hp, .cons ⟨rfl, rb⟩ rd⟩
      · cases e
    · cases e
theorem RelD.merge : ∀ {more : List (Key × Cv)} {mV : List (Key × V)} {acc : List (Key × Cv)} {aV : List (Key × V)}, RelD K cm H h more mV → RelD K cm H h acc aV → RelD K cm H h (dmerge acc more) (mergeK aV mV)
  | _, _, _, _, .nil, ra => ra
  | _, _, _, _, .cons (a := p) (b := q) r t, ra => by
    show RelD K cm H h (dmerge (dput _ p.1 p.2) _) (mergeK (putK _ q.1 q.2) _)
    rw [r.1]
    exact RelD.merge t (ra.put r.2)
theorem newDct {q : Cv → CH → Prop} {Q : VK} {kvs : List (Key × Cv)} {kV : List (Key × V)} (S : Rst K cm H h) (r : RelD K cm H h kvs kV) (c : ∀ p, h.c p = none → q (.ref p) (cup h.c p (.dct kvs))) (k : Cnv K cm H h q Q) :
    ∀ p, H p = none → Q (.ref p) (upd H p (.dK kV)) := fun p n => k _ _ _ _ (Le.new S n) (S.new (u := .dct kvs) n ⟨_, upd_same, r.mono S (Le.new S n)⟩) (.ref p) (c p (S.dead n))
/-- dict(x): of a dict, or of a list or a tuple of pairs -/
def gDict : CF := fun xs h q => match xs with
  | [.ref a] => kDr (h a) fun kvs => ∀ p, h p = none → q (.ref p) (cup h p (.dct kvs))
  | [x] => ∃ ys kvs, asQ x h = some ys ∧ kvsC ys = some kvs ∧ ∀ p, h p = none → q (.ref p) (cup h p (.dct (dmerge [] kvs)))
  | _ => False
theorem cc_dict : CallC K cm (rDictA K) gDict := fun H h xs Vs q Q S r c k => by
  unfold gDict at c
  split at c
  · obtain ⟨v, rfl, r1⟩ := r.one
    cases r1
    obtain ⟨kvs, kV', e2, rd, c5⟩ := kDr_ok S c
    exact .inl (.inl ⟨_, _, rfl, e2, newDct S rd c5 k⟩)
  · obtain ⟨v, rfl, r1⟩ := r.one
    obtain ⟨ys, kvs, e1, e2, c5⟩ := c
    obtain ⟨a, Vs, rfl, hq, s⟩ := asQ_okD S r1 e1
    obtain ⟨ps, kV', rfl, hp, rd⟩ := kvsC_ok s e2
    rcases hq with hq | ⟨hq, hd⟩
    · exact .inl (.inr ⟨_, _, _, rfl, hq, hp, newDct S (rd.merge .nil) c5 k⟩)
    · exact .inr ⟨_, _, _, rfl, hq, hd, hp, newDct S (rd.merge .nil) c5 k⟩
  · exact c.elim
/-- list(d): the keys -/
def rListD : List V → Hp → VK → Prop := fun xs H Q => ∃ (a : Addr) (kvs : List (Key × V)), xs = [.ref a] ∧ Rd H a (.dK kvs) ∧ ∀ p, H p = none → Q (.ref p) (upd H p (.lst (kvs.map fun kv => kV kv.1)))
theorem call_listDC {X : Cx} (hc : X.calm = true) : CallR X (.type "list") rListD := call_listD hc
def gListD : CF := fun xs h q => match xs with
  | [x] => kRf x fun a => kDr (h a) fun kvs => q (.lv (kvs.map fun kv => kyC kv.1)) h
  | _ => False
theorem RelC.key (k : Key) : RelC K cm H h (kyC k) (kV k) := by cases k with | inl i => exact .int i | inr x => exact .str x
theorem RelD.keys : ∀ {kvs : List (Key × Cv)} {kV' : List (Key × V)}, RelD K cm H h kvs kV' → RelCs K cm H h (kvs.map fun kv => kyC kv.1) (kV'.map fun kv => kV kv.1)
  | _, _, .nil => .nil
  | _, _, .cons (a := p) (b := q) r t => by
    rw [List.map_cons, List.map_cons, r.1]
    exact .cons (.key _) (RelD.keys t)
theorem RelD.fst : ∀ {kvs : List (Key × Cv)} {kV' : List (Key × V)}, RelD K cm H h kvs kV' → kV'.map (·.1) = kvs.map (·.1)
  | _, _, .nil => rfl
  | _, _, .cons r t => by rw [List.map_cons, List.map_cons, r.1, RelD.fst t]
theorem cc_listD : CallC K cm rListD gListD := fun H h xs Vs q Q S r c k => by
  unfold gListD at c
  split at c
  · obtain ⟨v, rfl, r1⟩ := r.one
    obtain ⟨a, rfl, c2⟩ := kRf_ok c
    cases r1
    obtain ⟨kvs, kV', e2, rd, c5⟩ := kDr_ok S c2
    exact ⟨_, _, rfl, e2, newLv S rd.keys c5 k⟩
  · exact c.elim
/-- sorted(d): fewer than 64 keys, all texts, or all ints -/
def rSortedD : List V → Hp → VK → Prop := fun xs H Q => (∃ (a : Addr) (kvs : List (Key × V)) (ks : List Str), xs = [.ref a] ∧ Rd H a (.dK kvs) ∧ kvs.map (·.1) = ks.map Sum.inr ∧ ks.length < 64 ∧
    ∀ ys p, ys.Perm ks → sortedS ys = true → H p = none → Q (.ref p) (upd H p (.lst (ys.map V.str)))) ∨
  (∃ (a : Addr) (kvs : List (Key × V)) (ks : List Int), xs = [.ref a] ∧ Rd H a (.dK kvs) ∧ kvs.map (·.1) = ks.map Sum.inl ∧ ks.length < 64 ∧
    ∀ (ys : List Int) (p : Addr), ys.Perm ks → ys.Pairwise (· ≤ ·) → H p = none → Q (.ref p) (upd H p (.lst (ys.map V.int))))
theorem call_sortedDC {X : Cx} (hc : X.calm = true) : CallR X (.builtin "sorted") rSortedD := CallR.or (call_sortedD hc) (call_sortedDI hc)
def gSortedD : CF := fun xs h q => match xs with
  | [x] => kRf x fun a => kDr (h a) fun kvs => (∃ ks : List Str, kvs.map (·.1) = ks.map Sum.inr ∧ ks.length < 64 ∧ ∀ ys : List Str, ys.Perm ks → sortedS ys = true → q (.lv (ys.map .str)) h) ∨
      (∃ ks : List Int, kvs.map (·.1) = ks.map Sum.inl ∧ ks.length < 64 ∧ ∀ ys : List Int, ys.Perm ks → ys.Pairwise (· ≤ ·) → q (.lv (ys.map .int)) h)
  | _ => False
theorem RelCs.intsL : ∀ ys : List Int, RelCs K cm H h (ys.map .int) (ys.map V.int)
  | [] => .nil
  | y :: ys => .cons (.int y) (RelCs.intsL ys)
theorem cc_sortedD : CallC K cm rSortedD gSortedD := fun H h xs Vs q Q S r c k => by
  unfold gSortedD at c
  split at c
  · obtain ⟨v, rfl, r1⟩ := r.one
    obtain ⟨a, rfl, c2⟩ := kRf_ok c
    cases r1
    obtain ⟨kvs, kV', e2, rd, c5⟩ := kDr_ok S c2
    rcases c5 with ⟨ks, e3, e4, c6⟩ | ⟨ks, e3, e4, c6⟩
    · exact .inl ⟨_, _, ks, rfl, e2, rd.fst.trans e3, e4, fun ys p hp hs n => newLv S RelCs.strs (c6 ys hp hs) k p n⟩
    · exact .inr ⟨_, _, ks, rfl, e2, rd.fst.trans e3, e4, fun ys p hp hs n => newLv S (RelCs.intsL ys) (c6 ys hp hs) k p n⟩
  · exact c.elim
end

/-! ### locks: a dict that is walked -/
/-- what is told is there already -/
def Pick (c : CT) : Prop := ∀ env h q e, c env h q e → ∃ x, q x h
theorem pick_var (i : Nat) : Pick (cVar i) := fun env h q e c => by
  unfold cVar at c
  split at c
  · exact ⟨_, c⟩
  · exact c.elim
theorem pick_fld {c0 : String} {f : Str} {co : CT} (p : Pick co) : Pick (cFld c0 f co) := fun env h q e c => by
  obtain ⟨x, c1⟩ := p _ _ _ _ c
  unfold cObj at c1
  split at c1
  · split at c1
    · obtain ⟨_, c2⟩ := c1
      split at c2
      · exact ⟨_, c2⟩
      · exact c2.elim
    · exact c1.elim
  · obtain ⟨_, c2⟩ := c1
    split at c2
    · exact ⟨_, c2⟩
    · exact c2.elim
  · exact c1.elim
theorem pick_dget {ca cb : CT} (pa : Pick ca) (pb : Pick cb) : Pick (cOp2 gDGet ca cb) := fun env h q e c => by
  obtain ⟨x, c1⟩ := pa _ _ _ _ c
  obtain ⟨y, c2⟩ := pb _ _ _ _ c1
  unfold gDGet at c2
  split at c2
  · unfold kDr at c2
    split at c2
    · obtain ⟨k, _, v, _, c3⟩ := kKy_ok c2
      exact ⟨v, c3⟩
    · obtain ⟨k, _, v, _, c3⟩ := kKy_ok c2
      exact ⟨v, c3⟩
    · exact c2.elim
  · exact c2.elim
def sLock (cd : CT) (c : CS) : CS := fun env h R => cd env h (fun x h1 => kRf x fun d => kDc (h1 d) fun kvs => ∀ tg, c env (cup h1 d (.lck tg kvs))
  ⟨fun env2 h2 => h2 d = some (.lck tg kvs) ∧ R.nx env2 (cup h2 d (.dct kvs)), fun v h2 => h2 d = some (.lck tg kvs) ∧ R.rt v (cup h2 d (.dct kvs)), fun env2 h2 => h2 d = some (.lck tg kvs) ∧ R.bk env2 (cup h2 d (.dct kvs)), fun env2 h2 => h2 d = some (.lck tg kvs) ∧ R.ct env2 (cup h2 d (.dct kvs)), R.ex⟩) fun _ _ => False
def cLock (cd : CT) (c : CT) : CT := fun env h q e => cd env h (fun x h1 => kRf x fun d => kDc (h1 d) fun kvs => ∀ tg, c env (cup h1 d (.lck tg kvs)) (fun v h2 => h2 d = some (.lck tg kvs) ∧ q v (cup h2 d (.dct kvs))) e) fun _ _ => False
section
variable {X : Cx} {cm : String → Addr} {W : WX} {K : PySem.W.Frag} {H : Hp} {h : Wh}
theorem unlock {H2 : Hp} {h2 : Wh} {d : Addr} {od : Obj} {kV' : List (Key × V)} {kvs : List (Key × Cv)} (S2 : Rst K cm H2 h2) (e : h2.c d = some (.lck (od, kV') kvs)) :
    H2 d = some (.frz od (.dK kV')) ∧ Le H2 h2 (upd H2 d (.dK kV')) (wup h2 d (.dct kvs)) ∧ Rst K cm (upd H2 d (.dK kV')) (wup h2 d (.dct kvs)) := by
  obtain ⟨e1, rd⟩ := S2.obj _ _ e
  have l : Le H2 h2 (upd H2 d (.dK kV')) (wup h2 d (.dct kvs)) := Le.write S2 e
  exact ⟨e1, l, S2.write e ⟨kV', upd_same, RelD.mono S2 l rd⟩⟩
theorem cs_lock {st : Stmt} {cd : CT} {c : CS} (pk : Pick cd) (hs : PS X st (sOf X.K cm W c)) : PS X st (sOf X.K cm W (sLock cd c)) := weakS (fun D σ H ⟨h, env, R, S, RE, hc, kn, kr, kb, kc, kx⟩ => by
  obtain ⟨x, c1⟩ := pk _ _ _ _ hc
  obtain ⟨d, rfl, c2⟩ := kRf_ok c1
  obtain ⟨kvs, kV', e1, e2, rd, c3⟩ := kDc_ok S c2
  refine ⟨d, .dK kV', e2, True.intro, fun od => ?_⟩
  have l : Le H h (upd H d (.frz od (.dK kV'))) (wup h d (.lck (od, kV') kvs)) := Le.write S e1
  refine ⟨wup h d (.lck (od, kV') kvs), env, _, S.write e1 ⟨upd_same, rd.mono S l⟩, RE.mono S l, c3 (od, kV'), ?_, ?_, ?_, ?_, kx.mono l⟩
  · intro H2 h2 env2 σ2 l2 S2 RE2 ⟨e3, c4⟩
    obtain ⟨e4, l3, S3⟩ := unlock S2 e3
    exact ⟨e4, kn _ (wup h2 d (.dct kvs)) _ _ ((l.trans l2).trans l3) S3 (RE2.mono S2 l3) c4⟩
  · intro H2 h2 v V l2 S2 rv ⟨e3, c4⟩
    obtain ⟨e4, l3, S3⟩ := unlock S2 e3
    exact ⟨e4, kr _ (wup h2 d (.dct kvs)) _ _ ((l.trans l2).trans l3) S3 (rv.mono S2 l3) c4⟩
  · intro H2 h2 env2 σ2 l2 S2 RE2 ⟨e3, c4⟩
    obtain ⟨e4, l3, S3⟩ := unlock S2 e3
    exact ⟨e4, kb _ (wup h2 d (.dct kvs)) _ _ ((l.trans l2).trans l3) S3 (RE2.mono S2 l3) c4⟩
  · intro H2 h2 env2 σ2 l2 S2 RE2 ⟨e3, c4⟩
    obtain ⟨e4, l3, S3⟩ := unlock S2 e3
    exact ⟨e4, kc _ (wup h2 d (.dct kvs)) _ _ ((l.trans l2).trans l3) S3 (RE2.mono S2 l3) c4⟩) (ps_lock hs)
theorem ce_lock {e : Expr} {cd : CT} {c : CT} (pk : Pick cd) (he : PE X e (eOf X.K cm W c)) : PE X e (eOf X.K cm W (cLock cd c)) := weakE (fun σ H Q ⟨h, env, q, ex, S, RE, hc, k, kx⟩ => by
  obtain ⟨x, c1⟩ := pk _ _ _ _ hc
  obtain ⟨d, rfl, c2⟩ := kRf_ok c1
  obtain ⟨kvs, kV', e1, e2, rd, c3⟩ := kDc_ok S c2
  refine ⟨d, .dK kV', e2, True.intro, fun od => ?_⟩
  have l : Le H h (upd H d (.frz od (.dK kV'))) (wup h d (.lck (od, kV') kvs)) := Le.write S e1
  refine ⟨wup h d (.lck (od, kV') kvs), env, _, ex, S.write e1 ⟨upd_same, rd.mono S l⟩, RE.mono S l, c3 (od, kV'), ?_, kx.mono l⟩
  intro H2 h2 v V l2 S2 rv ⟨e3, c4⟩
  obtain ⟨e4, l3, S3⟩ := unlock S2 e3
  exact ⟨e4, k _ (wup h2 d (.dct kvs)) _ _ ((l.trans l2).trans l3) S3 (rv.mono S2 l3) c4⟩) (pe_lock he)
end
end Co
end
section
/-! Core24: isinstance of an own class. -/
namespace Co
open PySem PySem.Spec PyProof.Rows L2
structure IsC (K : PySem.W.Frag) (C : Addr) : Prop where
  cl : Cls K C
  ha : PySem.W.findIn K (.ref C) "__class__" = some (some (.builtin "object.__class__"))
  hn : PySem.W.specialIn K (.builtin "object.__class__") "__get__" = some (some (.builtin "getset_descriptor.__get__"))
  tk : PySem.W.takesIn K (.builtin "object.__class__") = some true
  hm : PySem.W.mroIn K C (.type "object") = some true
/-- an own class (true), or a built-in one -/
def tyO (x : Cv) (h : CH) : Option (Bool × String) := match x with
  | .ov c _ => some (true, c)
  | .ref a => match h a with | some (.ins c _) => some (true, c) | _ => (tyC (.ref a) h).map (Prod.mk false)
  | x => (tyC x h).map (Prod.mk false)
def gIsO (ks : List ((Bool × String) × Bool)) (x : Cv) (h : CH) (q : Cv → CH → Prop) : Prop := match tyO x h with
  | some t => (match ks.lookup t with | some b => q (.bl b) h | none => False)
  | none => False
def cIsO (ks : List ((Bool × String) × Bool)) (ca : CT) : CT := fun env h q e => ca env h (fun x h1 => gIsO ks x h1 q) e
/-- what the facts must say -/
def KitO (K : PySem.W.Frag) (cm : String → Addr) (u : Value) (n : Bool × String) (b : Bool) : Prop := (n.1 = true ∧ IsC K (cm n.2) ∧ PySem.W.kitOne K (.ref (cm n.2)) u = some b) ∨ (n.1 = false ∧ PySem.W.kitOne K (.type n.2) u = some b)
theorem lookup_memG {α β : Type} [BEq α] [LawfulBEq α] {x : α} {b : β} : ∀ {l : List (α × β)}, l.lookup x = some b → (x, b) ∈ l
  | [], h => by cases h
  | (y, c) :: r, h => by
    rw [List.lookup_cons] at h
    cases e : x == y with
    | true => rw [e] at h; cases h; rw [eq_of_beq e]; exact List.mem_cons_self
    | false => rw [e] at h; exact List.mem_cons_of_mem _ (lookup_memG h)
section
variable {X : Cx} {cm : String → Addr} {W : WX} {K : PySem.W.Frag} {H : Hp} {h : Wh} {e : Expr} {ca : CT} {pos p : Pos}
theorem tyO_ok {x : Cv} {V : V} {t : Bool × String} (S : Rst K cm H h) (r : RelC K cm H h x V) (e : tyO x h.c = some t) : (t.1 = true ∧ ∃ a dx fV, V = .ref a ∧ H a = some (.ins (cm t.2) dx fV)) ∨ (t.1 = false ∧ TyX K H V (.type t.2)) := by
  have base : ∀ {y : Cv}, RelC K cm H h y V → (tyC y h.c).map (Prod.mk false) = some t → (t.1 = false ∧ TyX K H V (.type t.2)) := fun {y} r e => by
    cases ty : tyC y h.c with
    | none => rw [ty] at e; cases e
    | some s =>
      rw [ty] at e
      cases e
      exact ⟨rfl, (tyC_ok S r ty).1⟩
  cases r with
  | ov e1 n r => cases e; exact .inl ⟨rfl, _, _, _, rfl, e1⟩
  | ref a =>
    unfold tyO at e
    dsimp only at e
    split at e
    · next c fs e1 =>
      cases e
      obtain ⟨dx, fV, e2, _⟩ := S.obj _ _ e1
      exact .inl ⟨rfl, _, _, _, rfl, e2⟩
    · exact .inr (base (.ref a) e)
  | non => exact .inr (base .non e)
  | bl b => exact .inr (base (.bl b) e)
  | int b => exact .inr (base (.int b) e)
  | str b => exact .inr (base (.str b) e)
  | tup a b c => exact .inr (base (.tup a b c) e)
  | lv a b c => exact .inr (base (.lv a b c) e)
  | fz a b => exact .inr (base (.fz a b) e)
theorem ce_isO {ks : List ((Bool × String) × Bool)} {Tx : Str} {c : V} {u : Value} {p2 : Pos} (gi : Gl X "isinstance") (mi : X.mg "isinstance" = none) (hT : ClsN X Tx c u) (ha : PE X e (eOf X.K cm W ca))
    (hm : ∀ n b, (n, b) ∈ ks → KitO X.K cm u n b)
    (bi : bootBuiltins "isinstance" = some (.builtin "isinstance") := by decide +kernel)
    (hs2 : starEach [.Name Tx p2] X.env = (false, eval (.Name Tx p2) X.env) :: starEach [] X.env := by rfl)
    (he : starEach (e :: [.Name Tx p2]) X.env = (false, eval e X.env) :: starEach [.Name Tx p2] X.env := by rfl) (hpl : (backTo pos (starEach [.Name Tx p2] X.env)).any (·.1) = false := by rfl) :
    PE X (.Call (.Name "isinstance" p) [e, .Name Tx p2] [] pos) (eOf X.K cm W (cIsO ks ca)) := weakE (fun σ H Q ⟨h, env, q, ex, S, R, hc, k, kx⟩ =>
  ⟨h, env, _, ex, S, R, hc, fun H1 h1 x V l1 S1 r1 c1 => by
    have c1 : gIsO ks x h1.c q := c1
    unfold gIsO at c1
    split at c1
    · next t et =>
      split at c1
      · next b eb =>
        have hk := hm t b (lookup_memG eb)
        have k1 := k _ _ _ _ l1 S1 (.bl b) c1
        rcases tyO_ok S1 r1 et with ⟨e1, a, dx, fV, rfl, e2⟩ | ⟨e1, e2⟩
        · rcases hk with ⟨_, I, kk⟩ | ⟨z, _⟩
          · exact ⟨_, c, _, u, b, rfl, hT.1, .base (.ins e2 I.cl I.ha I.hn I.tk I.hm), kk, k1⟩
          · rw [e1] at z; cases z
        · rcases hk with ⟨z, _⟩ | ⟨_, kk⟩
          · rw [e1] at z; cases z
          · exact ⟨_, c, _, u, b, rfl, hT.1, e2, kk, k1⟩
      · exact c1.elim
    · exact c1.elim, kx⟩)
  (pe_callB call_isi gi mi bi (pa_cons ha (pa_cons (hT.2 p2) pa_nil hs2) he) (by decide) (by decide) he hpl)
end
end Co
namespace Lw
open PySem PySem.Spec L2 Co
theorem fb_isc {K : PySem.W.Frag} {x : Str} (cl : Cls K (He.ga K x)) (c : (Fb.isc x).ok K = true) : Co.IsC K (He.ga K x) := by
  have c' := c
  unfold Fb.ok at c'
  simp only [Bool.and_eq_true, decide_eq_true_eq] at c'
  exact ⟨cl, c'.1, c'.2.1, c'.2.2.1, c'.2.2.2⟩
theorem fb_kitN {K : PySem.W.Frag} {T : String} {x : Str} {b : Bool} (c : (Fb.kitN T x b).ok K = true) : PySem.W.kitOne K (.type T) (.ref (He.ga K x)) = some b := of_decide_eq_true c
theorem ko_nil {P : (Bool × String) → Bool → Prop} : ∀ n b, (n, b) ∈ ([] : List ((Bool × String) × Bool)) → P n b := fun _ _ h => by cases h
theorem ko_cons {P : (Bool × String) → Bool → Prop} {n0 : Bool × String} {b0 : Bool} {ms : List ((Bool × String) × Bool)} (h0 : P n0 b0) (h : ∀ n b, (n, b) ∈ ms → P n b) : ∀ n b, (n, b) ∈ (n0, b0) :: ms → P n b := fun n b hm => by
  rcases List.mem_cons.mp hm with e | e
  · cases e; exact h0
  · exact h n b e
end Lw
namespace Co
open PySem PySem.Spec L2
theorem ok_false {P : Program} {w : World} {K : PySem.W.Frag} {mg : Str → Option Value} {base : Heap} {cm : String → Addr} {k : Nat} {fa : Addr} {fd : FuncData} {ps : List Str} {n : Nat} : OkD P w K mg base cm k fa fd ps n (fun _ _ _ _ => False) :=
  ⟨fun vs H Q E ⟨_, _, _, _, _, _, z, _⟩ => z.elim, fun A outer s H args us vs Q E hr he hb hv ⟨_, _, _, _, _, _, z, _⟩ => z.elim⟩
theorem pick_c (v : Cv) : Pick (cC v) := fun env h q e c => ⟨_, c⟩
end Co
namespace Co
open PySem PySem.Spec L2
theorem ofs_inj {a b : String} (h : Str.ofString a = Str.ofString b) : a = b := by
  rw [Str.ofString_eq_toList, Str.ofString_eq_toList] at h
  have h2 : a.toList.map Char.toNat = b.toList.map Char.toNat := by
    have := congrArg (fun s : Str => s.cps.toList) h
    simpa using this
  have inj : ∀ (x y : List Char), x.map Char.toNat = y.map Char.toNat → x = y := by
    intro x
    induction x with
    | nil => intro y e; cases y <;> simp_all
    | cons c x ih =>
      intro y e
      cases y with
      | nil => simp at e
      | cons d y =>
        rw [List.map_cons, List.map_cons] at e
        have e1 := (List.cons.inj e).1
        rw [ih y (List.cons.inj e).2]
        have e3 : c = d := Char.toNat_inj.mp e1
        rw [e3]
  exact String.toList_inj.mp (inj _ _ h2)
theorem ofs_eq (a b : String) : (Str.ofString a = Str.ofString b) = (a = b) := propext ⟨ofs_inj, fun h => h ▸ rfl⟩
theorem ofs_beq (a b : String) : (Str.ofString a == Str.ofString b) = decide (a = b) := by
  by_cases h : a = b
  · subst h; simp
  · rw [decide_eq_false h]
    exact beq_eq_false_iff_ne.mpr fun z => h (ofs_inj z)
end Co
end
section
/-! Core25: max of a list, list.pop(), list.clear(), str.split, str.startswith, isinstance of several built-in types. -/
namespace Co
open PySem PySem.Spec PyProof.Rows L2
section
variable {X : Cx} {cm : String → Addr} {W : WX} {K : PySem.W.Frag} {H : Hp} {h : Wh} {e : Expr} {ca : CT} {pos p : Pos}
/-- max(xs), xs a list of ints -/
def gMaxL : CF := fun xs h q => match xs with
  | [x] => ∃ ns : List Int, asF x h = some (ns.map .int) ∧ ns ≠ [] ∧ ∀ m, m ∈ ns → (∀ y, y ∈ ns → y ≤ m) → q (.int m) h
  | _ => False
theorem cc_maxL : CallC K cm (rMax K) gMaxL := fun H h xs Vs q Q S r c k => by
  unfold gMaxL at c
  split at c
  · obtain ⟨v, rfl, r1⟩ := r.one
    obtain ⟨ns, e1, n0, c2⟩ := c
    obtain ⟨a, Vs, rfl, hq, s⟩ := asF_ok S r1 e1
    have ei := s.inv_ints
    subst ei
    refine ⟨a, ns, rfl, hq, ?_, fun m hm hy => k _ _ _ _ .refl S (.int _) (c2 m hm hy)⟩
    cases ns with
    | nil => exact (n0 rfl).elim
    | cons _ _ => simp
  · exact c.elim
/-- xs.pop() -/
def gPop0 : CM := fun x xs h q => match x, xs with
  | .ref a, [] => (match h a with | some (.lst ys) => (match ys[ys.length - 1]? with | some y => q y (cup h a (.lst ys.dropLast)) | none => False) | _ => False)
  | _, _ => False
theorem RelCs.dropLast {xs : List Cv} {vs : List V} (r : RelCs K cm H h xs vs) : RelCs K cm H h xs.dropLast vs.dropLast := by
  rw [List.dropLast_eq_take, List.dropLast_eq_take, r.length]
  exact r.take _
theorem mc_pop0 : MtC K cm rPop gPop0 := fun H h x V xs Vs q Q S r rs c k => by
  unfold gPop0 at c
  split at c
  · cases r
    cases rs
    split at c
    · next ys ex =>
      split at c
      · next y ey =>
        obtain ⟨Us, e1, r1⟩ := S.obj _ _ ex
        obtain ⟨v, ev, rv⟩ := r1.get ey
        obtain ⟨l, S2⟩ := wr_lst S ex r1.dropLast
        exact ⟨_, Us, v, rfl, rfl, e1, by rw [← r1.length]; exact ev, k _ _ _ _ l S2 (rv.mono S l) c⟩
      · exact c.elim
    · exact c.elim
  · exact c.elim
/-- xs.clear() -/
def gClear : CM := fun x xs h q => match x, xs with
  | .ref a, [] => (match h a with | some (.lst ys) => q .non (cup h a (.lst [])) | _ => False)
  | _, _ => False
theorem mc_clear : MtC K cm rClear gClear := fun H h x V xs Vs q Q S r rs c k => by
  unfold gClear at c
  split at c
  · cases r
    cases rs
    split at c
    · next ys ex =>
      obtain ⟨Us, e1, r1⟩ := S.obj _ _ ex
      obtain ⟨l, S2⟩ := wr_lst S ex (ys := []) .nil
      exact ⟨_, Us, rfl, rfl, e1, k _ _ _ _ l S2 .non c⟩
    · exact c.elim
  · exact c.elim
/-- s.split(t) -/
def gSplit : CM := fun x xs h q => match x, xs with
  | .str a, [.str b] => (b.length == 0) = false ∧ a.length ≤ 1000000 ∧ q (.lv ((Txt.split a b).map .str)) h
  | _, _ => False
def rSplitC : V → List V → Hp → VK → Prop := fun x xs H Q => ∃ a b, x = .str a ∧ xs = [.str b] ∧ (b.length == 0) = false ∧ a.length + 2 ≤ sizeLine ∧ rNewStrs (Txt.split a b) H Q
theorem mt_splitC : MtR X "str.split" rSplitC := mt_split
theorem mc_split : MtC K cm rSplitC gSplit := fun H h x V xs Vs q Q S r rs c k => by
  unfold gSplit at c
  split at c
  · cases r
    obtain ⟨U, rfl, ru⟩ := rs.one
    cases ru
    exact ⟨_, _, rfl, rfl, c.1, by rw [sizeLine_eq]; omega, newLv S RelCs.strs c.2.2 k⟩
  · exact c.elim
/-- s.startswith(t) -/
def gStarts : CM := fun x xs h q => match x, xs with
  | .str a, [.str b] => q (.bl (Txt.startswith a b)) h
  | _, _ => False
def rStartsC : V → List V → Hp → VK → Prop := fun x xs H Q => ∃ a b, x = .str a ∧ xs = [.str b] ∧ Q (.bl (Txt.startswith a b)) H
theorem mt_startsC : MtR X "str.startswith" rStartsC := mt_startswith
theorem mc_starts : MtC K cm rStartsC gStarts := fun H h x V xs Vs q Q S r rs c k => by
  unfold gStarts at c
  split at c
  · cases r
    obtain ⟨U, rfl, ru⟩ := rs.one
    cases ru
    exact ⟨_, _, rfl, rfl, k _ _ _ _ .refl S (.bl _) c⟩
  · exact c.elim
/-- isinstance(x, (T1, T2)), built-in types -/
def anyB (t : String) (Ts : List String) : Bool := Ts.any fun T => isB t T
def gIsiT (Ts : List String) (x : Cv) (h : CH) (q : Cv → CH → Prop) : Prop := match tyC x h with | some t => q (.bl (anyB t Ts)) h | none => False
def cIsiT (Ts : List String) (ca : CT) : CT := fun env h q e => ca env h (fun x h1 => gIsiT Ts x h1 q) e
theorem kitAny_T {K : PySem.W.Frag} {t : String} (ht : t ∈ ["NoneType", "bool", "int", "str", "tuple", "list", "dict"]) : ∀ {Ts : List String}, (∀ T ∈ Ts, T ∈ ["bool", "int", "str", "tuple", "list"]) → PySem.W.kitAny K (.type t) (Ts.map Value.type) = some (anyB t Ts)
  | [], _ => rfl
  | T :: Ts, h => by
    have h1 := kit_ty (K := K) (kit_all t ht T (h T (List.mem_cons_self ..)))
    have h2 := kitAny_T (K := K) ht (fun z hz => h z (List.mem_cons_of_mem _ hz))
    unfold anyB
    rw [List.map_cons, List.any_cons]
    cases hb : isB t T with
    | true => rw [hb] at h1; exact kitAny_cons h1 (fun z => by cases z) fun _ => by simp
    | false => rw [hb] at h1; exact kitAny_cons h1 (fun _ => by simpa [anyB] using h2) fun z => by cases z
inductive TyNs (X : Cx) : List Expr → List V → List String → Prop
  | nil : TyNs X [] [] []
  | cons {Tx : Str} {T : String} {p2 : Pos} {es : List Expr} {cs : List V} {Ts : List String} (h : ClsN X Tx (.ty T) (.type T)) (t : TyNs X es cs Ts) (hs : starEach (.Name Tx p2 :: es) X.env = (false, eval (.Name Tx p2) X.env) :: starEach es X.env := by rfl) : TyNs X (.Name Tx p2 :: es) (.ty T :: cs) (T :: Ts)
theorem TyNs.pa : ∀ {es : List Expr} {cs : List V} {us : List String}, TyNs X es cs us → PA X es (tCs cs)
  | _, _, _, .nil => pa_nil
  | _, _, _, .cons h t hs => pa_cons (h.2 _) t.pa hs
theorem TyNs.pr : ∀ {es : List Expr} {cs : List V} {us : List String}, TyNs X es cs us → Paired ClsV cs (us.map Value.type)
  | _, _, _, .nil => .nil
  | _, _, _, .cons h t _ => .cons h.1 t.pr
theorem TyNs.len : ∀ {es : List Expr} {cs : List V} {us : List String}, TyNs X es cs us → cs.length = es.length
  | _, _, _, .nil => rfl
  | _, _, _, .cons h t _ => congrArg Nat.succ t.len
theorem TyX.upd' {H : Hp} {x : V} {t : Value} {p : Addr} {o : HO} (n : H p = none) (h : TyX K H x t) : TyX K (upd H p o) x t := by
  have go : ∀ {a : Addr} {u : HO}, H a = some u → upd H p o a = some u := fun e => by rw [upd_ne (ne_of_none e n)]; exact e
  cases h with
  | base b =>
    cases b with
    | non => exact .base .non
    | bl x => exact .base (.bl x)
    | int x => exact .base (.int x)
    | str x => exact .base (.str x)
    | flt x => exact .base (.flt x)
    | lst e => exact .base (.lst (go e))
    | frz e => exact .base (.frz (go e))
    | tup e => exact .base (.tup (go e))
    | dK e => exact .base (.dK (go e))
    | dT e => exact .base (.dT (go e))
    | ins e cl a b c d => exact .base (.ins (go e) cl a b c d)
  | byt b => exact .byt b
  | set e => exact .set (go e)
  | kList e c => exact .kList e c
  | kTuple e c => exact .kTuple e c
  | kDict e c => exact .kDict e c
  | fTuple e => exact .fTuple (go e)
  | fDict e => exact .fDict (go e)
theorem ce_isiT {Ts : List String} {es : List Expr} {cs : List V} {x1 : _} {p2 : Pos} (hTs : ∀ T ∈ Ts, T ∈ ["bool", "int", "str", "tuple", "list"]) (gi : Gl X "isinstance") (mi : X.mg "isinstance" = none) (hT : TyNs X es cs Ts) (ha : PE X e (eOf X.K cm W ca)) (hl : es.length ≤ 100 := by decide)
    (bi : bootBuiltins "isinstance" = some (.builtin "isinstance") := by decide +kernel)
    (hs2 : starEach [.Tuple es x1 p2] X.env = (false, eval (.Tuple es x1 p2) X.env) :: starEach [] X.env := by rfl)
    (he : starEach (e :: [.Tuple es x1 p2]) X.env = (false, eval e X.env) :: starEach [.Tuple es x1 p2] X.env := by rfl) (hpl : (backTo pos (starEach [.Tuple es x1 p2] X.env)).any (·.1) = false := by rfl) :
    PE X (.Call (.Name "isinstance" p) [e, .Tuple es x1 p2] [] pos) (eOf X.K cm W (cIsiT Ts ca)) := weakE (fun σ H Q ⟨h, env, q, ex, S, R, hc, k, kx⟩ =>
  ⟨h, env, _, ex, S, R, hc, fun H1 h1 x V l1 S1 r1 c1 => by
    have c1 : gIsiT Ts x h1.c q := c1
    unfold gIsiT at c1
    split at c1
    · next t et =>
      obtain ⟨t1, t2⟩ := tyC_ok S1 r1 et
      show tCs cs σ H1 (fun xs H2 => xs.length ≤ sizeLine ∧ ∀ p, H2 p = none → rIsiT X.K [V, L2.V.ref p] (upd H2 p (.tup xs)) Q)
      rw [tCs_run]
      refine ⟨by rw [hT.len, sizeLine_eq]; omega, fun tp n2 => ?_⟩
      exact ⟨V, tp, cs, .type t, Ts.map Value.type, _, rfl, upd_same, hT.pr, TyX.upd' n2 t1, kitAny_T t2 hTs, k _ _ _ _ (l1.trans (Le.plain S1 n2)) (Rst.plain S1 n2) (.bl _) c1⟩
    · exact c1.elim, kx⟩)
  (pe_callB call_isiT gi mi bi (pa_cons ha (pa_cons (pe_tup hT.pa) pa_nil hs2) he) (by decide) (by decide) he hpl)
/-! ### == of live lists -/
def vw (x : Cv) (h : CH) : Cv := match x with
  | .ref a => (match h a with | some (.lst xs) => .lv xs | _ => x)
  | x => x
def gEqV : CG := fun x y h q => gEq (vw x h) (vw y h) h q
def gNeV : CG := fun x y h q => gNe (vw x h) (vw y h) h q
theorem vw_cases (x : Cv) (h : CH) : vw x h = x ∨ ∃ a xs, x = .ref a ∧ h a = some (.lst xs) ∧ vw x h = .lv xs := by
  cases x with
  | ref a =>
    cases e : h a with
    | none => left; simp [vw, e]
    | some o => cases o with
      | lst xs => right; exact ⟨a, xs, rfl, e, by simp [vw, e]⟩
      | _ => left; simp [vw, e]
  | _ => left; rfl
theorem vw_dp {x : Cv} {V : V} (S : Rst K cm H h) (r : RelC K cm H h x V) (z : okd (vw x h.c)) : Dp K H V (dOf (vw x h.c)) := by
  rcases vw_cases x h.c with e | ⟨a, xs, rfl, e1, e2⟩
  · rw [e] at z ⊢; exact dp_okd r z
  · rw [e2] at z ⊢
    cases r
    exact dp_okd (frz_lst S e1) z
theorem gEq_lvl {xs : List Cv} {y : Cv} {g : CH} {q : Cv → CH → Prop} : gEq (.lv xs) y g q = (okd (.lv xs) ∧ okd y ∧ q (.bl (ceq (.lv xs) y)) g) := by cases y <;> rfl
theorem gEq_lvr {xs : List Cv} {y : Cv} {g : CH} {q : Cv → CH → Prop} : gEq y (.lv xs) g q = (okd y ∧ okd (.lv xs) ∧ q (.bl (ceq y (.lv xs))) g) := by cases y <;> rfl
theorem gNe_lvl {xs : List Cv} {y : Cv} {g : CH} {q : Cv → CH → Prop} : gNe (.lv xs) y g q = (okd (.lv xs) ∧ okd y ∧ q (.bl (!ceq (.lv xs) y)) g) := by cases y <;> rfl
theorem gNe_lvr {xs : List Cv} {y : Cv} {g : CH} {q : Cv → CH → Prop} : gNe y (.lv xs) g q = (okd y ∧ okd (.lv xs) ∧ q (.bl (!ceq y (.lv xs))) g) := by cases y <;> rfl
theorem oc_eqV : OpC K cm (fun x y H Q => rEq x y H Q ∨ rEqD K x y H Q) gEqV := fun H h x y V U q Q S r1 r2 c k => by
  have c : gEq (vw x h.c) (vw y h.c) h.c q := c
  have all : okd (vw x h.c) → okd (vw y h.c) → q (.bl (ceq (vw x h.c) (vw y h.c))) h.c → rEq V U H Q ∨ rEqD K V U H Q := fun c1 c2 c3 =>
    .inr ⟨_, _, vw_dp S r1 c1, vw_dp S r2 c2, c1, c2, k _ _ _ _ .refl S (.bl _) c3⟩
  rcases vw_cases x h.c with e | ⟨a, xs, rfl, e1, e2⟩
  · rcases vw_cases y h.c with e' | ⟨a', xs', rfl, e1', e2'⟩
    · rw [e, e'] at c
      exact oc_eq H h x y V U q Q S r1 r2 c k
    · rw [e2', gEq_lvr] at c
      rw [e2'] at all
      exact all c.1 c.2.1 c.2.2
  · rw [e2, gEq_lvl] at c
    rw [e2] at all
    exact all c.1 c.2.1 c.2.2
theorem oc_neV : OpC K cm (fun x y H Q => rNe x y H Q ∨ rNeD K x y H Q) gNeV := fun H h x y V U q Q S r1 r2 c k => by
  have c : gNe (vw x h.c) (vw y h.c) h.c q := c
  have all : okd (vw x h.c) → okd (vw y h.c) → q (.bl (!ceq (vw x h.c) (vw y h.c))) h.c → rNe V U H Q ∨ rNeD K V U H Q := fun c1 c2 c3 =>
    .inr ⟨_, _, vw_dp S r1 c1, vw_dp S r2 c2, c1, c2, k _ _ _ _ .refl S (.bl _) c3⟩
  rcases vw_cases x h.c with e | ⟨a, xs, rfl, e1, e2⟩
  · rcases vw_cases y h.c with e' | ⟨a', xs', rfl, e1', e2'⟩
    · rw [e, e'] at c
      exact oc_ne H h x y V U q Q S r1 r2 c k
    · rw [e2', gNe_lvr] at c
      rw [e2'] at all
      exact all c.1 c.2.1 c.2.2
  · rw [e2, gNe_lvl] at c
    rw [e2] at all
    exact all c.1 c.2.1 c.2.2
theorem w_eqv_l {a : Addr} {xs : List Cv} {y : Cv} {g : CH} {q : Cv → CH → Prop} (e : g a = some (.lst xs)) (hy : vw y g = y) : gEqV (.ref a) y g q = (okd (.lv xs) ∧ okd y ∧ q (.bl (ceq (.lv xs) y)) g) := by
  unfold gEqV
  have : vw (.ref a) g = .lv xs := by simp [vw, e]
  rw [this, hy, gEq_lvl]
theorem w_nev_l {a : Addr} {xs : List Cv} {y : Cv} {g : CH} {q : Cv → CH → Prop} (e : g a = some (.lst xs)) (hy : vw y g = y) : gNeV (.ref a) y g q = (okd (.lv xs) ∧ okd y ∧ q (.bl (!ceq (.lv xs) y)) g) := by
  unfold gNeV
  have : vw (.ref a) g = .lv xs := by simp [vw, e]
  rw [this, hy, gNe_lvl]
end
end Co
end
section
/-! CoreW: one step each; what is not known yet stays folded. -/
namespace Co
open PySem L2
def kBl (x : Cv) (k : Bool → Prop) : Prop := match x with | .bl b => k b | _ => False
theorem kBl_bl (b : Bool) (k : Bool → Prop) : kBl (.bl b) k = k b := propext Iff.rfl
def kSm {α : Type} (o : Option α) (k : α → Prop) : Prop := match o with | some x => k x | none => False
theorem kSm_s {α : Type} (x : α) (k : α → Prop) : kSm (some x) k = k x := propext Iff.rfl
theorem kRf_r (a : Addr) (k : Addr → Prop) : kRf (.ref a) k = k a := propext Iff.rfl
/-- the items of a live list -/
def kLs (o : Option Cob) (k : List Cv → Prop) : Prop := match o with | some (.lst xs) => k xs | _ => False
theorem kLs_s (xs : List Cv) (k : List Cv → Prop) : kLs (some (.lst xs)) k = k xs := propext Iff.rfl
def kOb (o : Option Cob) (k : String → List (Str × Cv) → Prop) : Prop := match o with | some (.ins c fs) => k c fs | _ => False
theorem kOb_s (c : String) (fs : List (Str × Cv)) (k : String → List (Str × Cv) → Prop) : kOb (some (.ins c fs)) k = k c fs := propext Iff.rfl
section
variable (h : CH) (q : Cv → CH → Prop) (e : XQ) (env : CEnv) (R : CEnds)

theorem w_var0 {v : Cv} {r : CEnv} : cVar 0 (some v :: r) h q e = q v h := propext Iff.rfl
theorem w_var1 {a0 : Option Cv} {v : Cv} {r : CEnv} : cVar 1 (a0 :: some v :: r) h q e = q v h := propext Iff.rfl
theorem w_var2 {a0 a1 : Option Cv} {v : Cv} {r : CEnv} : cVar 2 (a0 :: a1 :: some v :: r) h q e = q v h := propext Iff.rfl
theorem w_var3 {a0 a1 a2 : Option Cv} {v : Cv} {r : CEnv} : cVar 3 (a0 :: a1 :: a2 :: some v :: r) h q e = q v h := propext Iff.rfl
theorem w_var4 {a0 a1 a2 a3 : Option Cv} {v : Cv} {r : CEnv} : cVar 4 (a0 :: a1 :: a2 :: a3 :: some v :: r) h q e = q v h := propext Iff.rfl
theorem w_var5 {a0 a1 a2 a3 a4 : Option Cv} {v : Cv} {r : CEnv} : cVar 5 (a0 :: a1 :: a2 :: a3 :: a4 :: some v :: r) h q e = q v h := propext Iff.rfl
theorem w_var6 {a0 a1 a2 a3 a4 a5 : Option Cv} {v : Cv} {r : CEnv} : cVar 6 (a0 :: a1 :: a2 :: a3 :: a4 :: a5 :: some v :: r) h q e = q v h := propext Iff.rfl
theorem w_var7 {a0 a1 a2 a3 a4 a5 a6 : Option Cv} {v : Cv} {r : CEnv} : cVar 7 (a0 :: a1 :: a2 :: a3 :: a4 :: a5 :: a6 :: some v :: r) h q e = q v h := propext Iff.rfl
theorem w_var8 {a0 a1 a2 a3 a4 a5 a6 a7 : Option Cv} {v : Cv} {r : CEnv} : cVar 8 (a0 :: a1 :: a2 :: a3 :: a4 :: a5 :: a6 :: a7 :: some v :: r) h q e = q v h := propext Iff.rfl
theorem w_var9 {a0 a1 a2 a3 a4 a5 a6 a7 a8 : Option Cv} {v : Cv} {r : CEnv} : cVar 9 (a0 :: a1 :: a2 :: a3 :: a4 :: a5 :: a6 :: a7 :: a8 :: some v :: r) h q e = q v h := propext Iff.rfl
theorem w_var10 {a0 a1 a2 a3 a4 a5 a6 a7 a8 a9 : Option Cv} {v : Cv} {r : CEnv} : cVar 10 (a0 :: a1 :: a2 :: a3 :: a4 :: a5 :: a6 :: a7 :: a8 :: a9 :: some v :: r) h q e = q v h := propext Iff.rfl
theorem w_var11 {a0 a1 a2 a3 a4 a5 a6 a7 a8 a9 a10 : Option Cv} {v : Cv} {r : CEnv} : cVar 11 (a0 :: a1 :: a2 :: a3 :: a4 :: a5 :: a6 :: a7 :: a8 :: a9 :: a10 :: some v :: r) h q e = q v h := propext Iff.rfl
theorem w_var12 {a0 a1 a2 a3 a4 a5 a6 a7 a8 a9 a10 a11 : Option Cv} {v : Cv} {r : CEnv} : cVar 12 (a0 :: a1 :: a2 :: a3 :: a4 :: a5 :: a6 :: a7 :: a8 :: a9 :: a10 :: a11 :: some v :: r) h q e = q v h := propext Iff.rfl
theorem w_var13 {a0 a1 a2 a3 a4 a5 a6 a7 a8 a9 a10 a11 a12 : Option Cv} {v : Cv} {r : CEnv} : cVar 13 (a0 :: a1 :: a2 :: a3 :: a4 :: a5 :: a6 :: a7 :: a8 :: a9 :: a10 :: a11 :: a12 :: some v :: r) h q e = q v h := propext Iff.rfl
theorem w_var14 {a0 a1 a2 a3 a4 a5 a6 a7 a8 a9 a10 a11 a12 a13 : Option Cv} {v : Cv} {r : CEnv} : cVar 14 (a0 :: a1 :: a2 :: a3 :: a4 :: a5 :: a6 :: a7 :: a8 :: a9 :: a10 :: a11 :: a12 :: a13 :: some v :: r) h q e = q v h := propext Iff.rfl
theorem w_var15 {a0 a1 a2 a3 a4 a5 a6 a7 a8 a9 a10 a11 a12 a13 a14 : Option Cv} {v : Cv} {r : CEnv} : cVar 15 (a0 :: a1 :: a2 :: a3 :: a4 :: a5 :: a6 :: a7 :: a8 :: a9 :: a10 :: a11 :: a12 :: a13 :: a14 :: some v :: r) h q e = q v h := propext Iff.rfl
theorem w_var16 {a0 a1 a2 a3 a4 a5 a6 a7 a8 a9 a10 a11 a12 a13 a14 a15 : Option Cv} {v : Cv} {r : CEnv} : cVar 16 (a0 :: a1 :: a2 :: a3 :: a4 :: a5 :: a6 :: a7 :: a8 :: a9 :: a10 :: a11 :: a12 :: a13 :: a14 :: a15 :: some v :: r) h q e = q v h := propext Iff.rfl
theorem w_var17 {a0 a1 a2 a3 a4 a5 a6 a7 a8 a9 a10 a11 a12 a13 a14 a15 a16 : Option Cv} {v : Cv} {r : CEnv} : cVar 17 (a0 :: a1 :: a2 :: a3 :: a4 :: a5 :: a6 :: a7 :: a8 :: a9 :: a10 :: a11 :: a12 :: a13 :: a14 :: a15 :: a16 :: some v :: r) h q e = q v h := propext Iff.rfl
theorem w_var18 {a0 a1 a2 a3 a4 a5 a6 a7 a8 a9 a10 a11 a12 a13 a14 a15 a16 a17 : Option Cv} {v : Cv} {r : CEnv} : cVar 18 (a0 :: a1 :: a2 :: a3 :: a4 :: a5 :: a6 :: a7 :: a8 :: a9 :: a10 :: a11 :: a12 :: a13 :: a14 :: a15 :: a16 :: a17 :: some v :: r) h q e = q v h := propext Iff.rfl
theorem w_var19 {a0 a1 a2 a3 a4 a5 a6 a7 a8 a9 a10 a11 a12 a13 a14 a15 a16 a17 a18 : Option Cv} {v : Cv} {r : CEnv} : cVar 19 (a0 :: a1 :: a2 :: a3 :: a4 :: a5 :: a6 :: a7 :: a8 :: a9 :: a10 :: a11 :: a12 :: a13 :: a14 :: a15 :: a16 :: a17 :: a18 :: some v :: r) h q e = q v h := propext Iff.rfl
theorem w_var20 {a0 a1 a2 a3 a4 a5 a6 a7 a8 a9 a10 a11 a12 a13 a14 a15 a16 a17 a18 a19 : Option Cv} {v : Cv} {r : CEnv} : cVar 20 (a0 :: a1 :: a2 :: a3 :: a4 :: a5 :: a6 :: a7 :: a8 :: a9 :: a10 :: a11 :: a12 :: a13 :: a14 :: a15 :: a16 :: a17 :: a18 :: a19 :: some v :: r) h q e = q v h := propext Iff.rfl
theorem w_var21 {a0 a1 a2 a3 a4 a5 a6 a7 a8 a9 a10 a11 a12 a13 a14 a15 a16 a17 a18 a19 a20 : Option Cv} {v : Cv} {r : CEnv} : cVar 21 (a0 :: a1 :: a2 :: a3 :: a4 :: a5 :: a6 :: a7 :: a8 :: a9 :: a10 :: a11 :: a12 :: a13 :: a14 :: a15 :: a16 :: a17 :: a18 :: a19 :: a20 :: some v :: r) h q e = q v h := propext Iff.rfl
theorem w_var22 {a0 a1 a2 a3 a4 a5 a6 a7 a8 a9 a10 a11 a12 a13 a14 a15 a16 a17 a18 a19 a20 a21 : Option Cv} {v : Cv} {r : CEnv} : cVar 22 (a0 :: a1 :: a2 :: a3 :: a4 :: a5 :: a6 :: a7 :: a8 :: a9 :: a10 :: a11 :: a12 :: a13 :: a14 :: a15 :: a16 :: a17 :: a18 :: a19 :: a20 :: a21 :: some v :: r) h q e = q v h := propext Iff.rfl
theorem w_var23 {a0 a1 a2 a3 a4 a5 a6 a7 a8 a9 a10 a11 a12 a13 a14 a15 a16 a17 a18 a19 a20 a21 a22 : Option Cv} {v : Cv} {r : CEnv} : cVar 23 (a0 :: a1 :: a2 :: a3 :: a4 :: a5 :: a6 :: a7 :: a8 :: a9 :: a10 :: a11 :: a12 :: a13 :: a14 :: a15 :: a16 :: a17 :: a18 :: a19 :: a20 :: a21 :: a22 :: some v :: r) h q e = q v h := propext Iff.rfl
theorem w_var24 {a0 a1 a2 a3 a4 a5 a6 a7 a8 a9 a10 a11 a12 a13 a14 a15 a16 a17 a18 a19 a20 a21 a22 a23 : Option Cv} {v : Cv} {r : CEnv} : cVar 24 (a0 :: a1 :: a2 :: a3 :: a4 :: a5 :: a6 :: a7 :: a8 :: a9 :: a10 :: a11 :: a12 :: a13 :: a14 :: a15 :: a16 :: a17 :: a18 :: a19 :: a20 :: a21 :: a22 :: a23 :: some v :: r) h q e = q v h := propext Iff.rfl
theorem w_var25 {a0 a1 a2 a3 a4 a5 a6 a7 a8 a9 a10 a11 a12 a13 a14 a15 a16 a17 a18 a19 a20 a21 a22 a23 a24 : Option Cv} {v : Cv} {r : CEnv} : cVar 25 (a0 :: a1 :: a2 :: a3 :: a4 :: a5 :: a6 :: a7 :: a8 :: a9 :: a10 :: a11 :: a12 :: a13 :: a14 :: a15 :: a16 :: a17 :: a18 :: a19 :: a20 :: a21 :: a22 :: a23 :: a24 :: some v :: r) h q e = q v h := propext Iff.rfl
theorem w_var26 {a0 a1 a2 a3 a4 a5 a6 a7 a8 a9 a10 a11 a12 a13 a14 a15 a16 a17 a18 a19 a20 a21 a22 a23 a24 a25 : Option Cv} {v : Cv} {r : CEnv} : cVar 26 (a0 :: a1 :: a2 :: a3 :: a4 :: a5 :: a6 :: a7 :: a8 :: a9 :: a10 :: a11 :: a12 :: a13 :: a14 :: a15 :: a16 :: a17 :: a18 :: a19 :: a20 :: a21 :: a22 :: a23 :: a24 :: a25 :: some v :: r) h q e = q v h := propext Iff.rfl
theorem w_var27 {a0 a1 a2 a3 a4 a5 a6 a7 a8 a9 a10 a11 a12 a13 a14 a15 a16 a17 a18 a19 a20 a21 a22 a23 a24 a25 a26 : Option Cv} {v : Cv} {r : CEnv} : cVar 27 (a0 :: a1 :: a2 :: a3 :: a4 :: a5 :: a6 :: a7 :: a8 :: a9 :: a10 :: a11 :: a12 :: a13 :: a14 :: a15 :: a16 :: a17 :: a18 :: a19 :: a20 :: a21 :: a22 :: a23 :: a24 :: a25 :: a26 :: some v :: r) h q e = q v h := propext Iff.rfl
theorem w_var28 {a0 a1 a2 a3 a4 a5 a6 a7 a8 a9 a10 a11 a12 a13 a14 a15 a16 a17 a18 a19 a20 a21 a22 a23 a24 a25 a26 a27 : Option Cv} {v : Cv} {r : CEnv} : cVar 28 (a0 :: a1 :: a2 :: a3 :: a4 :: a5 :: a6 :: a7 :: a8 :: a9 :: a10 :: a11 :: a12 :: a13 :: a14 :: a15 :: a16 :: a17 :: a18 :: a19 :: a20 :: a21 :: a22 :: a23 :: a24 :: a25 :: a26 :: a27 :: some v :: r) h q e = q v h := propext Iff.rfl
theorem w_var29 {a0 a1 a2 a3 a4 a5 a6 a7 a8 a9 a10 a11 a12 a13 a14 a15 a16 a17 a18 a19 a20 a21 a22 a23 a24 a25 a26 a27 a28 : Option Cv} {v : Cv} {r : CEnv} : cVar 29 (a0 :: a1 :: a2 :: a3 :: a4 :: a5 :: a6 :: a7 :: a8 :: a9 :: a10 :: a11 :: a12 :: a13 :: a14 :: a15 :: a16 :: a17 :: a18 :: a19 :: a20 :: a21 :: a22 :: a23 :: a24 :: a25 :: a26 :: a27 :: a28 :: some v :: r) h q e = q v h := propext Iff.rfl
theorem w_var30 {a0 a1 a2 a3 a4 a5 a6 a7 a8 a9 a10 a11 a12 a13 a14 a15 a16 a17 a18 a19 a20 a21 a22 a23 a24 a25 a26 a27 a28 a29 : Option Cv} {v : Cv} {r : CEnv} : cVar 30 (a0 :: a1 :: a2 :: a3 :: a4 :: a5 :: a6 :: a7 :: a8 :: a9 :: a10 :: a11 :: a12 :: a13 :: a14 :: a15 :: a16 :: a17 :: a18 :: a19 :: a20 :: a21 :: a22 :: a23 :: a24 :: a25 :: a26 :: a27 :: a28 :: a29 :: some v :: r) h q e = q v h := propext Iff.rfl
theorem w_var31 {a0 a1 a2 a3 a4 a5 a6 a7 a8 a9 a10 a11 a12 a13 a14 a15 a16 a17 a18 a19 a20 a21 a22 a23 a24 a25 a26 a27 a28 a29 a30 : Option Cv} {v : Cv} {r : CEnv} : cVar 31 (a0 :: a1 :: a2 :: a3 :: a4 :: a5 :: a6 :: a7 :: a8 :: a9 :: a10 :: a11 :: a12 :: a13 :: a14 :: a15 :: a16 :: a17 :: a18 :: a19 :: a20 :: a21 :: a22 :: a23 :: a24 :: a25 :: a26 :: a27 :: a28 :: a29 :: a30 :: some v :: r) h q e = q v h := propext Iff.rfl
variable (ca cb cc : CT) (cs : CTs) (t u : CB) (c d : CS) (g g2 : CG)
theorem w_c (v : Cv) : cC v env h q e = q v h := propext Iff.rfl
theorem w_op2 : cOp2 g ca cb env h q e = ca env h (fun x h1 => cb env h1 (fun y h2 => g x y h2 q) e) e := propext Iff.rfl
theorem w_op1 (g : CU) : cOp1 g ca env h q e = ca env h (fun x h1 => g x h1 q) e := propext Iff.rfl
variable (qb : Bool → CH → Prop)
theorem w_test : cTest ca env h qb e = ca env h (fun x h1 => kBl x fun b => qb b h1) e := propext Iff.rfl
theorem w_tt : cTt ca env h qb e = ca env h (fun x h1 => cTru x h1 fun b => qb b h1) e := propext Iff.rfl
theorem w_and : cAnd t u env h qb e = t env h (fun b h1 => if b = true then u env h1 qb e else qb false h1) e := propext Iff.rfl
theorem w_or : cOr t u env h qb e = t env h (fun b h1 => if b = true then qb true h1 else u env h1 qb e) e := propext Iff.rfl
theorem w_not : cNot t env h qb e = t env h (fun b h1 => qb (!b) h1) e := propext Iff.rfl
theorem w_andv : cAndV ca cb env h q e = ca env h (fun x h1 => cTru x h1 fun b => if b = true then cb env h1 q e else q x h1) e := propext Iff.rfl
theorem w_orv : cOrV ca cb env h q e = ca env h (fun x h1 => cTru x h1 fun b => if b = true then q x h1 else cb env h1 q e) e := propext Iff.rfl
theorem w_notv : cNotV ca env h q e = ca env h (fun x h1 => cTru x h1 fun b => q (.bl (!b)) h1) e := propext Iff.rfl
theorem w_ife : cIfE t ca cb env h q e = t env h (fun b h1 => if b = true then ca env h1 q e else cb env h1 q e) e := propext Iff.rfl
theorem w_chain : cChain g g2 ca cb cc env h q e = ca env h (fun x h1 => cb env h1 (fun y h2 => g x y h2 (fun z h3 => kBl z fun b => if b = true then cc env h3 (fun w h4 => g2 y w h4 q) e else q (.bl false) h3)) e) e := propext Iff.rfl
variable (qb1 : Bool → Prop)
theorem w_tru_non : cTru .non h qb1 = qb1 false := propext Iff.rfl
theorem w_tru_bl (b : Bool) : cTru (.bl b) h qb1 = qb1 b := propext Iff.rfl
theorem w_tru_int (i : Int) : cTru (.int i) h qb1 = qb1 (i != 0) := propext Iff.rfl
theorem w_tru_str (s : Str) : cTru (.str s) h qb1 = (s.length ≤ sizeLine ∧ qb1 ((s.length : Int) != 0)) := propext Iff.rfl
theorem w_tru_tup (xs : List Cv) : cTru (.tup xs) h qb1 = qb1 (!xs.isEmpty) := propext Iff.rfl
theorem w_tru_lv (xs : List Cv) : cTru (.lv xs) h qb1 = qb1 (!xs.isEmpty) := propext Iff.rfl
theorem w_tru_fz (xs : List Cv) : cTru (.fz xs) h qb1 = qb1 (!xs.isEmpty) := propext Iff.rfl
variable (qs : List Cv → CH → Prop)
theorem w_nil : cNil env h qs e = qs [] h := propext Iff.rfl
theorem w_cons : cCons ca cs env h qs e = ca env h (fun x h1 => cs env h1 (fun xs h2 => qs (x :: xs) h2) e) e := propext Iff.rfl
theorem w_tup : cTup cs env h q e = cs env h (fun xs h1 => xs.length ≤ 1000 ∧ q (.tup xs) h1) e := propext Iff.rfl
theorem w_lv : cLv cs env h q e = cs env h (fun xs h1 => xs.length ≤ 1000 ∧ q (.lv xs) h1) e := propext Iff.rfl
theorem w_lst : cLst cs env h q e = cs env h (fun xs h1 => xs.length ≤ 1000 ∧ ∀ p, h1 p = none → q (.ref p) (cup h1 p (.lst xs))) e := propext Iff.rfl
theorem w_call (f : CF) : cCall f cs env h q e = cs env h (fun xs h1 => f xs h1 q) e := propext Iff.rfl
theorem w_calld (n : Nat) (m : CD) : cCallD n m cs env h q e = cs env h (fun xs h1 => xs.length = n ∧ m xs h1 q e) e := propext Iff.rfl
theorem w_sl (f : CSl) (cl cu : CO) : cSl f ca cl cu env h q e = ca env h (fun x h1 => cl env h1 (fun l h2 => cu env h2 (fun u h3 => f x l u h3 q) e) e) e := propext Iff.rfl
variable (qo : Option Int → CH → Prop)
theorem w_nopart : cNoPart env h qo e = qo none h := propext Iff.rfl
def kInt (x : Cv) (k : Int → Prop) : Prop := match x with | .int i => k i | _ => False
theorem kInt_i (i : Int) (k : Int → Prop) : kInt (.int i) k = k i := propext Iff.rfl
theorem w_part : cPart ca env h qo e = ca env h (fun x h1 => kInt x fun i => qo (some i) h1) e := by unfold cPart; congr
theorem w_lm (f : CM) : cLM f ca cs env h q e = ca env h (fun x h1 => isLst x h1 ∧ cs env h1 (fun xs h2 => f x xs h2 q) e) e := propext Iff.rfl
theorem w_tm (f : CM) : cTM f ca cb env h q e = ca env h (fun x h1 => (∃ s, x = .str s) ∧ cb env h1 (fun y h2 => f x [y] h2 q) e) e := propext Iff.rfl
theorem w_strex (s : Str) : (∃ z, Cv.str s = .str z) = True := by simp
theorem w_islst (a : Addr) : isLst (.ref a) h = kLs (h a) fun _ => True := by cases hh : h a with | none => simp [isLst, kLs, hh] | some o => cases o <;> simp [isLst, kLs, hh]
def gIsi (T : String) (x : Cv) (h : CH) (q : Cv → CH → Prop) : Prop := match tyC x h with | some t => q (.bl (isB t T)) h | none => False
theorem w_isi (T : String) : cIsi T ca env h q e = ca env h (fun x h1 => gIsi T x h1 q) e := propext Iff.rfl
theorem w_isi_non_bool  : gIsi "bool" .non h q = q (.bl false) h := propext Iff.rfl
theorem w_isi_non_int  : gIsi "int" .non h q = q (.bl false) h := propext Iff.rfl
theorem w_isi_non_str  : gIsi "str" .non h q = q (.bl false) h := propext Iff.rfl
theorem w_isi_non_tuple  : gIsi "tuple" .non h q = q (.bl false) h := propext Iff.rfl
theorem w_isi_non_list  : gIsi "list" .non h q = q (.bl false) h := propext Iff.rfl
theorem w_isi_bl_bool (b : Bool) : gIsi "bool" (.bl b) h q = q (.bl true) h := propext Iff.rfl
theorem w_isi_bl_int (b : Bool) : gIsi "int" (.bl b) h q = q (.bl true) h := propext Iff.rfl
theorem w_isi_bl_str (b : Bool) : gIsi "str" (.bl b) h q = q (.bl false) h := propext Iff.rfl
theorem w_isi_bl_tuple (b : Bool) : gIsi "tuple" (.bl b) h q = q (.bl false) h := propext Iff.rfl
theorem w_isi_bl_list (b : Bool) : gIsi "list" (.bl b) h q = q (.bl false) h := propext Iff.rfl
theorem w_isi_int_bool (b : Int) : gIsi "bool" (.int b) h q = q (.bl false) h := propext Iff.rfl
theorem w_isi_int_int (b : Int) : gIsi "int" (.int b) h q = q (.bl true) h := propext Iff.rfl
theorem w_isi_int_str (b : Int) : gIsi "str" (.int b) h q = q (.bl false) h := propext Iff.rfl
theorem w_isi_int_tuple (b : Int) : gIsi "tuple" (.int b) h q = q (.bl false) h := propext Iff.rfl
theorem w_isi_int_list (b : Int) : gIsi "list" (.int b) h q = q (.bl false) h := propext Iff.rfl
theorem w_isi_str_bool (b : Str) : gIsi "bool" (.str b) h q = q (.bl false) h := propext Iff.rfl
theorem w_isi_str_int (b : Str) : gIsi "int" (.str b) h q = q (.bl false) h := propext Iff.rfl
theorem w_isi_str_str (b : Str) : gIsi "str" (.str b) h q = q (.bl true) h := propext Iff.rfl
theorem w_isi_str_tuple (b : Str) : gIsi "tuple" (.str b) h q = q (.bl false) h := propext Iff.rfl
theorem w_isi_str_list (b : Str) : gIsi "list" (.str b) h q = q (.bl false) h := propext Iff.rfl
theorem w_isi_tup_bool (b : List Cv) : gIsi "bool" (.tup b) h q = q (.bl false) h := propext Iff.rfl
theorem w_isi_tup_int (b : List Cv) : gIsi "int" (.tup b) h q = q (.bl false) h := propext Iff.rfl
theorem w_isi_tup_str (b : List Cv) : gIsi "str" (.tup b) h q = q (.bl false) h := propext Iff.rfl
theorem w_isi_tup_tuple (b : List Cv) : gIsi "tuple" (.tup b) h q = q (.bl true) h := propext Iff.rfl
theorem w_isi_tup_list (b : List Cv) : gIsi "list" (.tup b) h q = q (.bl false) h := propext Iff.rfl
theorem w_isi_lv_bool (b : List Cv) : gIsi "bool" (.lv b) h q = q (.bl false) h := propext Iff.rfl
theorem w_isi_lv_int (b : List Cv) : gIsi "int" (.lv b) h q = q (.bl false) h := propext Iff.rfl
theorem w_isi_lv_str (b : List Cv) : gIsi "str" (.lv b) h q = q (.bl false) h := propext Iff.rfl
theorem w_isi_lv_tuple (b : List Cv) : gIsi "tuple" (.lv b) h q = q (.bl false) h := propext Iff.rfl
theorem w_isi_lv_list (b : List Cv) : gIsi "list" (.lv b) h q = q (.bl true) h := propext Iff.rfl
theorem w_isi_fz_bool (b : List Cv) : gIsi "bool" (.fz b) h q = q (.bl false) h := propext Iff.rfl
theorem w_isi_fz_int (b : List Cv) : gIsi "int" (.fz b) h q = q (.bl false) h := propext Iff.rfl
theorem w_isi_fz_str (b : List Cv) : gIsi "str" (.fz b) h q = q (.bl false) h := propext Iff.rfl
theorem w_isi_fz_tuple (b : List Cv) : gIsi "tuple" (.fz b) h q = q (.bl false) h := propext Iff.rfl
theorem w_isi_fz_list (b : List Cv) : gIsi "list" (.fz b) h q = q (.bl true) h := propext Iff.rfl
theorem w_gI (f : Int → Int → Cv) (i j : Int) : gI f (.int i) (.int j) h q = q (f i j) h := propext Iff.rfl
theorem w_gIc (C : Int → Int → Prop) (f : Int → Int → Cv) (i j : Int) : gIc C f (.int i) (.int j) h q = (C i j ∧ q (f i j) h) := propext Iff.rfl
theorem w_add_i (i j : Int) : gAdd (.int i) (.int j) h q = q (.int (i + j)) h := propext Iff.rfl
theorem w_add_s (i j : Str) : gAdd (.str i) (.str j) h q = (i.length + j.length ≤ sizeLine ∧ q (.str (i ++ j)) h) := propext Iff.rfl
theorem w_add_t (i j : List Cv) : gAdd (.tup i) (.tup j) h q = (i.length + j.length ≤ sizeLine ∧ q (.tup (i ++ j)) h) := propext Iff.rfl
theorem w_add_l (i j : List Cv) : gAdd (.lv i) (.lv j) h q = (i.length + j.length ≤ sizeLine ∧ q (.lv (i ++ j)) h) := propext Iff.rfl
theorem w_mul_i (i j : Int) : gMul (.int i) (.int j) h q = ((CMul i j ∨ CMulW i j) ∧ q (.int (i * j)) h) := propext Iff.rfl
theorem w_mul_s (x : Str) (n : Int) : gMul (.str x) (.int n) h q = (n < 1000000 ∧ x.length * n.toNat ≤ 1000000 ∧ 0 ≤ n ∧ q (.str (txMul x n)) h) := propext Iff.rfl
theorem w_neg (i : Int) : gNeg (.int i) h q = q (.int (-i)) h := propext Iff.rfl
theorem w_cmp_i (f : Int → Int → Bool) (f2 : Str → Str → Bool) (i j : Int) : gCmp f f2 (.int i) (.int j) h q = q (.bl (f i j)) h := propext Iff.rfl
theorem w_cmp_s (f : Int → Int → Bool) (f2 : Str → Str → Bool) (i j : Str) : gCmp f f2 (.str i) (.str j) h q = q (.bl (f2 i j)) h := propext Iff.rfl
theorem w_gEq_non_non : gEq .non .non h q = (okd .non ∧ okd .non ∧ q (.bl (ceq .non .non)) h) := propext Iff.rfl
theorem w_gNe_non_non : gNe .non .non h q = (okd .non ∧ okd .non ∧ q (.bl (!ceq .non .non)) h) := propext Iff.rfl
theorem w_gEq_non_bl (y : Bool) : gEq .non (.bl y) h q = (okd .non ∧ okd (.bl y) ∧ q (.bl false) h) := by show (okd _ ∧ okd _ ∧ q (.bl (ceq _ _)) h) = _; first | (rw [ceq_kind (by simp [ckind])]; done) | (rw [ceq_kind (by simp [ckind])]; rfl)
theorem w_gNe_non_bl (y : Bool) : gNe .non (.bl y) h q = (okd .non ∧ okd (.bl y) ∧ q (.bl true) h) := by show (okd _ ∧ okd _ ∧ q (.bl (!ceq _ _)) h) = _; first | (rw [ceq_kind (by simp [ckind])]; done) | (rw [ceq_kind (by simp [ckind])]; rfl)
theorem w_gEq_non_int (y : Int) : gEq .non (.int y) h q = (okd .non ∧ okd (.int y) ∧ q (.bl false) h) := by show (okd _ ∧ okd _ ∧ q (.bl (ceq _ _)) h) = _; first | (rw [ceq_kind (by simp [ckind])]; done) | (rw [ceq_kind (by simp [ckind])]; rfl)
theorem w_gNe_non_int (y : Int) : gNe .non (.int y) h q = (okd .non ∧ okd (.int y) ∧ q (.bl true) h) := by show (okd _ ∧ okd _ ∧ q (.bl (!ceq _ _)) h) = _; first | (rw [ceq_kind (by simp [ckind])]; done) | (rw [ceq_kind (by simp [ckind])]; rfl)
theorem w_gEq_non_str (y : Str) : gEq .non (.str y) h q = (okd .non ∧ okd (.str y) ∧ q (.bl false) h) := by show (okd _ ∧ okd _ ∧ q (.bl (ceq _ _)) h) = _; first | (rw [ceq_kind (by simp [ckind])]; done) | (rw [ceq_kind (by simp [ckind])]; rfl)
theorem w_gNe_non_str (y : Str) : gNe .non (.str y) h q = (okd .non ∧ okd (.str y) ∧ q (.bl true) h) := by show (okd _ ∧ okd _ ∧ q (.bl (!ceq _ _)) h) = _; first | (rw [ceq_kind (by simp [ckind])]; done) | (rw [ceq_kind (by simp [ckind])]; rfl)
theorem w_gEq_non_tup (y : List Cv) : gEq .non (.tup y) h q = (okd .non ∧ okd (.tup y) ∧ q (.bl false) h) := by show (okd _ ∧ okd _ ∧ q (.bl (ceq _ _)) h) = _; first | (rw [ceq_kind (by simp [ckind])]; done) | (rw [ceq_kind (by simp [ckind])]; rfl)
theorem w_gNe_non_tup (y : List Cv) : gNe .non (.tup y) h q = (okd .non ∧ okd (.tup y) ∧ q (.bl true) h) := by show (okd _ ∧ okd _ ∧ q (.bl (!ceq _ _)) h) = _; first | (rw [ceq_kind (by simp [ckind])]; done) | (rw [ceq_kind (by simp [ckind])]; rfl)
theorem w_gEq_non_lv (y : List Cv) : gEq .non (.lv y) h q = (okd .non ∧ okd (.lv y) ∧ q (.bl false) h) := by show (okd _ ∧ okd _ ∧ q (.bl (ceq _ _)) h) = _; first | (rw [ceq_kind (by simp [ckind])]; done) | (rw [ceq_kind (by simp [ckind])]; rfl)
theorem w_gNe_non_lv (y : List Cv) : gNe .non (.lv y) h q = (okd .non ∧ okd (.lv y) ∧ q (.bl true) h) := by show (okd _ ∧ okd _ ∧ q (.bl (!ceq _ _)) h) = _; first | (rw [ceq_kind (by simp [ckind])]; done) | (rw [ceq_kind (by simp [ckind])]; rfl)
theorem w_gEq_non_fz (y : List Cv) : gEq .non (.fz y) h q = (okd .non ∧ okd (.fz y) ∧ q (.bl false) h) := by show (okd _ ∧ okd _ ∧ q (.bl (ceq _ _)) h) = _; first | (rw [ceq_kind (by simp [ckind])]; done) | (rw [ceq_kind (by simp [ckind])]; rfl)
theorem w_gNe_non_fz (y : List Cv) : gNe .non (.fz y) h q = (okd .non ∧ okd (.fz y) ∧ q (.bl true) h) := by show (okd _ ∧ okd _ ∧ q (.bl (!ceq _ _)) h) = _; first | (rw [ceq_kind (by simp [ckind])]; done) | (rw [ceq_kind (by simp [ckind])]; rfl)
theorem w_gEq_bl_non (x : Bool) : gEq (.bl x) .non h q = (okd (.bl x) ∧ okd .non ∧ q (.bl false) h) := by show (okd _ ∧ okd _ ∧ q (.bl (ceq _ _)) h) = _; first | (rw [ceq_kind (by simp [ckind])]; done) | (rw [ceq_kind (by simp [ckind])]; rfl)
theorem w_gNe_bl_non (x : Bool) : gNe (.bl x) .non h q = (okd (.bl x) ∧ okd .non ∧ q (.bl true) h) := by show (okd _ ∧ okd _ ∧ q (.bl (!ceq _ _)) h) = _; first | (rw [ceq_kind (by simp [ckind])]; done) | (rw [ceq_kind (by simp [ckind])]; rfl)
theorem w_gEq_bl_bl (x : Bool) (y : Bool) : gEq (.bl x) (.bl y) h q = q (.bl (decide (x = y))) h := propext Iff.rfl
theorem w_gNe_bl_bl (x : Bool) (y : Bool) : gNe (.bl x) (.bl y) h q = q (.bl (!decide (x = y))) h := propext Iff.rfl
theorem w_gEq_bl_int (x : Bool) (y : Int) : gEq (.bl x) (.int y) h q = (okd (.bl x) ∧ okd (.int y) ∧ q (.bl (ceq (.bl x) (.int y))) h) := propext Iff.rfl
theorem w_gNe_bl_int (x : Bool) (y : Int) : gNe (.bl x) (.int y) h q = (okd (.bl x) ∧ okd (.int y) ∧ q (.bl (!ceq (.bl x) (.int y))) h) := propext Iff.rfl
theorem w_gEq_bl_str (x : Bool) (y : Str) : gEq (.bl x) (.str y) h q = (okd (.bl x) ∧ okd (.str y) ∧ q (.bl false) h) := by show (okd _ ∧ okd _ ∧ q (.bl (ceq _ _)) h) = _; first | (rw [ceq_kind (by simp [ckind])]; done) | (rw [ceq_kind (by simp [ckind])]; rfl)
theorem w_gNe_bl_str (x : Bool) (y : Str) : gNe (.bl x) (.str y) h q = (okd (.bl x) ∧ okd (.str y) ∧ q (.bl true) h) := by show (okd _ ∧ okd _ ∧ q (.bl (!ceq _ _)) h) = _; first | (rw [ceq_kind (by simp [ckind])]; done) | (rw [ceq_kind (by simp [ckind])]; rfl)
theorem w_gEq_bl_tup (x : Bool) (y : List Cv) : gEq (.bl x) (.tup y) h q = (okd (.bl x) ∧ okd (.tup y) ∧ q (.bl false) h) := by show (okd _ ∧ okd _ ∧ q (.bl (ceq _ _)) h) = _; first | (rw [ceq_kind (by simp [ckind])]; done) | (rw [ceq_kind (by simp [ckind])]; rfl)
theorem w_gNe_bl_tup (x : Bool) (y : List Cv) : gNe (.bl x) (.tup y) h q = (okd (.bl x) ∧ okd (.tup y) ∧ q (.bl true) h) := by show (okd _ ∧ okd _ ∧ q (.bl (!ceq _ _)) h) = _; first | (rw [ceq_kind (by simp [ckind])]; done) | (rw [ceq_kind (by simp [ckind])]; rfl)
theorem w_gEq_bl_lv (x : Bool) (y : List Cv) : gEq (.bl x) (.lv y) h q = (okd (.bl x) ∧ okd (.lv y) ∧ q (.bl false) h) := by show (okd _ ∧ okd _ ∧ q (.bl (ceq _ _)) h) = _; first | (rw [ceq_kind (by simp [ckind])]; done) | (rw [ceq_kind (by simp [ckind])]; rfl)
theorem w_gNe_bl_lv (x : Bool) (y : List Cv) : gNe (.bl x) (.lv y) h q = (okd (.bl x) ∧ okd (.lv y) ∧ q (.bl true) h) := by show (okd _ ∧ okd _ ∧ q (.bl (!ceq _ _)) h) = _; first | (rw [ceq_kind (by simp [ckind])]; done) | (rw [ceq_kind (by simp [ckind])]; rfl)
theorem w_gEq_bl_fz (x : Bool) (y : List Cv) : gEq (.bl x) (.fz y) h q = (okd (.bl x) ∧ okd (.fz y) ∧ q (.bl false) h) := by show (okd _ ∧ okd _ ∧ q (.bl (ceq _ _)) h) = _; first | (rw [ceq_kind (by simp [ckind])]; done) | (rw [ceq_kind (by simp [ckind])]; rfl)
theorem w_gNe_bl_fz (x : Bool) (y : List Cv) : gNe (.bl x) (.fz y) h q = (okd (.bl x) ∧ okd (.fz y) ∧ q (.bl true) h) := by show (okd _ ∧ okd _ ∧ q (.bl (!ceq _ _)) h) = _; first | (rw [ceq_kind (by simp [ckind])]; done) | (rw [ceq_kind (by simp [ckind])]; rfl)
theorem w_gEq_int_non (x : Int) : gEq (.int x) .non h q = (okd (.int x) ∧ okd .non ∧ q (.bl false) h) := by show (okd _ ∧ okd _ ∧ q (.bl (ceq _ _)) h) = _; first | (rw [ceq_kind (by simp [ckind])]; done) | (rw [ceq_kind (by simp [ckind])]; rfl)
theorem w_gNe_int_non (x : Int) : gNe (.int x) .non h q = (okd (.int x) ∧ okd .non ∧ q (.bl true) h) := by show (okd _ ∧ okd _ ∧ q (.bl (!ceq _ _)) h) = _; first | (rw [ceq_kind (by simp [ckind])]; done) | (rw [ceq_kind (by simp [ckind])]; rfl)
theorem w_gEq_int_bl (x : Int) (y : Bool) : gEq (.int x) (.bl y) h q = (okd (.int x) ∧ okd (.bl y) ∧ q (.bl (ceq (.int x) (.bl y))) h) := propext Iff.rfl
theorem w_gNe_int_bl (x : Int) (y : Bool) : gNe (.int x) (.bl y) h q = (okd (.int x) ∧ okd (.bl y) ∧ q (.bl (!ceq (.int x) (.bl y))) h) := propext Iff.rfl
theorem w_gEq_int_int (x : Int) (y : Int) : gEq (.int x) (.int y) h q = q (.bl (decide (x = y))) h := propext Iff.rfl
theorem w_gNe_int_int (x : Int) (y : Int) : gNe (.int x) (.int y) h q = q (.bl (!decide (x = y))) h := propext Iff.rfl
theorem w_gEq_int_str (x : Int) (y : Str) : gEq (.int x) (.str y) h q = (okd (.int x) ∧ okd (.str y) ∧ q (.bl false) h) := by show (okd _ ∧ okd _ ∧ q (.bl (ceq _ _)) h) = _; first | (rw [ceq_kind (by simp [ckind])]; done) | (rw [ceq_kind (by simp [ckind])]; rfl)
theorem w_gNe_int_str (x : Int) (y : Str) : gNe (.int x) (.str y) h q = (okd (.int x) ∧ okd (.str y) ∧ q (.bl true) h) := by show (okd _ ∧ okd _ ∧ q (.bl (!ceq _ _)) h) = _; first | (rw [ceq_kind (by simp [ckind])]; done) | (rw [ceq_kind (by simp [ckind])]; rfl)
theorem w_gEq_int_tup (x : Int) (y : List Cv) : gEq (.int x) (.tup y) h q = (okd (.int x) ∧ okd (.tup y) ∧ q (.bl false) h) := by show (okd _ ∧ okd _ ∧ q (.bl (ceq _ _)) h) = _; first | (rw [ceq_kind (by simp [ckind])]; done) | (rw [ceq_kind (by simp [ckind])]; rfl)
theorem w_gNe_int_tup (x : Int) (y : List Cv) : gNe (.int x) (.tup y) h q = (okd (.int x) ∧ okd (.tup y) ∧ q (.bl true) h) := by show (okd _ ∧ okd _ ∧ q (.bl (!ceq _ _)) h) = _; first | (rw [ceq_kind (by simp [ckind])]; done) | (rw [ceq_kind (by simp [ckind])]; rfl)
theorem w_gEq_int_lv (x : Int) (y : List Cv) : gEq (.int x) (.lv y) h q = (okd (.int x) ∧ okd (.lv y) ∧ q (.bl false) h) := by show (okd _ ∧ okd _ ∧ q (.bl (ceq _ _)) h) = _; first | (rw [ceq_kind (by simp [ckind])]; done) | (rw [ceq_kind (by simp [ckind])]; rfl)
theorem w_gNe_int_lv (x : Int) (y : List Cv) : gNe (.int x) (.lv y) h q = (okd (.int x) ∧ okd (.lv y) ∧ q (.bl true) h) := by show (okd _ ∧ okd _ ∧ q (.bl (!ceq _ _)) h) = _; first | (rw [ceq_kind (by simp [ckind])]; done) | (rw [ceq_kind (by simp [ckind])]; rfl)
theorem w_gEq_int_fz (x : Int) (y : List Cv) : gEq (.int x) (.fz y) h q = (okd (.int x) ∧ okd (.fz y) ∧ q (.bl false) h) := by show (okd _ ∧ okd _ ∧ q (.bl (ceq _ _)) h) = _; first | (rw [ceq_kind (by simp [ckind])]; done) | (rw [ceq_kind (by simp [ckind])]; rfl)
theorem w_gNe_int_fz (x : Int) (y : List Cv) : gNe (.int x) (.fz y) h q = (okd (.int x) ∧ okd (.fz y) ∧ q (.bl true) h) := by show (okd _ ∧ okd _ ∧ q (.bl (!ceq _ _)) h) = _; first | (rw [ceq_kind (by simp [ckind])]; done) | (rw [ceq_kind (by simp [ckind])]; rfl)
theorem w_gEq_str_non (x : Str) : gEq (.str x) .non h q = (okd (.str x) ∧ okd .non ∧ q (.bl false) h) := by show (okd _ ∧ okd _ ∧ q (.bl (ceq _ _)) h) = _; first | (rw [ceq_kind (by simp [ckind])]; done) | (rw [ceq_kind (by simp [ckind])]; rfl)
theorem w_gNe_str_non (x : Str) : gNe (.str x) .non h q = (okd (.str x) ∧ okd .non ∧ q (.bl true) h) := by show (okd _ ∧ okd _ ∧ q (.bl (!ceq _ _)) h) = _; first | (rw [ceq_kind (by simp [ckind])]; done) | (rw [ceq_kind (by simp [ckind])]; rfl)
theorem w_gEq_str_bl (x : Str) (y : Bool) : gEq (.str x) (.bl y) h q = (okd (.str x) ∧ okd (.bl y) ∧ q (.bl false) h) := by show (okd _ ∧ okd _ ∧ q (.bl (ceq _ _)) h) = _; first | (rw [ceq_kind (by simp [ckind])]; done) | (rw [ceq_kind (by simp [ckind])]; rfl)
theorem w_gNe_str_bl (x : Str) (y : Bool) : gNe (.str x) (.bl y) h q = (okd (.str x) ∧ okd (.bl y) ∧ q (.bl true) h) := by show (okd _ ∧ okd _ ∧ q (.bl (!ceq _ _)) h) = _; first | (rw [ceq_kind (by simp [ckind])]; done) | (rw [ceq_kind (by simp [ckind])]; rfl)
theorem w_gEq_str_int (x : Str) (y : Int) : gEq (.str x) (.int y) h q = (okd (.str x) ∧ okd (.int y) ∧ q (.bl false) h) := by show (okd _ ∧ okd _ ∧ q (.bl (ceq _ _)) h) = _; first | (rw [ceq_kind (by simp [ckind])]; done) | (rw [ceq_kind (by simp [ckind])]; rfl)
theorem w_gNe_str_int (x : Str) (y : Int) : gNe (.str x) (.int y) h q = (okd (.str x) ∧ okd (.int y) ∧ q (.bl true) h) := by show (okd _ ∧ okd _ ∧ q (.bl (!ceq _ _)) h) = _; first | (rw [ceq_kind (by simp [ckind])]; done) | (rw [ceq_kind (by simp [ckind])]; rfl)
theorem w_gEq_str_str (x : Str) (y : Str) : gEq (.str x) (.str y) h q = q (.bl (decide (x = y))) h := propext Iff.rfl
theorem w_gNe_str_str (x : Str) (y : Str) : gNe (.str x) (.str y) h q = q (.bl (!decide (x = y))) h := propext Iff.rfl
theorem w_gEq_str_tup (x : Str) (y : List Cv) : gEq (.str x) (.tup y) h q = (okd (.str x) ∧ okd (.tup y) ∧ q (.bl false) h) := by show (okd _ ∧ okd _ ∧ q (.bl (ceq _ _)) h) = _; first | (rw [ceq_kind (by simp [ckind])]; done) | (rw [ceq_kind (by simp [ckind])]; rfl)
theorem w_gNe_str_tup (x : Str) (y : List Cv) : gNe (.str x) (.tup y) h q = (okd (.str x) ∧ okd (.tup y) ∧ q (.bl true) h) := by show (okd _ ∧ okd _ ∧ q (.bl (!ceq _ _)) h) = _; first | (rw [ceq_kind (by simp [ckind])]; done) | (rw [ceq_kind (by simp [ckind])]; rfl)
theorem w_gEq_str_lv (x : Str) (y : List Cv) : gEq (.str x) (.lv y) h q = (okd (.str x) ∧ okd (.lv y) ∧ q (.bl false) h) := by show (okd _ ∧ okd _ ∧ q (.bl (ceq _ _)) h) = _; first | (rw [ceq_kind (by simp [ckind])]; done) | (rw [ceq_kind (by simp [ckind])]; rfl)
theorem w_gNe_str_lv (x : Str) (y : List Cv) : gNe (.str x) (.lv y) h q = (okd (.str x) ∧ okd (.lv y) ∧ q (.bl true) h) := by show (okd _ ∧ okd _ ∧ q (.bl (!ceq _ _)) h) = _; first | (rw [ceq_kind (by simp [ckind])]; done) | (rw [ceq_kind (by simp [ckind])]; rfl)
theorem w_gEq_str_fz (x : Str) (y : List Cv) : gEq (.str x) (.fz y) h q = (okd (.str x) ∧ okd (.fz y) ∧ q (.bl false) h) := by show (okd _ ∧ okd _ ∧ q (.bl (ceq _ _)) h) = _; first | (rw [ceq_kind (by simp [ckind])]; done) | (rw [ceq_kind (by simp [ckind])]; rfl)
theorem w_gNe_str_fz (x : Str) (y : List Cv) : gNe (.str x) (.fz y) h q = (okd (.str x) ∧ okd (.fz y) ∧ q (.bl true) h) := by show (okd _ ∧ okd _ ∧ q (.bl (!ceq _ _)) h) = _; first | (rw [ceq_kind (by simp [ckind])]; done) | (rw [ceq_kind (by simp [ckind])]; rfl)
theorem w_gEq_tup_non (x : List Cv) : gEq (.tup x) .non h q = (okd (.tup x) ∧ okd .non ∧ q (.bl false) h) := by show (okd _ ∧ okd _ ∧ q (.bl (ceq _ _)) h) = _; first | (rw [ceq_kind (by simp [ckind])]; done) | (rw [ceq_kind (by simp [ckind])]; rfl)
theorem w_gNe_tup_non (x : List Cv) : gNe (.tup x) .non h q = (okd (.tup x) ∧ okd .non ∧ q (.bl true) h) := by show (okd _ ∧ okd _ ∧ q (.bl (!ceq _ _)) h) = _; first | (rw [ceq_kind (by simp [ckind])]; done) | (rw [ceq_kind (by simp [ckind])]; rfl)
theorem w_gEq_tup_bl (x : List Cv) (y : Bool) : gEq (.tup x) (.bl y) h q = (okd (.tup x) ∧ okd (.bl y) ∧ q (.bl false) h) := by show (okd _ ∧ okd _ ∧ q (.bl (ceq _ _)) h) = _; first | (rw [ceq_kind (by simp [ckind])]; done) | (rw [ceq_kind (by simp [ckind])]; rfl)
theorem w_gNe_tup_bl (x : List Cv) (y : Bool) : gNe (.tup x) (.bl y) h q = (okd (.tup x) ∧ okd (.bl y) ∧ q (.bl true) h) := by show (okd _ ∧ okd _ ∧ q (.bl (!ceq _ _)) h) = _; first | (rw [ceq_kind (by simp [ckind])]; done) | (rw [ceq_kind (by simp [ckind])]; rfl)
theorem w_gEq_tup_int (x : List Cv) (y : Int) : gEq (.tup x) (.int y) h q = (okd (.tup x) ∧ okd (.int y) ∧ q (.bl false) h) := by show (okd _ ∧ okd _ ∧ q (.bl (ceq _ _)) h) = _; first | (rw [ceq_kind (by simp [ckind])]; done) | (rw [ceq_kind (by simp [ckind])]; rfl)
theorem w_gNe_tup_int (x : List Cv) (y : Int) : gNe (.tup x) (.int y) h q = (okd (.tup x) ∧ okd (.int y) ∧ q (.bl true) h) := by show (okd _ ∧ okd _ ∧ q (.bl (!ceq _ _)) h) = _; first | (rw [ceq_kind (by simp [ckind])]; done) | (rw [ceq_kind (by simp [ckind])]; rfl)
theorem w_gEq_tup_str (x : List Cv) (y : Str) : gEq (.tup x) (.str y) h q = (okd (.tup x) ∧ okd (.str y) ∧ q (.bl false) h) := by show (okd _ ∧ okd _ ∧ q (.bl (ceq _ _)) h) = _; first | (rw [ceq_kind (by simp [ckind])]; done) | (rw [ceq_kind (by simp [ckind])]; rfl)
theorem w_gNe_tup_str (x : List Cv) (y : Str) : gNe (.tup x) (.str y) h q = (okd (.tup x) ∧ okd (.str y) ∧ q (.bl true) h) := by show (okd _ ∧ okd _ ∧ q (.bl (!ceq _ _)) h) = _; first | (rw [ceq_kind (by simp [ckind])]; done) | (rw [ceq_kind (by simp [ckind])]; rfl)
theorem w_gEq_tup_tup (x : List Cv) (y : List Cv) : gEq (.tup x) (.tup y) h q = (okd (.tup x) ∧ okd (.tup y) ∧ q (.bl (ceq (.tup x) (.tup y))) h) := propext Iff.rfl
theorem w_gNe_tup_tup (x : List Cv) (y : List Cv) : gNe (.tup x) (.tup y) h q = (okd (.tup x) ∧ okd (.tup y) ∧ q (.bl (!ceq (.tup x) (.tup y))) h) := propext Iff.rfl
theorem w_gEq_tup_lv (x : List Cv) (y : List Cv) : gEq (.tup x) (.lv y) h q = (okd (.tup x) ∧ okd (.lv y) ∧ q (.bl false) h) := by show (okd _ ∧ okd _ ∧ q (.bl (ceq _ _)) h) = _; first | (rw [ceq_kind (by simp [ckind])]; done) | (rw [ceq_kind (by simp [ckind])]; rfl)
theorem w_gNe_tup_lv (x : List Cv) (y : List Cv) : gNe (.tup x) (.lv y) h q = (okd (.tup x) ∧ okd (.lv y) ∧ q (.bl true) h) := by show (okd _ ∧ okd _ ∧ q (.bl (!ceq _ _)) h) = _; first | (rw [ceq_kind (by simp [ckind])]; done) | (rw [ceq_kind (by simp [ckind])]; rfl)
theorem w_gEq_tup_fz (x : List Cv) (y : List Cv) : gEq (.tup x) (.fz y) h q = (okd (.tup x) ∧ okd (.fz y) ∧ q (.bl false) h) := by show (okd _ ∧ okd _ ∧ q (.bl (ceq _ _)) h) = _; first | (rw [ceq_kind (by simp [ckind])]; done) | (rw [ceq_kind (by simp [ckind])]; rfl)
theorem w_gNe_tup_fz (x : List Cv) (y : List Cv) : gNe (.tup x) (.fz y) h q = (okd (.tup x) ∧ okd (.fz y) ∧ q (.bl true) h) := by show (okd _ ∧ okd _ ∧ q (.bl (!ceq _ _)) h) = _; first | (rw [ceq_kind (by simp [ckind])]; done) | (rw [ceq_kind (by simp [ckind])]; rfl)
theorem w_gEq_lv_non (x : List Cv) : gEq (.lv x) .non h q = (okd (.lv x) ∧ okd .non ∧ q (.bl false) h) := by show (okd _ ∧ okd _ ∧ q (.bl (ceq _ _)) h) = _; first | (rw [ceq_kind (by simp [ckind])]; done) | (rw [ceq_kind (by simp [ckind])]; rfl)
theorem w_gNe_lv_non (x : List Cv) : gNe (.lv x) .non h q = (okd (.lv x) ∧ okd .non ∧ q (.bl true) h) := by show (okd _ ∧ okd _ ∧ q (.bl (!ceq _ _)) h) = _; first | (rw [ceq_kind (by simp [ckind])]; done) | (rw [ceq_kind (by simp [ckind])]; rfl)
theorem w_gEq_lv_bl (x : List Cv) (y : Bool) : gEq (.lv x) (.bl y) h q = (okd (.lv x) ∧ okd (.bl y) ∧ q (.bl false) h) := by show (okd _ ∧ okd _ ∧ q (.bl (ceq _ _)) h) = _; first | (rw [ceq_kind (by simp [ckind])]; done) | (rw [ceq_kind (by simp [ckind])]; rfl)
theorem w_gNe_lv_bl (x : List Cv) (y : Bool) : gNe (.lv x) (.bl y) h q = (okd (.lv x) ∧ okd (.bl y) ∧ q (.bl true) h) := by show (okd _ ∧ okd _ ∧ q (.bl (!ceq _ _)) h) = _; first | (rw [ceq_kind (by simp [ckind])]; done) | (rw [ceq_kind (by simp [ckind])]; rfl)
theorem w_gEq_lv_int (x : List Cv) (y : Int) : gEq (.lv x) (.int y) h q = (okd (.lv x) ∧ okd (.int y) ∧ q (.bl false) h) := by show (okd _ ∧ okd _ ∧ q (.bl (ceq _ _)) h) = _; first | (rw [ceq_kind (by simp [ckind])]; done) | (rw [ceq_kind (by simp [ckind])]; rfl)
theorem w_gNe_lv_int (x : List Cv) (y : Int) : gNe (.lv x) (.int y) h q = (okd (.lv x) ∧ okd (.int y) ∧ q (.bl true) h) := by show (okd _ ∧ okd _ ∧ q (.bl (!ceq _ _)) h) = _; first | (rw [ceq_kind (by simp [ckind])]; done) | (rw [ceq_kind (by simp [ckind])]; rfl)
theorem w_gEq_lv_str (x : List Cv) (y : Str) : gEq (.lv x) (.str y) h q = (okd (.lv x) ∧ okd (.str y) ∧ q (.bl false) h) := by show (okd _ ∧ okd _ ∧ q (.bl (ceq _ _)) h) = _; first | (rw [ceq_kind (by simp [ckind])]; done) | (rw [ceq_kind (by simp [ckind])]; rfl)
theorem w_gNe_lv_str (x : List Cv) (y : Str) : gNe (.lv x) (.str y) h q = (okd (.lv x) ∧ okd (.str y) ∧ q (.bl true) h) := by show (okd _ ∧ okd _ ∧ q (.bl (!ceq _ _)) h) = _; first | (rw [ceq_kind (by simp [ckind])]; done) | (rw [ceq_kind (by simp [ckind])]; rfl)
theorem w_gEq_lv_tup (x : List Cv) (y : List Cv) : gEq (.lv x) (.tup y) h q = (okd (.lv x) ∧ okd (.tup y) ∧ q (.bl false) h) := by show (okd _ ∧ okd _ ∧ q (.bl (ceq _ _)) h) = _; first | (rw [ceq_kind (by simp [ckind])]; done) | (rw [ceq_kind (by simp [ckind])]; rfl)
theorem w_gNe_lv_tup (x : List Cv) (y : List Cv) : gNe (.lv x) (.tup y) h q = (okd (.lv x) ∧ okd (.tup y) ∧ q (.bl true) h) := by show (okd _ ∧ okd _ ∧ q (.bl (!ceq _ _)) h) = _; first | (rw [ceq_kind (by simp [ckind])]; done) | (rw [ceq_kind (by simp [ckind])]; rfl)
theorem w_gEq_lv_lv (x : List Cv) (y : List Cv) : gEq (.lv x) (.lv y) h q = (okd (.lv x) ∧ okd (.lv y) ∧ q (.bl (ceq (.lv x) (.lv y))) h) := propext Iff.rfl
theorem w_gNe_lv_lv (x : List Cv) (y : List Cv) : gNe (.lv x) (.lv y) h q = (okd (.lv x) ∧ okd (.lv y) ∧ q (.bl (!ceq (.lv x) (.lv y))) h) := propext Iff.rfl
theorem w_gEq_lv_fz (x : List Cv) (y : List Cv) : gEq (.lv x) (.fz y) h q = (okd (.lv x) ∧ okd (.fz y) ∧ q (.bl (ceq (.lv x) (.fz y))) h) := propext Iff.rfl
theorem w_gNe_lv_fz (x : List Cv) (y : List Cv) : gNe (.lv x) (.fz y) h q = (okd (.lv x) ∧ okd (.fz y) ∧ q (.bl (!ceq (.lv x) (.fz y))) h) := propext Iff.rfl
theorem w_gEq_fz_non (x : List Cv) : gEq (.fz x) .non h q = (okd (.fz x) ∧ okd .non ∧ q (.bl false) h) := by show (okd _ ∧ okd _ ∧ q (.bl (ceq _ _)) h) = _; first | (rw [ceq_kind (by simp [ckind])]; done) | (rw [ceq_kind (by simp [ckind])]; rfl)
theorem w_gNe_fz_non (x : List Cv) : gNe (.fz x) .non h q = (okd (.fz x) ∧ okd .non ∧ q (.bl true) h) := by show (okd _ ∧ okd _ ∧ q (.bl (!ceq _ _)) h) = _; first | (rw [ceq_kind (by simp [ckind])]; done) | (rw [ceq_kind (by simp [ckind])]; rfl)
theorem w_gEq_fz_bl (x : List Cv) (y : Bool) : gEq (.fz x) (.bl y) h q = (okd (.fz x) ∧ okd (.bl y) ∧ q (.bl false) h) := by show (okd _ ∧ okd _ ∧ q (.bl (ceq _ _)) h) = _; first | (rw [ceq_kind (by simp [ckind])]; done) | (rw [ceq_kind (by simp [ckind])]; rfl)
theorem w_gNe_fz_bl (x : List Cv) (y : Bool) : gNe (.fz x) (.bl y) h q = (okd (.fz x) ∧ okd (.bl y) ∧ q (.bl true) h) := by show (okd _ ∧ okd _ ∧ q (.bl (!ceq _ _)) h) = _; first | (rw [ceq_kind (by simp [ckind])]; done) | (rw [ceq_kind (by simp [ckind])]; rfl)
theorem w_gEq_fz_int (x : List Cv) (y : Int) : gEq (.fz x) (.int y) h q = (okd (.fz x) ∧ okd (.int y) ∧ q (.bl false) h) := by show (okd _ ∧ okd _ ∧ q (.bl (ceq _ _)) h) = _; first | (rw [ceq_kind (by simp [ckind])]; done) | (rw [ceq_kind (by simp [ckind])]; rfl)
theorem w_gNe_fz_int (x : List Cv) (y : Int) : gNe (.fz x) (.int y) h q = (okd (.fz x) ∧ okd (.int y) ∧ q (.bl true) h) := by show (okd _ ∧ okd _ ∧ q (.bl (!ceq _ _)) h) = _; first | (rw [ceq_kind (by simp [ckind])]; done) | (rw [ceq_kind (by simp [ckind])]; rfl)
theorem w_gEq_fz_str (x : List Cv) (y : Str) : gEq (.fz x) (.str y) h q = (okd (.fz x) ∧ okd (.str y) ∧ q (.bl false) h) := by show (okd _ ∧ okd _ ∧ q (.bl (ceq _ _)) h) = _; first | (rw [ceq_kind (by simp [ckind])]; done) | (rw [ceq_kind (by simp [ckind])]; rfl)
theorem w_gNe_fz_str (x : List Cv) (y : Str) : gNe (.fz x) (.str y) h q = (okd (.fz x) ∧ okd (.str y) ∧ q (.bl true) h) := by show (okd _ ∧ okd _ ∧ q (.bl (!ceq _ _)) h) = _; first | (rw [ceq_kind (by simp [ckind])]; done) | (rw [ceq_kind (by simp [ckind])]; rfl)
theorem w_gEq_fz_tup (x : List Cv) (y : List Cv) : gEq (.fz x) (.tup y) h q = (okd (.fz x) ∧ okd (.tup y) ∧ q (.bl false) h) := by show (okd _ ∧ okd _ ∧ q (.bl (ceq _ _)) h) = _; first | (rw [ceq_kind (by simp [ckind])]; done) | (rw [ceq_kind (by simp [ckind])]; rfl)
theorem w_gNe_fz_tup (x : List Cv) (y : List Cv) : gNe (.fz x) (.tup y) h q = (okd (.fz x) ∧ okd (.tup y) ∧ q (.bl true) h) := by show (okd _ ∧ okd _ ∧ q (.bl (!ceq _ _)) h) = _; first | (rw [ceq_kind (by simp [ckind])]; done) | (rw [ceq_kind (by simp [ckind])]; rfl)
theorem w_gEq_fz_lv (x : List Cv) (y : List Cv) : gEq (.fz x) (.lv y) h q = (okd (.fz x) ∧ okd (.lv y) ∧ q (.bl (ceq (.fz x) (.lv y))) h) := propext Iff.rfl
theorem w_gNe_fz_lv (x : List Cv) (y : List Cv) : gNe (.fz x) (.lv y) h q = (okd (.fz x) ∧ okd (.lv y) ∧ q (.bl (!ceq (.fz x) (.lv y))) h) := propext Iff.rfl
theorem w_gEq_fz_fz (x : List Cv) (y : List Cv) : gEq (.fz x) (.fz y) h q = (okd (.fz x) ∧ okd (.fz y) ∧ q (.bl (ceq (.fz x) (.fz y))) h) := propext Iff.rfl
theorem w_gNe_fz_fz (x : List Cv) (y : List Cv) : gNe (.fz x) (.fz y) h q = (okd (.fz x) ∧ okd (.fz y) ∧ q (.bl (!ceq (.fz x) (.fz y))) h) := propext Iff.rfl
theorem w_isn (x : Cv) : gIsN x .non h q = q (.bl (isN x)) h := propext Iff.rfl
theorem w_notn (x : Cv) : gNotN x .non h q = q (.bl (!isN x)) h := propext Iff.rfl
theorem isN_non : isN .non = true := rfl
theorem isN_bl (x : Bool) : isN (.bl x) = false := rfl
theorem isN_int (x : Int) : isN (.int x) = false := rfl
theorem isN_str (x : Str) : isN (.str x) = false := rfl
theorem isN_tup (x : List Cv) : isN (.tup x) = false := rfl
theorem isN_lv (x : List Cv) : isN (.lv x) = false := rfl
theorem isN_fz (x : List Cv) : isN (.fz x) = false := rfl
theorem isN_ref (a : Addr) : isN (.ref a) = false := rfl
theorem isN_ov (c : String) (fs : List (Str × Cv)) : isN (.ov c fs) = false := rfl
theorem w_ix_tup (xs : List Cv) (i : Int) : gIx (.tup xs) (.int i) h q = kSm (L2.atI xs i) fun v => q v h := by cases hh : L2.atI xs i <;> simp [gIx, kSm, asQ, asF, asL, hh]
theorem w_ix_lv (xs : List Cv) (i : Int) : gIx (.lv xs) (.int i) h q = kSm (L2.atI xs i) fun v => q v h := by cases hh : L2.atI xs i <;> simp [gIx, kSm, asQ, asF, asL, hh]
theorem w_ix_fz (xs : List Cv) (i : Int) : gIx (.fz xs) (.int i) h q = kSm (L2.atI xs i) fun v => q v h := by cases hh : L2.atI xs i <;> simp [gIx, kSm, asQ, asF, asL, hh]
theorem w_ix_str (z : Str) (i : Int) : gIx (.str z) (.int i) h q = (z.length ≤ sizeLine ∧ kSm (L2.atI z.cps.toList i) fun c => q (.str ⟨#[c]⟩) h) := by cases hh : L2.atI z.cps.toList i <;> simp [gIx, kSm, hh]
theorem w_ix_ref (a : Addr) (i : Int) : gIx (.ref a) (.int i) h q = kLs (h a) fun xs => kSm (L2.atI xs i) fun v => q v h := by
  cases hh : h a with
  | none => simp [gIx, kLs, asQ, asF, asL, hh]
  | some o =>
    cases o with
    | lst xs => cases h2 : L2.atI xs i <;> simp [gIx, kLs, kSm, asQ, asF, asL, hh, h2]
    | _ => simp [gIx, kLs, asQ, asF, asL, hh]
theorem w_slice_tup (xs : List Cv) (l u : Option Int) : gSlice (.tup xs) l u h q = q (.tup (cutG xs l u)) h := propext Iff.rfl
theorem w_slice_lv (xs : List Cv) (l u : Option Int) : gSlice (.lv xs) l u h q = q (.lv (cutG xs l u)) h := propext Iff.rfl
theorem w_slice_fz (xs : List Cv) (l u : Option Int) : gSlice (.fz xs) l u h q = q (.lv (cutG xs l u)) h := propext Iff.rfl
theorem w_slice_str (z : Str) (l u : Option Int) : gSlice (.str z) l u h q = (z.length ≤ sizeLine ∧ q (.str (cutS z l u)) h) := propext Iff.rfl
theorem w_slice_ref (a : Addr) (l u : Option Int) : gSlice (.ref a) l u h q = kLs (h a) fun xs => q (.lv (cutG xs l u)) h := by cases hh : h a with | none => simp [gSlice, kLs, asF, asL, hh, cutC_eq] | some o => cases o <;> simp [gSlice, kLs, asF, asL, hh, cutC_eq]
theorem w_len_tup (xs : List Cv) : gLen [.tup xs] h q = q (.int xs.length) h := propext Iff.rfl
theorem w_tuple_tup (xs : List Cv) : gTuple [.tup xs] h q = q (.tup xs) h := propext Iff.rfl
theorem w_list_tup (xs : List Cv) : gList [.tup xs] h q = q (.lv xs) h := propext Iff.rfl
theorem w_listl_tup (xs : List Cv) : gListL [.tup xs] h q = ∀ p, h p = none → q (.ref p) (cup h p (.lst xs)) := propext Iff.rfl
theorem w_len_lv (xs : List Cv) : gLen [.lv xs] h q = q (.int xs.length) h := propext Iff.rfl
theorem w_tuple_lv (xs : List Cv) : gTuple [.lv xs] h q = q (.tup xs) h := propext Iff.rfl
theorem w_list_lv (xs : List Cv) : gList [.lv xs] h q = q (.lv xs) h := propext Iff.rfl
theorem w_listl_lv (xs : List Cv) : gListL [.lv xs] h q = ∀ p, h p = none → q (.ref p) (cup h p (.lst xs)) := propext Iff.rfl
theorem w_len_fz (xs : List Cv) : gLen [.fz xs] h q = q (.int xs.length) h := propext Iff.rfl
theorem w_tuple_fz (xs : List Cv) : gTuple [.fz xs] h q = q (.tup xs) h := propext Iff.rfl
theorem w_list_fz (xs : List Cv) : gList [.fz xs] h q = q (.lv xs) h := propext Iff.rfl
theorem w_listl_fz (xs : List Cv) : gListL [.fz xs] h q = ∀ p, h p = none → q (.ref p) (cup h p (.lst xs)) := propext Iff.rfl
theorem w_gTuple_ref (a : Addr) : gTuple [.ref a] h q = kLs (h a) fun xs => q (.tup xs) h := by cases hh : h a with | none => simp [gTuple, kLs, asQ, asF, asL, hh] | some o => cases o <;> simp [gTuple, kLs, asQ, asF, asL, hh]
theorem w_gList_ref (a : Addr) : gList [.ref a] h q = kLs (h a) fun xs => q (.lv xs) h := by cases hh : h a with | none => simp [gList, kLs, asQ, asF, asL, hh] | some o => cases o <;> simp [gList, kLs, asQ, asF, asL, hh]
theorem w_gListL_ref (a : Addr) : gListL [.ref a] h q = kLs (h a) fun xs => ∀ p, h p = none → q (.ref p) (cup h p (.lst xs)) := by cases hh : h a with | none => simp [gListL, kLs, asQ, asF, asL, hh] | some o => cases o <;> simp [gListL, kLs, asQ, asF, asL, hh]
theorem w_len_str (z : Str) : gLen [.str z] h q = (z.length ≤ sizeLine ∧ q (.int z.length) h) := propext Iff.rfl
def kLen (o : Option Cob) (k : Int → Prop) : Prop := match o with | some (.lst xs) => k xs.length | some (.dct kvs) => k kvs.length | _ => False
theorem kLen_l (xs : List Cv) (k : Int → Prop) : kLen (some (.lst xs)) k = k xs.length := propext Iff.rfl
theorem kLen_d (xs : List (Key × Cv)) (k : Int → Prop) : kLen (some (.dct xs)) k = k xs.length := propext Iff.rfl
theorem w_len_ref (a : Addr) : gLen [.ref a] h q = kLen (h a) fun n => q (.int n) h := by cases hh : h a with | none => simp [gLen, kLen, asQ, asF, asL, hh] | some o => cases o <;> simp [gLen, kLen, asQ, asF, asL, hh]
theorem w_int_i (i : Int) : gInt [.int i] h q = q (.int i) h := propext Iff.rfl
theorem w_int_b (b : Bool) : gInt [.bl b] h q = q (.int (if b = true then 1 else 0)) h := propext Iff.rfl
theorem w_str_i (i : Int) : gStr [.int i] h q = (i.natAbs.log2 < 1920 ∧ q (.str (toString i)) h) := propext Iff.rfl
theorem w_abs (i : Int) : gAbs [.int i] h q = q (.int (if i < 0 then -i else i)) h := propext Iff.rfl
theorem w_max2 (i j : Int) : gMax2 [.int i, .int j] h q = q (.int (if j > i then j else i)) h := propext Iff.rfl
theorem w_min2 (i j : Int) : gMin2 [.int i, .int j] h q = q (.int (if j < i then j else i)) h := propext Iff.rfl
theorem w_rev_t (xs : List Cv) : gRev (.tup xs) h q = q (.tup xs.reverse) h := propext Iff.rfl
theorem w_rev_l (xs : List Cv) : gRev (.lv xs) h q = q (.lv xs.reverse) h := propext Iff.rfl
theorem w_append (a : Addr) (y : Cv) : gAppend (.ref a) [y] h q = kLs (h a) fun ys => ys.length ≤ 1000000 ∧ q .non (cup h a (.lst (ys ++ [y]))) := by cases hh : h a with | none => simp [gAppend, kLs, asQ, asF, asL, hh] | some o => cases o <;> simp [gAppend, kLs, asQ, asF, asL, hh]
theorem w_pop (a : Addr) (i : Int) : gPop (.ref a) [.int i] h q = kLs (h a) fun ys => kSm (ixN ys.length i) fun j => kSm ys[j]? fun y => -(2 ^ 62) ≤ i ∧ i < 2 ^ 62 ∧ q y (cup h a (.lst (ys.eraseIdx j))) := by
  cases hh : h a with
  | none => simp [gPop, kLs, hh]
  | some o =>
    cases o with
    | lst ys =>
      cases h2 : ixN ys.length i with
      | none => simp [gPop, kLs, kSm, hh, h2]
      | some j => cases h3 : ys[j]? <;> simp [gPop, kLs, kSm, hh, h2, h3]
    | _ => simp [gPop, kLs, hh]
theorem w_setl (a : Addr) (j : Int) (v : Cv) (k : CH → Prop) : gSetL (.ref a) (.int j) v h k = kLs (h a) fun xs => kSm (ixN xs.length j) fun n => k (cup h a (.lst (xs.set n v))) := by
  cases hh : h a with
  | none => simp [gSetL, kLs, hh]
  | some o =>
    cases o with
    | lst ys => cases h2 : ixN ys.length j <;> simp [gSetL, kLs, kSm, hh, h2]
    | _ => simp [gSetL, kLs, hh]
theorem w_next : sNext env h R = R.nx env h := propext Iff.rfl
theorem w_brk : sBrk env h R = R.bk env h := propext Iff.rfl
theorem w_cont : sCont env h R = R.ct env h := propext Iff.rfl
theorem w_seq : sSeq c d env h R = c env h { R with nx := fun env1 h1 => d env1 h1 R } := propext Iff.rfl
theorem w_expr : sExpr ca env h R = ca env h (fun _ h1 => R.nx env h1) fun x h1 => R.ex x env h1 := propext Iff.rfl
theorem w_ret : sRet ca env h R = ca env h R.rt fun x h1 => R.ex x env h1 := propext Iff.rfl
theorem w_retn : sRetN env h R = R.rt .non h := propext Iff.rfl
theorem w_if : sIf t c d env h R = t env h (fun b h1 => if b = true then c env h1 R else d env h1 R) fun x h1 => R.ex x env h1 := propext Iff.rfl
def kRetF (x : Cv) (h : CH) (k : Cv → CH → Prop) : Prop := match x with | .ref p => (match h p with | some (.lst xs) => k (.lv xs) (cdel h p) | _ => False) | _ => False
theorem kRetF_r (p : Addr) (k : Cv → CH → Prop) : kRetF (.ref p) h k = kLs (h p) fun xs => k (.lv xs) (cdel h p) := by cases hh : h p with | none => simp [kRetF, kLs, hh] | some o => cases o <;> simp [kRetF, kLs, hh]
theorem w_retf : sRetF ca env h R = ca env h (fun x h1 => kRetF x h1 R.rt) fun x h1 => R.ex x env h1 := propext Iff.rfl
variable (tg : CTg)
theorem w_asg : sAsg ca tg env h R = ca env h (fun x h1 => tg x env h1 R.nx fun x h2 => R.ex x env h2) fun x h1 => R.ex x env h1 := propext Iff.rfl
theorem w_asgt : sAsgT ca tg env h R = ca env h (fun x h1 => tg x env h1 R.nx fun _ _ => False) fun x h1 => R.ex x env h1 := propext Iff.rfl
theorem w_gnm (i : Nat) (x : Cv) (k : CEnv → CH → Prop) : gNm i x env h k e = k (env.set i (some x)) h := propext Iff.rfl
theorem w_gtp (n : Nat) (gs : CTgs) (xs : List Cv) (k : CEnv → CH → Prop) : gTp n gs (.tup xs) env h k e = (xs.length = n ∧ gs xs env h k e) := propext Iff.rfl
theorem w_gsnil (k : CEnv → CH → Prop) : gsNil [] env h k e = k env h := by unfold gsNil; simp
theorem w_gscons (gs : CTgs) (x : Cv) (xs : List Cv) (k : CEnv → CH → Prop) : gsCons tg gs (x :: xs) env h k e = tg x env h (fun env1 h1 => gs xs env1 h1 k e) e := propext Iff.rfl
theorem w_gsb (f : CSt) (x : Cv) (k : CEnv → CH → Prop) : gSb f ca cb x env h k e = ca env h (fun o h1 => cb env h1 (fun i h2 => f o i x h2 fun h3 => k env h3) e) e := propext Iff.rfl
theorem w_aug0 {v : Cv} {r : CEnv} : sAug g 0 ca (some v :: r) h R = ca (some v :: r) h (fun y h1 => g v y h1 fun z h2 => R.nx ((some v :: r).set 0 (some z)) h2) fun x h1 => R.ex x (some v :: r) h1 := propext Iff.rfl
theorem w_aug1 {a0 : Option Cv} {v : Cv} {r : CEnv} : sAug g 1 ca (a0 :: some v :: r) h R = ca (a0 :: some v :: r) h (fun y h1 => g v y h1 fun z h2 => R.nx ((a0 :: some v :: r).set 1 (some z)) h2) fun x h1 => R.ex x (a0 :: some v :: r) h1 := propext Iff.rfl
theorem w_aug2 {a0 a1 : Option Cv} {v : Cv} {r : CEnv} : sAug g 2 ca (a0 :: a1 :: some v :: r) h R = ca (a0 :: a1 :: some v :: r) h (fun y h1 => g v y h1 fun z h2 => R.nx ((a0 :: a1 :: some v :: r).set 2 (some z)) h2) fun x h1 => R.ex x (a0 :: a1 :: some v :: r) h1 := propext Iff.rfl
theorem w_aug3 {a0 a1 a2 : Option Cv} {v : Cv} {r : CEnv} : sAug g 3 ca (a0 :: a1 :: a2 :: some v :: r) h R = ca (a0 :: a1 :: a2 :: some v :: r) h (fun y h1 => g v y h1 fun z h2 => R.nx ((a0 :: a1 :: a2 :: some v :: r).set 3 (some z)) h2) fun x h1 => R.ex x (a0 :: a1 :: a2 :: some v :: r) h1 := propext Iff.rfl
theorem w_aug4 {a0 a1 a2 a3 : Option Cv} {v : Cv} {r : CEnv} : sAug g 4 ca (a0 :: a1 :: a2 :: a3 :: some v :: r) h R = ca (a0 :: a1 :: a2 :: a3 :: some v :: r) h (fun y h1 => g v y h1 fun z h2 => R.nx ((a0 :: a1 :: a2 :: a3 :: some v :: r).set 4 (some z)) h2) fun x h1 => R.ex x (a0 :: a1 :: a2 :: a3 :: some v :: r) h1 := propext Iff.rfl
theorem w_aug5 {a0 a1 a2 a3 a4 : Option Cv} {v : Cv} {r : CEnv} : sAug g 5 ca (a0 :: a1 :: a2 :: a3 :: a4 :: some v :: r) h R = ca (a0 :: a1 :: a2 :: a3 :: a4 :: some v :: r) h (fun y h1 => g v y h1 fun z h2 => R.nx ((a0 :: a1 :: a2 :: a3 :: a4 :: some v :: r).set 5 (some z)) h2) fun x h1 => R.ex x (a0 :: a1 :: a2 :: a3 :: a4 :: some v :: r) h1 := propext Iff.rfl
theorem w_aug6 {a0 a1 a2 a3 a4 a5 : Option Cv} {v : Cv} {r : CEnv} : sAug g 6 ca (a0 :: a1 :: a2 :: a3 :: a4 :: a5 :: some v :: r) h R = ca (a0 :: a1 :: a2 :: a3 :: a4 :: a5 :: some v :: r) h (fun y h1 => g v y h1 fun z h2 => R.nx ((a0 :: a1 :: a2 :: a3 :: a4 :: a5 :: some v :: r).set 6 (some z)) h2) fun x h1 => R.ex x (a0 :: a1 :: a2 :: a3 :: a4 :: a5 :: some v :: r) h1 := propext Iff.rfl
theorem w_aug7 {a0 a1 a2 a3 a4 a5 a6 : Option Cv} {v : Cv} {r : CEnv} : sAug g 7 ca (a0 :: a1 :: a2 :: a3 :: a4 :: a5 :: a6 :: some v :: r) h R = ca (a0 :: a1 :: a2 :: a3 :: a4 :: a5 :: a6 :: some v :: r) h (fun y h1 => g v y h1 fun z h2 => R.nx ((a0 :: a1 :: a2 :: a3 :: a4 :: a5 :: a6 :: some v :: r).set 7 (some z)) h2) fun x h1 => R.ex x (a0 :: a1 :: a2 :: a3 :: a4 :: a5 :: a6 :: some v :: r) h1 := propext Iff.rfl
theorem w_aug8 {a0 a1 a2 a3 a4 a5 a6 a7 : Option Cv} {v : Cv} {r : CEnv} : sAug g 8 ca (a0 :: a1 :: a2 :: a3 :: a4 :: a5 :: a6 :: a7 :: some v :: r) h R = ca (a0 :: a1 :: a2 :: a3 :: a4 :: a5 :: a6 :: a7 :: some v :: r) h (fun y h1 => g v y h1 fun z h2 => R.nx ((a0 :: a1 :: a2 :: a3 :: a4 :: a5 :: a6 :: a7 :: some v :: r).set 8 (some z)) h2) fun x h1 => R.ex x (a0 :: a1 :: a2 :: a3 :: a4 :: a5 :: a6 :: a7 :: some v :: r) h1 := propext Iff.rfl
theorem w_aug9 {a0 a1 a2 a3 a4 a5 a6 a7 a8 : Option Cv} {v : Cv} {r : CEnv} : sAug g 9 ca (a0 :: a1 :: a2 :: a3 :: a4 :: a5 :: a6 :: a7 :: a8 :: some v :: r) h R = ca (a0 :: a1 :: a2 :: a3 :: a4 :: a5 :: a6 :: a7 :: a8 :: some v :: r) h (fun y h1 => g v y h1 fun z h2 => R.nx ((a0 :: a1 :: a2 :: a3 :: a4 :: a5 :: a6 :: a7 :: a8 :: some v :: r).set 9 (some z)) h2) fun x h1 => R.ex x (a0 :: a1 :: a2 :: a3 :: a4 :: a5 :: a6 :: a7 :: a8 :: some v :: r) h1 := propext Iff.rfl
theorem w_aug10 {a0 a1 a2 a3 a4 a5 a6 a7 a8 a9 : Option Cv} {v : Cv} {r : CEnv} : sAug g 10 ca (a0 :: a1 :: a2 :: a3 :: a4 :: a5 :: a6 :: a7 :: a8 :: a9 :: some v :: r) h R = ca (a0 :: a1 :: a2 :: a3 :: a4 :: a5 :: a6 :: a7 :: a8 :: a9 :: some v :: r) h (fun y h1 => g v y h1 fun z h2 => R.nx ((a0 :: a1 :: a2 :: a3 :: a4 :: a5 :: a6 :: a7 :: a8 :: a9 :: some v :: r).set 10 (some z)) h2) fun x h1 => R.ex x (a0 :: a1 :: a2 :: a3 :: a4 :: a5 :: a6 :: a7 :: a8 :: a9 :: some v :: r) h1 := propext Iff.rfl
theorem w_aug11 {a0 a1 a2 a3 a4 a5 a6 a7 a8 a9 a10 : Option Cv} {v : Cv} {r : CEnv} : sAug g 11 ca (a0 :: a1 :: a2 :: a3 :: a4 :: a5 :: a6 :: a7 :: a8 :: a9 :: a10 :: some v :: r) h R = ca (a0 :: a1 :: a2 :: a3 :: a4 :: a5 :: a6 :: a7 :: a8 :: a9 :: a10 :: some v :: r) h (fun y h1 => g v y h1 fun z h2 => R.nx ((a0 :: a1 :: a2 :: a3 :: a4 :: a5 :: a6 :: a7 :: a8 :: a9 :: a10 :: some v :: r).set 11 (some z)) h2) fun x h1 => R.ex x (a0 :: a1 :: a2 :: a3 :: a4 :: a5 :: a6 :: a7 :: a8 :: a9 :: a10 :: some v :: r) h1 := propext Iff.rfl
theorem w_aug12 {a0 a1 a2 a3 a4 a5 a6 a7 a8 a9 a10 a11 : Option Cv} {v : Cv} {r : CEnv} : sAug g 12 ca (a0 :: a1 :: a2 :: a3 :: a4 :: a5 :: a6 :: a7 :: a8 :: a9 :: a10 :: a11 :: some v :: r) h R = ca (a0 :: a1 :: a2 :: a3 :: a4 :: a5 :: a6 :: a7 :: a8 :: a9 :: a10 :: a11 :: some v :: r) h (fun y h1 => g v y h1 fun z h2 => R.nx ((a0 :: a1 :: a2 :: a3 :: a4 :: a5 :: a6 :: a7 :: a8 :: a9 :: a10 :: a11 :: some v :: r).set 12 (some z)) h2) fun x h1 => R.ex x (a0 :: a1 :: a2 :: a3 :: a4 :: a5 :: a6 :: a7 :: a8 :: a9 :: a10 :: a11 :: some v :: r) h1 := propext Iff.rfl
theorem w_aug13 {a0 a1 a2 a3 a4 a5 a6 a7 a8 a9 a10 a11 a12 : Option Cv} {v : Cv} {r : CEnv} : sAug g 13 ca (a0 :: a1 :: a2 :: a3 :: a4 :: a5 :: a6 :: a7 :: a8 :: a9 :: a10 :: a11 :: a12 :: some v :: r) h R = ca (a0 :: a1 :: a2 :: a3 :: a4 :: a5 :: a6 :: a7 :: a8 :: a9 :: a10 :: a11 :: a12 :: some v :: r) h (fun y h1 => g v y h1 fun z h2 => R.nx ((a0 :: a1 :: a2 :: a3 :: a4 :: a5 :: a6 :: a7 :: a8 :: a9 :: a10 :: a11 :: a12 :: some v :: r).set 13 (some z)) h2) fun x h1 => R.ex x (a0 :: a1 :: a2 :: a3 :: a4 :: a5 :: a6 :: a7 :: a8 :: a9 :: a10 :: a11 :: a12 :: some v :: r) h1 := propext Iff.rfl
theorem w_aug14 {a0 a1 a2 a3 a4 a5 a6 a7 a8 a9 a10 a11 a12 a13 : Option Cv} {v : Cv} {r : CEnv} : sAug g 14 ca (a0 :: a1 :: a2 :: a3 :: a4 :: a5 :: a6 :: a7 :: a8 :: a9 :: a10 :: a11 :: a12 :: a13 :: some v :: r) h R = ca (a0 :: a1 :: a2 :: a3 :: a4 :: a5 :: a6 :: a7 :: a8 :: a9 :: a10 :: a11 :: a12 :: a13 :: some v :: r) h (fun y h1 => g v y h1 fun z h2 => R.nx ((a0 :: a1 :: a2 :: a3 :: a4 :: a5 :: a6 :: a7 :: a8 :: a9 :: a10 :: a11 :: a12 :: a13 :: some v :: r).set 14 (some z)) h2) fun x h1 => R.ex x (a0 :: a1 :: a2 :: a3 :: a4 :: a5 :: a6 :: a7 :: a8 :: a9 :: a10 :: a11 :: a12 :: a13 :: some v :: r) h1 := propext Iff.rfl
theorem w_aug15 {a0 a1 a2 a3 a4 a5 a6 a7 a8 a9 a10 a11 a12 a13 a14 : Option Cv} {v : Cv} {r : CEnv} : sAug g 15 ca (a0 :: a1 :: a2 :: a3 :: a4 :: a5 :: a6 :: a7 :: a8 :: a9 :: a10 :: a11 :: a12 :: a13 :: a14 :: some v :: r) h R = ca (a0 :: a1 :: a2 :: a3 :: a4 :: a5 :: a6 :: a7 :: a8 :: a9 :: a10 :: a11 :: a12 :: a13 :: a14 :: some v :: r) h (fun y h1 => g v y h1 fun z h2 => R.nx ((a0 :: a1 :: a2 :: a3 :: a4 :: a5 :: a6 :: a7 :: a8 :: a9 :: a10 :: a11 :: a12 :: a13 :: a14 :: some v :: r).set 15 (some z)) h2) fun x h1 => R.ex x (a0 :: a1 :: a2 :: a3 :: a4 :: a5 :: a6 :: a7 :: a8 :: a9 :: a10 :: a11 :: a12 :: a13 :: a14 :: some v :: r) h1 := propext Iff.rfl
theorem w_aug16 {a0 a1 a2 a3 a4 a5 a6 a7 a8 a9 a10 a11 a12 a13 a14 a15 : Option Cv} {v : Cv} {r : CEnv} : sAug g 16 ca (a0 :: a1 :: a2 :: a3 :: a4 :: a5 :: a6 :: a7 :: a8 :: a9 :: a10 :: a11 :: a12 :: a13 :: a14 :: a15 :: some v :: r) h R = ca (a0 :: a1 :: a2 :: a3 :: a4 :: a5 :: a6 :: a7 :: a8 :: a9 :: a10 :: a11 :: a12 :: a13 :: a14 :: a15 :: some v :: r) h (fun y h1 => g v y h1 fun z h2 => R.nx ((a0 :: a1 :: a2 :: a3 :: a4 :: a5 :: a6 :: a7 :: a8 :: a9 :: a10 :: a11 :: a12 :: a13 :: a14 :: a15 :: some v :: r).set 16 (some z)) h2) fun x h1 => R.ex x (a0 :: a1 :: a2 :: a3 :: a4 :: a5 :: a6 :: a7 :: a8 :: a9 :: a10 :: a11 :: a12 :: a13 :: a14 :: a15 :: some v :: r) h1 := propext Iff.rfl
theorem w_aug17 {a0 a1 a2 a3 a4 a5 a6 a7 a8 a9 a10 a11 a12 a13 a14 a15 a16 : Option Cv} {v : Cv} {r : CEnv} : sAug g 17 ca (a0 :: a1 :: a2 :: a3 :: a4 :: a5 :: a6 :: a7 :: a8 :: a9 :: a10 :: a11 :: a12 :: a13 :: a14 :: a15 :: a16 :: some v :: r) h R = ca (a0 :: a1 :: a2 :: a3 :: a4 :: a5 :: a6 :: a7 :: a8 :: a9 :: a10 :: a11 :: a12 :: a13 :: a14 :: a15 :: a16 :: some v :: r) h (fun y h1 => g v y h1 fun z h2 => R.nx ((a0 :: a1 :: a2 :: a3 :: a4 :: a5 :: a6 :: a7 :: a8 :: a9 :: a10 :: a11 :: a12 :: a13 :: a14 :: a15 :: a16 :: some v :: r).set 17 (some z)) h2) fun x h1 => R.ex x (a0 :: a1 :: a2 :: a3 :: a4 :: a5 :: a6 :: a7 :: a8 :: a9 :: a10 :: a11 :: a12 :: a13 :: a14 :: a15 :: a16 :: some v :: r) h1 := propext Iff.rfl
theorem w_aug18 {a0 a1 a2 a3 a4 a5 a6 a7 a8 a9 a10 a11 a12 a13 a14 a15 a16 a17 : Option Cv} {v : Cv} {r : CEnv} : sAug g 18 ca (a0 :: a1 :: a2 :: a3 :: a4 :: a5 :: a6 :: a7 :: a8 :: a9 :: a10 :: a11 :: a12 :: a13 :: a14 :: a15 :: a16 :: a17 :: some v :: r) h R = ca (a0 :: a1 :: a2 :: a3 :: a4 :: a5 :: a6 :: a7 :: a8 :: a9 :: a10 :: a11 :: a12 :: a13 :: a14 :: a15 :: a16 :: a17 :: some v :: r) h (fun y h1 => g v y h1 fun z h2 => R.nx ((a0 :: a1 :: a2 :: a3 :: a4 :: a5 :: a6 :: a7 :: a8 :: a9 :: a10 :: a11 :: a12 :: a13 :: a14 :: a15 :: a16 :: a17 :: some v :: r).set 18 (some z)) h2) fun x h1 => R.ex x (a0 :: a1 :: a2 :: a3 :: a4 :: a5 :: a6 :: a7 :: a8 :: a9 :: a10 :: a11 :: a12 :: a13 :: a14 :: a15 :: a16 :: a17 :: some v :: r) h1 := propext Iff.rfl
theorem w_aug19 {a0 a1 a2 a3 a4 a5 a6 a7 a8 a9 a10 a11 a12 a13 a14 a15 a16 a17 a18 : Option Cv} {v : Cv} {r : CEnv} : sAug g 19 ca (a0 :: a1 :: a2 :: a3 :: a4 :: a5 :: a6 :: a7 :: a8 :: a9 :: a10 :: a11 :: a12 :: a13 :: a14 :: a15 :: a16 :: a17 :: a18 :: some v :: r) h R = ca (a0 :: a1 :: a2 :: a3 :: a4 :: a5 :: a6 :: a7 :: a8 :: a9 :: a10 :: a11 :: a12 :: a13 :: a14 :: a15 :: a16 :: a17 :: a18 :: some v :: r) h (fun y h1 => g v y h1 fun z h2 => R.nx ((a0 :: a1 :: a2 :: a3 :: a4 :: a5 :: a6 :: a7 :: a8 :: a9 :: a10 :: a11 :: a12 :: a13 :: a14 :: a15 :: a16 :: a17 :: a18 :: some v :: r).set 19 (some z)) h2) fun x h1 => R.ex x (a0 :: a1 :: a2 :: a3 :: a4 :: a5 :: a6 :: a7 :: a8 :: a9 :: a10 :: a11 :: a12 :: a13 :: a14 :: a15 :: a16 :: a17 :: a18 :: some v :: r) h1 := propext Iff.rfl
theorem w_aug20 {a0 a1 a2 a3 a4 a5 a6 a7 a8 a9 a10 a11 a12 a13 a14 a15 a16 a17 a18 a19 : Option Cv} {v : Cv} {r : CEnv} : sAug g 20 ca (a0 :: a1 :: a2 :: a3 :: a4 :: a5 :: a6 :: a7 :: a8 :: a9 :: a10 :: a11 :: a12 :: a13 :: a14 :: a15 :: a16 :: a17 :: a18 :: a19 :: some v :: r) h R = ca (a0 :: a1 :: a2 :: a3 :: a4 :: a5 :: a6 :: a7 :: a8 :: a9 :: a10 :: a11 :: a12 :: a13 :: a14 :: a15 :: a16 :: a17 :: a18 :: a19 :: some v :: r) h (fun y h1 => g v y h1 fun z h2 => R.nx ((a0 :: a1 :: a2 :: a3 :: a4 :: a5 :: a6 :: a7 :: a8 :: a9 :: a10 :: a11 :: a12 :: a13 :: a14 :: a15 :: a16 :: a17 :: a18 :: a19 :: some v :: r).set 20 (some z)) h2) fun x h1 => R.ex x (a0 :: a1 :: a2 :: a3 :: a4 :: a5 :: a6 :: a7 :: a8 :: a9 :: a10 :: a11 :: a12 :: a13 :: a14 :: a15 :: a16 :: a17 :: a18 :: a19 :: some v :: r) h1 := propext Iff.rfl
theorem w_aug21 {a0 a1 a2 a3 a4 a5 a6 a7 a8 a9 a10 a11 a12 a13 a14 a15 a16 a17 a18 a19 a20 : Option Cv} {v : Cv} {r : CEnv} : sAug g 21 ca (a0 :: a1 :: a2 :: a3 :: a4 :: a5 :: a6 :: a7 :: a8 :: a9 :: a10 :: a11 :: a12 :: a13 :: a14 :: a15 :: a16 :: a17 :: a18 :: a19 :: a20 :: some v :: r) h R = ca (a0 :: a1 :: a2 :: a3 :: a4 :: a5 :: a6 :: a7 :: a8 :: a9 :: a10 :: a11 :: a12 :: a13 :: a14 :: a15 :: a16 :: a17 :: a18 :: a19 :: a20 :: some v :: r) h (fun y h1 => g v y h1 fun z h2 => R.nx ((a0 :: a1 :: a2 :: a3 :: a4 :: a5 :: a6 :: a7 :: a8 :: a9 :: a10 :: a11 :: a12 :: a13 :: a14 :: a15 :: a16 :: a17 :: a18 :: a19 :: a20 :: some v :: r).set 21 (some z)) h2) fun x h1 => R.ex x (a0 :: a1 :: a2 :: a3 :: a4 :: a5 :: a6 :: a7 :: a8 :: a9 :: a10 :: a11 :: a12 :: a13 :: a14 :: a15 :: a16 :: a17 :: a18 :: a19 :: a20 :: some v :: r) h1 := propext Iff.rfl
theorem w_aug22 {a0 a1 a2 a3 a4 a5 a6 a7 a8 a9 a10 a11 a12 a13 a14 a15 a16 a17 a18 a19 a20 a21 : Option Cv} {v : Cv} {r : CEnv} : sAug g 22 ca (a0 :: a1 :: a2 :: a3 :: a4 :: a5 :: a6 :: a7 :: a8 :: a9 :: a10 :: a11 :: a12 :: a13 :: a14 :: a15 :: a16 :: a17 :: a18 :: a19 :: a20 :: a21 :: some v :: r) h R = ca (a0 :: a1 :: a2 :: a3 :: a4 :: a5 :: a6 :: a7 :: a8 :: a9 :: a10 :: a11 :: a12 :: a13 :: a14 :: a15 :: a16 :: a17 :: a18 :: a19 :: a20 :: a21 :: some v :: r) h (fun y h1 => g v y h1 fun z h2 => R.nx ((a0 :: a1 :: a2 :: a3 :: a4 :: a5 :: a6 :: a7 :: a8 :: a9 :: a10 :: a11 :: a12 :: a13 :: a14 :: a15 :: a16 :: a17 :: a18 :: a19 :: a20 :: a21 :: some v :: r).set 22 (some z)) h2) fun x h1 => R.ex x (a0 :: a1 :: a2 :: a3 :: a4 :: a5 :: a6 :: a7 :: a8 :: a9 :: a10 :: a11 :: a12 :: a13 :: a14 :: a15 :: a16 :: a17 :: a18 :: a19 :: a20 :: a21 :: some v :: r) h1 := propext Iff.rfl
theorem w_aug23 {a0 a1 a2 a3 a4 a5 a6 a7 a8 a9 a10 a11 a12 a13 a14 a15 a16 a17 a18 a19 a20 a21 a22 : Option Cv} {v : Cv} {r : CEnv} : sAug g 23 ca (a0 :: a1 :: a2 :: a3 :: a4 :: a5 :: a6 :: a7 :: a8 :: a9 :: a10 :: a11 :: a12 :: a13 :: a14 :: a15 :: a16 :: a17 :: a18 :: a19 :: a20 :: a21 :: a22 :: some v :: r) h R = ca (a0 :: a1 :: a2 :: a3 :: a4 :: a5 :: a6 :: a7 :: a8 :: a9 :: a10 :: a11 :: a12 :: a13 :: a14 :: a15 :: a16 :: a17 :: a18 :: a19 :: a20 :: a21 :: a22 :: some v :: r) h (fun y h1 => g v y h1 fun z h2 => R.nx ((a0 :: a1 :: a2 :: a3 :: a4 :: a5 :: a6 :: a7 :: a8 :: a9 :: a10 :: a11 :: a12 :: a13 :: a14 :: a15 :: a16 :: a17 :: a18 :: a19 :: a20 :: a21 :: a22 :: some v :: r).set 23 (some z)) h2) fun x h1 => R.ex x (a0 :: a1 :: a2 :: a3 :: a4 :: a5 :: a6 :: a7 :: a8 :: a9 :: a10 :: a11 :: a12 :: a13 :: a14 :: a15 :: a16 :: a17 :: a18 :: a19 :: a20 :: a21 :: a22 :: some v :: r) h1 := propext Iff.rfl
theorem w_aug24 {a0 a1 a2 a3 a4 a5 a6 a7 a8 a9 a10 a11 a12 a13 a14 a15 a16 a17 a18 a19 a20 a21 a22 a23 : Option Cv} {v : Cv} {r : CEnv} : sAug g 24 ca (a0 :: a1 :: a2 :: a3 :: a4 :: a5 :: a6 :: a7 :: a8 :: a9 :: a10 :: a11 :: a12 :: a13 :: a14 :: a15 :: a16 :: a17 :: a18 :: a19 :: a20 :: a21 :: a22 :: a23 :: some v :: r) h R = ca (a0 :: a1 :: a2 :: a3 :: a4 :: a5 :: a6 :: a7 :: a8 :: a9 :: a10 :: a11 :: a12 :: a13 :: a14 :: a15 :: a16 :: a17 :: a18 :: a19 :: a20 :: a21 :: a22 :: a23 :: some v :: r) h (fun y h1 => g v y h1 fun z h2 => R.nx ((a0 :: a1 :: a2 :: a3 :: a4 :: a5 :: a6 :: a7 :: a8 :: a9 :: a10 :: a11 :: a12 :: a13 :: a14 :: a15 :: a16 :: a17 :: a18 :: a19 :: a20 :: a21 :: a22 :: a23 :: some v :: r).set 24 (some z)) h2) fun x h1 => R.ex x (a0 :: a1 :: a2 :: a3 :: a4 :: a5 :: a6 :: a7 :: a8 :: a9 :: a10 :: a11 :: a12 :: a13 :: a14 :: a15 :: a16 :: a17 :: a18 :: a19 :: a20 :: a21 :: a22 :: a23 :: some v :: r) h1 := propext Iff.rfl
theorem w_aug25 {a0 a1 a2 a3 a4 a5 a6 a7 a8 a9 a10 a11 a12 a13 a14 a15 a16 a17 a18 a19 a20 a21 a22 a23 a24 : Option Cv} {v : Cv} {r : CEnv} : sAug g 25 ca (a0 :: a1 :: a2 :: a3 :: a4 :: a5 :: a6 :: a7 :: a8 :: a9 :: a10 :: a11 :: a12 :: a13 :: a14 :: a15 :: a16 :: a17 :: a18 :: a19 :: a20 :: a21 :: a22 :: a23 :: a24 :: some v :: r) h R = ca (a0 :: a1 :: a2 :: a3 :: a4 :: a5 :: a6 :: a7 :: a8 :: a9 :: a10 :: a11 :: a12 :: a13 :: a14 :: a15 :: a16 :: a17 :: a18 :: a19 :: a20 :: a21 :: a22 :: a23 :: a24 :: some v :: r) h (fun y h1 => g v y h1 fun z h2 => R.nx ((a0 :: a1 :: a2 :: a3 :: a4 :: a5 :: a6 :: a7 :: a8 :: a9 :: a10 :: a11 :: a12 :: a13 :: a14 :: a15 :: a16 :: a17 :: a18 :: a19 :: a20 :: a21 :: a22 :: a23 :: a24 :: some v :: r).set 25 (some z)) h2) fun x h1 => R.ex x (a0 :: a1 :: a2 :: a3 :: a4 :: a5 :: a6 :: a7 :: a8 :: a9 :: a10 :: a11 :: a12 :: a13 :: a14 :: a15 :: a16 :: a17 :: a18 :: a19 :: a20 :: a21 :: a22 :: a23 :: a24 :: some v :: r) h1 := propext Iff.rfl
theorem w_aug26 {a0 a1 a2 a3 a4 a5 a6 a7 a8 a9 a10 a11 a12 a13 a14 a15 a16 a17 a18 a19 a20 a21 a22 a23 a24 a25 : Option Cv} {v : Cv} {r : CEnv} : sAug g 26 ca (a0 :: a1 :: a2 :: a3 :: a4 :: a5 :: a6 :: a7 :: a8 :: a9 :: a10 :: a11 :: a12 :: a13 :: a14 :: a15 :: a16 :: a17 :: a18 :: a19 :: a20 :: a21 :: a22 :: a23 :: a24 :: a25 :: some v :: r) h R = ca (a0 :: a1 :: a2 :: a3 :: a4 :: a5 :: a6 :: a7 :: a8 :: a9 :: a10 :: a11 :: a12 :: a13 :: a14 :: a15 :: a16 :: a17 :: a18 :: a19 :: a20 :: a21 :: a22 :: a23 :: a24 :: a25 :: some v :: r) h (fun y h1 => g v y h1 fun z h2 => R.nx ((a0 :: a1 :: a2 :: a3 :: a4 :: a5 :: a6 :: a7 :: a8 :: a9 :: a10 :: a11 :: a12 :: a13 :: a14 :: a15 :: a16 :: a17 :: a18 :: a19 :: a20 :: a21 :: a22 :: a23 :: a24 :: a25 :: some v :: r).set 26 (some z)) h2) fun x h1 => R.ex x (a0 :: a1 :: a2 :: a3 :: a4 :: a5 :: a6 :: a7 :: a8 :: a9 :: a10 :: a11 :: a12 :: a13 :: a14 :: a15 :: a16 :: a17 :: a18 :: a19 :: a20 :: a21 :: a22 :: a23 :: a24 :: a25 :: some v :: r) h1 := propext Iff.rfl
theorem w_aug27 {a0 a1 a2 a3 a4 a5 a6 a7 a8 a9 a10 a11 a12 a13 a14 a15 a16 a17 a18 a19 a20 a21 a22 a23 a24 a25 a26 : Option Cv} {v : Cv} {r : CEnv} : sAug g 27 ca (a0 :: a1 :: a2 :: a3 :: a4 :: a5 :: a6 :: a7 :: a8 :: a9 :: a10 :: a11 :: a12 :: a13 :: a14 :: a15 :: a16 :: a17 :: a18 :: a19 :: a20 :: a21 :: a22 :: a23 :: a24 :: a25 :: a26 :: some v :: r) h R = ca (a0 :: a1 :: a2 :: a3 :: a4 :: a5 :: a6 :: a7 :: a8 :: a9 :: a10 :: a11 :: a12 :: a13 :: a14 :: a15 :: a16 :: a17 :: a18 :: a19 :: a20 :: a21 :: a22 :: a23 :: a24 :: a25 :: a26 :: some v :: r) h (fun y h1 => g v y h1 fun z h2 => R.nx ((a0 :: a1 :: a2 :: a3 :: a4 :: a5 :: a6 :: a7 :: a8 :: a9 :: a10 :: a11 :: a12 :: a13 :: a14 :: a15 :: a16 :: a17 :: a18 :: a19 :: a20 :: a21 :: a22 :: a23 :: a24 :: a25 :: a26 :: some v :: r).set 27 (some z)) h2) fun x h1 => R.ex x (a0 :: a1 :: a2 :: a3 :: a4 :: a5 :: a6 :: a7 :: a8 :: a9 :: a10 :: a11 :: a12 :: a13 :: a14 :: a15 :: a16 :: a17 :: a18 :: a19 :: a20 :: a21 :: a22 :: a23 :: a24 :: a25 :: a26 :: some v :: r) h1 := propext Iff.rfl
theorem w_aug28 {a0 a1 a2 a3 a4 a5 a6 a7 a8 a9 a10 a11 a12 a13 a14 a15 a16 a17 a18 a19 a20 a21 a22 a23 a24 a25 a26 a27 : Option Cv} {v : Cv} {r : CEnv} : sAug g 28 ca (a0 :: a1 :: a2 :: a3 :: a4 :: a5 :: a6 :: a7 :: a8 :: a9 :: a10 :: a11 :: a12 :: a13 :: a14 :: a15 :: a16 :: a17 :: a18 :: a19 :: a20 :: a21 :: a22 :: a23 :: a24 :: a25 :: a26 :: a27 :: some v :: r) h R = ca (a0 :: a1 :: a2 :: a3 :: a4 :: a5 :: a6 :: a7 :: a8 :: a9 :: a10 :: a11 :: a12 :: a13 :: a14 :: a15 :: a16 :: a17 :: a18 :: a19 :: a20 :: a21 :: a22 :: a23 :: a24 :: a25 :: a26 :: a27 :: some v :: r) h (fun y h1 => g v y h1 fun z h2 => R.nx ((a0 :: a1 :: a2 :: a3 :: a4 :: a5 :: a6 :: a7 :: a8 :: a9 :: a10 :: a11 :: a12 :: a13 :: a14 :: a15 :: a16 :: a17 :: a18 :: a19 :: a20 :: a21 :: a22 :: a23 :: a24 :: a25 :: a26 :: a27 :: some v :: r).set 28 (some z)) h2) fun x h1 => R.ex x (a0 :: a1 :: a2 :: a3 :: a4 :: a5 :: a6 :: a7 :: a8 :: a9 :: a10 :: a11 :: a12 :: a13 :: a14 :: a15 :: a16 :: a17 :: a18 :: a19 :: a20 :: a21 :: a22 :: a23 :: a24 :: a25 :: a26 :: a27 :: some v :: r) h1 := propext Iff.rfl
theorem w_aug29 {a0 a1 a2 a3 a4 a5 a6 a7 a8 a9 a10 a11 a12 a13 a14 a15 a16 a17 a18 a19 a20 a21 a22 a23 a24 a25 a26 a27 a28 : Option Cv} {v : Cv} {r : CEnv} : sAug g 29 ca (a0 :: a1 :: a2 :: a3 :: a4 :: a5 :: a6 :: a7 :: a8 :: a9 :: a10 :: a11 :: a12 :: a13 :: a14 :: a15 :: a16 :: a17 :: a18 :: a19 :: a20 :: a21 :: a22 :: a23 :: a24 :: a25 :: a26 :: a27 :: a28 :: some v :: r) h R = ca (a0 :: a1 :: a2 :: a3 :: a4 :: a5 :: a6 :: a7 :: a8 :: a9 :: a10 :: a11 :: a12 :: a13 :: a14 :: a15 :: a16 :: a17 :: a18 :: a19 :: a20 :: a21 :: a22 :: a23 :: a24 :: a25 :: a26 :: a27 :: a28 :: some v :: r) h (fun y h1 => g v y h1 fun z h2 => R.nx ((a0 :: a1 :: a2 :: a3 :: a4 :: a5 :: a6 :: a7 :: a8 :: a9 :: a10 :: a11 :: a12 :: a13 :: a14 :: a15 :: a16 :: a17 :: a18 :: a19 :: a20 :: a21 :: a22 :: a23 :: a24 :: a25 :: a26 :: a27 :: a28 :: some v :: r).set 29 (some z)) h2) fun x h1 => R.ex x (a0 :: a1 :: a2 :: a3 :: a4 :: a5 :: a6 :: a7 :: a8 :: a9 :: a10 :: a11 :: a12 :: a13 :: a14 :: a15 :: a16 :: a17 :: a18 :: a19 :: a20 :: a21 :: a22 :: a23 :: a24 :: a25 :: a26 :: a27 :: a28 :: some v :: r) h1 := propext Iff.rfl
theorem w_aug30 {a0 a1 a2 a3 a4 a5 a6 a7 a8 a9 a10 a11 a12 a13 a14 a15 a16 a17 a18 a19 a20 a21 a22 a23 a24 a25 a26 a27 a28 a29 : Option Cv} {v : Cv} {r : CEnv} : sAug g 30 ca (a0 :: a1 :: a2 :: a3 :: a4 :: a5 :: a6 :: a7 :: a8 :: a9 :: a10 :: a11 :: a12 :: a13 :: a14 :: a15 :: a16 :: a17 :: a18 :: a19 :: a20 :: a21 :: a22 :: a23 :: a24 :: a25 :: a26 :: a27 :: a28 :: a29 :: some v :: r) h R = ca (a0 :: a1 :: a2 :: a3 :: a4 :: a5 :: a6 :: a7 :: a8 :: a9 :: a10 :: a11 :: a12 :: a13 :: a14 :: a15 :: a16 :: a17 :: a18 :: a19 :: a20 :: a21 :: a22 :: a23 :: a24 :: a25 :: a26 :: a27 :: a28 :: a29 :: some v :: r) h (fun y h1 => g v y h1 fun z h2 => R.nx ((a0 :: a1 :: a2 :: a3 :: a4 :: a5 :: a6 :: a7 :: a8 :: a9 :: a10 :: a11 :: a12 :: a13 :: a14 :: a15 :: a16 :: a17 :: a18 :: a19 :: a20 :: a21 :: a22 :: a23 :: a24 :: a25 :: a26 :: a27 :: a28 :: a29 :: some v :: r).set 30 (some z)) h2) fun x h1 => R.ex x (a0 :: a1 :: a2 :: a3 :: a4 :: a5 :: a6 :: a7 :: a8 :: a9 :: a10 :: a11 :: a12 :: a13 :: a14 :: a15 :: a16 :: a17 :: a18 :: a19 :: a20 :: a21 :: a22 :: a23 :: a24 :: a25 :: a26 :: a27 :: a28 :: a29 :: some v :: r) h1 := propext Iff.rfl
theorem w_aug31 {a0 a1 a2 a3 a4 a5 a6 a7 a8 a9 a10 a11 a12 a13 a14 a15 a16 a17 a18 a19 a20 a21 a22 a23 a24 a25 a26 a27 a28 a29 a30 : Option Cv} {v : Cv} {r : CEnv} : sAug g 31 ca (a0 :: a1 :: a2 :: a3 :: a4 :: a5 :: a6 :: a7 :: a8 :: a9 :: a10 :: a11 :: a12 :: a13 :: a14 :: a15 :: a16 :: a17 :: a18 :: a19 :: a20 :: a21 :: a22 :: a23 :: a24 :: a25 :: a26 :: a27 :: a28 :: a29 :: a30 :: some v :: r) h R = ca (a0 :: a1 :: a2 :: a3 :: a4 :: a5 :: a6 :: a7 :: a8 :: a9 :: a10 :: a11 :: a12 :: a13 :: a14 :: a15 :: a16 :: a17 :: a18 :: a19 :: a20 :: a21 :: a22 :: a23 :: a24 :: a25 :: a26 :: a27 :: a28 :: a29 :: a30 :: some v :: r) h (fun y h1 => g v y h1 fun z h2 => R.nx ((a0 :: a1 :: a2 :: a3 :: a4 :: a5 :: a6 :: a7 :: a8 :: a9 :: a10 :: a11 :: a12 :: a13 :: a14 :: a15 :: a16 :: a17 :: a18 :: a19 :: a20 :: a21 :: a22 :: a23 :: a24 :: a25 :: a26 :: a27 :: a28 :: a29 :: a30 :: some v :: r).set 31 (some z)) h2) fun x h1 => R.ex x (a0 :: a1 :: a2 :: a3 :: a4 :: a5 :: a6 :: a7 :: a8 :: a9 :: a10 :: a11 :: a12 :: a13 :: a14 :: a15 :: a16 :: a17 :: a18 :: a19 :: a20 :: a21 :: a22 :: a23 :: a24 :: a25 :: a26 :: a27 :: a28 :: a29 :: a30 :: some v :: r) h1 := propext Iff.rfl
variable (ci : CI)
theorem w_for : sFor ci tg c env h R = ci env h (fun xs G h1 => cLoop tg c G xs env h1 R) fun x h1 => R.ex x env h1 := propext Iff.rfl
theorem w_it (k : List Cv → (CH → Prop) → CH → Prop) : cIt ca env h k e = ca env h (fun x h1 => cWalk x h1 fun xs G => k xs G h1) e := propext Iff.rfl
theorem w_walk_tup (xs : List Cv) (k : List Cv → (CH → Prop) → Prop) : cWalk (.tup xs) h k = k xs fun _ => True := propext Iff.rfl
theorem w_walk_lv (xs : List Cv) (k : List Cv → (CH → Prop) → Prop) : cWalk (.lv xs) h k = k xs fun _ => True := propext Iff.rfl
theorem w_walk_fz (xs : List Cv) (k : List Cv → (CH → Prop) → Prop) : cWalk (.fz xs) h k = k xs fun _ => True := propext Iff.rfl
theorem w_walk_str (s : Str) (k : List Cv → (CH → Prop) → Prop) : cWalk (.str s) h k = k (signs s) fun _ => True := propext Iff.rfl
def kWk (p : Addr) (o : Option Cob) (k : List Cv → (CH → Prop) → Prop) : Prop := match o with | some (.lst xs) => k xs (fun g => g p = some (.lst xs)) | some (.lck tg kvs) => k (kvs.map fun kv => kyC kv.1) (fun g => g p = some (.lck tg kvs)) | _ => False
theorem kWk_l (p : Addr) (xs : List Cv) (k : List Cv → (CH → Prop) → Prop) : kWk p (some (.lst xs)) k = k xs (fun g => g p = some (.lst xs)) := propext Iff.rfl
theorem kWk_k (p : Addr) (tg : Obj × List (Key × V)) (kvs : List (Key × Cv)) (k : List Cv → (CH → Prop) → Prop) : kWk p (some (.lck tg kvs)) k = k (kvs.map fun kv => kyC kv.1) (fun g => g p = some (.lck tg kvs)) := propext Iff.rfl
theorem w_walk_ref (p : Addr) (k : List Cv → (CH → Prop) → Prop) : cWalk (.ref p) h k = kWk p (h p) k := propext Iff.rfl
def kI1 (xs : List Cv) (k : Int → Prop) : Prop := match xs with | [.int j] => k j | _ => False
def kI2 (xs : List Cv) (k : Int → Int → Prop) : Prop := match xs with | [.int i, .int j] => k i j | _ => False
def kI3 (xs : List Cv) (k : Int → Int → Int → Prop) : Prop := match xs with | [.int i, .int j, .int l] => k i j l | _ => False
theorem kI1_i (i : Int) (k : Int → Prop) : kI1 [.int i] k = k i := propext Iff.rfl
theorem kI2_i (i j : Int) (k : Int → Int → Prop) : kI2 [.int i, .int j] k = k i j := propext Iff.rfl
theorem kI3_i (i j l : Int) (k : Int → Int → Int → Prop) : kI3 [.int i, .int j, .int l] k = k i j l := propext Iff.rfl
theorem w_rng1 (k : List Cv → (CH → Prop) → CH → Prop) : cRng1 cs env h k e = cs env h (fun xs h1 => kI1 xs fun j => inB j ∧ k (intsR 0 j.toNat) (fun _ => True) h1) e := propext Iff.rfl
theorem w_rng2 (k : List Cv → (CH → Prop) → CH → Prop) : cRng2 cs env h k e = cs env h (fun xs h1 => kI2 xs fun i j => inB i ∧ inB j ∧ k (intsR i (j - i).toNat) (fun _ => True) h1) e := propext Iff.rfl
theorem w_rng3 (k : List Cv → (CH → Prop) → CH → Prop) : cRng3 cs env h k e = cs env h (fun xs h1 => kI3 xs fun i j c => ∃ n, RgC i j c n ∧ k (intsC i c n) (fun _ => True) h1) e := propext Iff.rfl
theorem w_enum_l (ys : List Cv) (k : List Cv → (CH → Prop) → CH → Prop) (hc : cs env h = fun q e => q [.lv ys] h) : cEnum cs env h k e = k (numbered 0 ys) (fun _ => True) h := by unfold cEnum; rw [hc]
theorem w_lc (vs : List Nat) : cLc vs ci tg t ca env h q e = ci env h (fun xs G h1 => xs.length ≤ 1000000 ∧ cLcGo tg t ca G (cwipe env vs) xs [] h1 fun ys h2 => q (.lv ys) h2) e := propext Iff.rfl
theorem w_lcl (vs : List Nat) : cLcL vs ci tg t ca env h q e = ci env h (fun xs G h1 => xs.length ≤ 1000000 ∧ cLcGo tg t ca G (cwipe env vs) xs [] h1 fun ys h2 => ∀ p, h2 p = none → q (.ref p) (cup h2 p (.lst ys))) e := propext Iff.rfl
theorem w_yes : cYes env h qb e = qb true h := propext Iff.rfl
theorem w_fld (c0 : String) (f : Str) : cFld c0 f ca env h q e = ca env h (fun x h1 => cObj x h1 fun c fs => c = c0 ∧ kSm (fs.lookup f) fun y => q y h1) e := by
  unfold cFld; congr; funext x h1; congr; funext c fs; cases hh : fs.lookup f <;> simp [kSm, hh]
theorem w_obj_ref (a : Addr) (k : String → List (Str × Cv) → Prop) : cObj (.ref a) h k = kOb (h a) k := by cases hh : h a with | none => simp [cObj, kOb, asQ, asF, asL, hh] | some o => cases o <;> simp [cObj, kOb, asQ, asF, asL, hh]
theorem w_obj_ov (c : String) (fs : List (Str × Cv)) (k : String → List (Str × Cv) → Prop) : cObj (.ov c fs) h k = k c fs := propext Iff.rfl
theorem w_methd (c0 : String) (mn : Str) (n : Nat) (m : CD) : cMethD c0 mn n m ca cs env h q e = ca env h (fun x h1 => cObj x h1 fun c fs => c = c0 ∧ fs.lookup mn = none ∧ cs env h1 (fun xs h2 => xs.length + 1 = n ∧ m (x :: xs) h2 q e) e) e := propext Iff.rfl
theorem w_maked (c0 : String) (n : Nat) (m : CD) : cMakeD c0 n m cs env h q e = cs env h (fun xs h1 => xs.length + 1 = n ∧ ∀ a, h1 a = none → m (.ref a :: xs) (cup h1 a (.ins c0 [])) (fun v h2 => v = .non ∧ q (.ref a) h2) e) e := propext Iff.rfl
theorem w_makev (c0 : String) (n : Nat) (m : CD) : cMakeV c0 n m cs env h q e = cs env h (fun xs h1 => xs.length + 1 = n ∧ ∀ a, h1 a = none → m (.ref a :: xs) (cup h1 a (.ins c0 [])) (fun v h2 => v = .non ∧ kOb (h2 a) fun c fs => q (.ov c fs) (cdel h2 a)) e) e := by
  unfold cMakeV; congr
theorem w_fldc (c0 : String) (f : Str) : sFldC c0 f ca cb env h R = cb env h (fun y h1 => ca env h1 (fun x h2 => kRf x fun a => kOb (h2 a) fun c fs => c = c0 ∧ fs.length < 1000 ∧ R.nx env (cup h2 a (.ins c (cput f y fs)))) fun x h => R.ex x env h) fun x h => R.ex x env h := by
  unfold sFldC; congr

theorem w_raise (c0 : String) : sRaise c0 env h R = R.ex (c0, []) env h := propext Iff.rfl
def kEx (ks : List (String × Bool)) (n : String) (a b : Prop) : Prop := match ks.lookup n with | some true => a | some false => b | none => False
theorem w_try (ks : List (String × Bool)) : sTry ks c d env h R = c env h { R with ex := fun x env1 h1 => kEx ks x.1 (d env1 h1 { R with ex := fun _ _ _ => False }) (R.ex x env1 h1) } := propext Iff.rfl
theorem kEx_t (n : String) (ks : List (String × Bool)) (a b : Prop) : kEx ((n, true) :: ks) n a b = a := by unfold kEx; simp [List.lookup_cons]
theorem kEx_f (n : String) (ks : List (String × Bool)) (a b : Prop) : kEx ((n, false) :: ks) n a b = b := by unfold kEx; simp [List.lookup_cons]
theorem kEx_n (n m : String) (v : Bool) (ks : List (String × Bool)) (a b : Prop) (z : (n == m) = false) : kEx ((m, v) :: ks) n a b = kEx ks n a b := by unfold kEx; rw [List.lookup_cons, z]
theorem kDc_s (kvs : List (Key × Cv)) (k : List (Key × Cv) → Prop) : kDc (some (.dct kvs)) k = k kvs := propext Iff.rfl
theorem kDr_s (kvs : List (Key × Cv)) (k : List (Key × Cv) → Prop) : kDr (some (.dct kvs)) k = k kvs := propext Iff.rfl
theorem kDr_l (tg : Obj × List (Key × V)) (kvs : List (Key × Cv)) (k : List (Key × Cv) → Prop) : kDr (some (.lck tg kvs)) k = k kvs := propext Iff.rfl
theorem w_dget1 : cDGet1 ca cb env h q e = ca env h (fun x h1 => kRf x fun a => kDr (h1 a) (fun _ => True) ∧ cb env h1 (fun y h2 => kDr (h2 a) fun kvs => kKy y fun k => q ((dval kvs k).getD .non) h2) e) e := propext Iff.rfl
theorem w_dget2 : cDGet2 ca cb cc env h q e = ca env h (fun x h1 => kRf x fun a => kDr (h1 a) (fun _ => True) ∧ cb env h1 (fun y h2 => cc env h2 (fun z h3 => kDr (h3 a) fun kvs => kKy y fun k => q ((dval kvs k).getD z) h3) e) e) e := propext Iff.rfl
theorem w_dpop : cDPop ca cb env h q e = ca env h (fun x h1 => kRf x fun a => kDc (h1 a) (fun _ => True) ∧ cb env h1 (fun y h2 => kDc (h2 a) fun kvs => kKy y fun k => ∃ v, dval kvs k = some v ∧ q v (cup h2 a (.dct (ddrop kvs k)))) e) e := propext Iff.rfl
theorem w_din (y : Cv) (a : Addr) : gDIn y (.ref a) h q = kDr (h a) fun kvs => kKy y fun k => q (.bl (dval kvs k).isSome) h := propext Iff.rfl
theorem w_dnotin (y : Cv) (a : Addr) : gDNotIn y (.ref a) h q = kDr (h a) fun kvs => kKy y fun k => q (.bl (!(dval kvs k).isSome)) h := propext Iff.rfl
theorem w_dict_ref (a : Addr) : gDict [.ref a] h q = kDr (h a) fun kvs => ∀ p, h p = none → q (.ref p) (cup h p (.dct kvs)) := propext Iff.rfl
theorem w_dict_tup (xs : List Cv) : gDict [.tup xs] h q = kSm (kvsC xs) fun kvs => ∀ p, h p = none → q (.ref p) (cup h p (.dct (dmerge [] kvs))) := by
  cases e : kvsC xs <;> simp [gDict, asQ, kSm, e]
theorem w_listd (a : Addr) : gListD [.ref a] h q = kDr (h a) fun kvs => q (.lv (kvs.map fun kv => kyC kv.1)) h := propext Iff.rfl
theorem w_sortedd (a : Addr) : gSortedD [.ref a] h q = kDr (h a) fun kvs => (∃ ks : List Str, kvs.map (·.1) = ks.map Sum.inr ∧ ks.length < 64 ∧ ∀ ys : List Str, ys.Perm ks → PyProof.Rows.sortedS ys = true → q (.lv (ys.map .str)) h) ∨
      (∃ ks : List Int, kvs.map (·.1) = ks.map Sum.inl ∧ ks.length < 64 ∧ ∀ ys : List Int, ys.Perm ks → ys.Pairwise (· ≤ ·) → q (.lv (ys.map .int)) h) := propext Iff.rfl
theorem w_slock : sLock ca c env h R = ca env h (fun x h1 => kRf x fun d => kDc (h1 d) fun kvs => ∀ tg, c env (cup h1 d (.lck tg kvs))
  ⟨fun env2 h2 => h2 d = some (.lck tg kvs) ∧ R.nx env2 (cup h2 d (.dct kvs)), fun v h2 => h2 d = some (.lck tg kvs) ∧ R.rt v (cup h2 d (.dct kvs)), fun env2 h2 => h2 d = some (.lck tg kvs) ∧ R.bk env2 (cup h2 d (.dct kvs)), fun env2 h2 => h2 d = some (.lck tg kvs) ∧ R.ct env2 (cup h2 d (.dct kvs)), R.ex⟩) (fun _ _ => False) := propext Iff.rfl
theorem w_clock : cLock ca cb env h q e = ca env h (fun x h1 => kRf x fun d => kDc (h1 d) fun kvs => ∀ tg, cb env (cup h1 d (.lck tg kvs)) (fun v h2 => h2 d = some (.lck tg kvs) ∧ q v (cup h2 d (.dct kvs))) e) (fun _ _ => False) := propext Iff.rfl
theorem w_maxl_lv (xs : List Cv) : gMaxL [.lv xs] h q = ∃ ns : List Int, xs = ns.map .int ∧ ns ≠ [] ∧ ∀ m, m ∈ ns → (∀ y, y ∈ ns → y ≤ m) → q (.int m) h := by
  show (∃ ns : List Int, asF (.lv xs) h = some (ns.map .int) ∧ _) = _
  simp [asF, asL]
theorem w_pop0 (a : Addr) : gPop0 (.ref a) [] h q = kLs (h a) fun ys => kSm ys[ys.length - 1]? fun y => q y (cup h a (.lst ys.dropLast)) := by
  cases hh : h a with
  | none => simp [gPop0, kLs, hh]
  | some o => cases o with
    | lst xs => unfold gPop0 kLs kSm; simp only [hh]; cases xs[xs.length - 1]? <;> rfl
    | _ => simp [gPop0, kLs, hh]
theorem w_clear (a : Addr) : gClear (.ref a) [] h q = kLs (h a) fun ys => q .non (cup h a (.lst [])) := by
  cases hh : h a with
  | none => simp [gClear, kLs, hh]
  | some o => cases o <;> simp [gClear, kLs, hh]
theorem w_split (a b : Str) : gSplit (.str a) [.str b] h q = ((b.length == 0) = false ∧ a.length ≤ 1000000 ∧ q (.lv ((Txt.split a b).map .str)) h) := propext Iff.rfl
theorem w_starts (a b : Str) : gStarts (.str a) [.str b] h q = q (.bl (Txt.startswith a b)) h := propext Iff.rfl
theorem w_isit (Ts : List String) : cIsiT Ts ca env h q e = ca env h (fun x h1 => gIsiT Ts x h1 q) e := propext Iff.rfl
theorem w_iso (ks : List ((Bool × String) × Bool)) : cIsO ks ca env h q e = ca env h (fun x h1 => gIsO ks x h1 q) e := propext Iff.rfl
theorem kKy_s (x : Str) (k : Key → Prop) : kKy (.str x) k = k (.inr x) := propext Iff.rfl
theorem kKy_i (x : Int) (k : Key → Prop) : kKy (.int x) k = k (.inl x) := propext Iff.rfl
theorem w_dnew : cDNew env h q e = ∀ p, h p = none → q (.ref p) (cup h p (.dct [])) := propext Iff.rfl
theorem w_dget (a : Addr) (y : Cv) : gDGet (.ref a) y h q = kDr (h a) fun kvs => kKy y fun k => ∃ v, dval kvs k = some v ∧ q v h := propext Iff.rfl
theorem w_dput : sDPutC ca cb cc env h R = cc env h (fun v h1 => ca env h1 (fun x h2 => cb env h2 (fun y h3 => kRf x fun a => kDc (h3 a) fun kvs => kKy y fun k => kvs.length < 1000000 ∧ R.nx env (cup h3 a (.dct (dput kvs k v)))) fun x h => R.ex x env h) fun x h => R.ex x env h) fun x h => R.ex x env h := propext Iff.rfl
theorem w_up : cUp ca env h q e = ca env h (fun x h1 => kTx x fun a => a.length ≤ 1000000 ∧ q (.str (Txt.upper a)) h1) e := propext Iff.rfl
theorem kTx_s (a : Str) (k : Str → Prop) : kTx (.str a) k = k a := propext Iff.rfl
theorem w_tryas (ks : List (String × Bool)) (i : Nat) : sTryAs ks i c d env h R = c env h { R with ex := fun x env1 h1 => kEx ks x.1 (x.2 = [] ∧ ∀ a, h1 a = none → d (env1.set i (some (.ref a))) (cup h1 a (.exc x.1)) { nx := fun e g => R.nx (e.set i none) g, rt := R.rt, bk := fun e g => R.bk (e.set i none) g, ct := fun e g => R.ct (e.set i none) g, ex := fun _ _ _ => False }) (R.ex x env1 h1) } := propext Iff.rfl
def kIs (ms : List (String × Bool)) (n : String) (k : Bool → Prop) : Prop := match ms.lookup n with | some b => k b | none => False
def kXc (o : Option Cob) (k : String → Prop) : Prop := match o with | some (.exc c) => k c | _ => False
theorem kXc_s (c : String) (k : String → Prop) : kXc (some (.exc c)) k = k c := propext Iff.rfl
theorem kIs_hd (n : String) (b : Bool) (ms : List (String × Bool)) (k : Bool → Prop) : kIs ((n, b) :: ms) n k = k b := by unfold kIs; simp [List.lookup_cons]
theorem kIs_tl (n m : String) (b : Bool) (ms : List (String × Bool)) (k : Bool → Prop) (z : (n == m) = false) : kIs ((m, b) :: ms) n k = kIs ms n k := by unfold kIs; rw [List.lookup_cons, z]
theorem w_isx (ms : List (String × Bool)) : cIsX ms ca env h q e = ca env h (fun x h1 => gIsX ms x h1 q) e := propext Iff.rfl
theorem w_isx_r (ms : List (String × Bool)) (a : Addr) : gIsX ms (.ref a) h q = kXc (h a) fun c => kIs ms c fun b => q (.bl b) h := by
  cases hh : h a with
  | none => simp [gIsX, kXc, hh]
  | some o => cases o with
    | exc c => unfold gIsX kXc kIs; simp only [hh]; try (cases List.lookup c ms <;> rfl)
    | _ => simp [gIsX, kXc, hh]
theorem w_lq (f : CM) : cLQ f ca cs env h q e = ca env h (fun x h1 => isLq x ∧ cs env h1 (fun xs h2 => f x xs h2 q) e) e := propext Iff.rfl
theorem w_islq (xs : List Cv) : isLq (.lv xs) = True := propext Iff.rfl
end
end Co
end
section

end
section
namespace Lw
open PySem L2 Co
/-- _law_rest -/
def m_law_rest : CS :=
  sSeq (sIf (cTest (cOp2 gGe (cVar 0) (cOp2 gPow (cC (.int 10)) (cC (.int 18))))) (sRet (cLst (cCons (cVar 0) (cCons (cOp2 gAdd (cOp2 gMod (cVar 0) (cC (.int 2147483587))) (cC (.int 1))) (cNil))))) (sNext)) (sRet (cLst (cCons (cC (.int 0)) (cCons (cOp2 gAdd (cOp2 gMod (cVar 0) (cC (.int 2147483587))) (cC (.int 1))) (cNil)))))
abbrev d_law_rest : CD := dBody 1 m_law_rest
theorem u_law_rest (a0 : Cv) (h : CH) (q : Cv → CH → Prop) (e : XQ) : d_law_rest [a0] h q e = m_law_rest [some a0] h ⟨fun _ h1 => q .non h1, q, fun _ _ => False, fun _ _ => False, fun x _ h1 => e x h1⟩ := rfl
/-- _law_take -/
def m_law_take : CS :=
  sSeq (sIf (cTest (cOp2 gEq (cOp2 gIx (cVar 0) (cC (.int 0))) (cC (.int 0)))) (sSeq (sAsgT (cOp2 gMod (cOp2 gAdd (cOp2 gMul (cOp2 gIx (cVar 0) (cC (.int 1))) (cC (.int 48271))) (cC (.int 7919))) (cC (.int 2147483629))) (gSb gSetL (cVar 0) (cC (.int 1)))) (sSeq (sAsgT (cOp2 gMod (cOp2 gAdd (cOp2 gMul (cOp2 gIx (cVar 0) (cC (.int 1))) (cC (.int 69621))) (cC (.int 101))) (cC (.int 2147483587))) (gSb gSetL (cVar 0) (cC (.int 1)))) (sRet (cOp2 gMod (cOp2 gFdiv (cOp2 gIx (cVar 0) (cC (.int 1))) (cC (.int 7))) (cVar 1))))) (sNext)) (sSeq (sAsg (cOp2 gMod (cOp2 gIx (cVar 0) (cC (.int 0))) (cVar 1)) (gNm 2)) (sSeq (sAsgT (cOp2 gFdiv (cOp2 gIx (cVar 0) (cC (.int 0))) (cVar 1)) (gSb gSetL (cVar 0) (cC (.int 0)))) (sRet (cVar 2))))
abbrev d_law_take : CD := dBody 3 m_law_take
theorem u_law_take (a0 a1 : Cv) (h : CH) (q : Cv → CH → Prop) (e : XQ) : d_law_take [a0, a1] h q e = m_law_take [some a0, some a1, none] h ⟨fun _ h1 => q .non h1, q, fun _ _ => False, fun _ _ => False, fun x _ h1 => e x h1⟩ := rfl
/-- _law_names -/
def m_law_names : CS :=
  sSeq (sAsg (cC (.str (PySem.Str.ofString "abcdefghijklmnopqrstuvwxyz"))) (gNm 6)) (sSeq (sAsg (cCallD 2 d_law_take (cCons (cVar 0) (cCons (cC (.int 3)) (cNil)))) (gNm 5)) (sSeq (sAsg (cTM gJoin (cC (.str (PySem.Str.ofString ""))) (cLc [4] (cRng1 (cCons (cC (.int 8)) (cNil))) (gNm 4) (cYes) (cOp2 gIx (cVar 6) (cCallD 2 d_law_take (cCons (cVar 0) (cCons (cC (.int 26)) (cNil))))))) (gNm 3)) (sSeq (sAsg (cOp2 gAdd (cC (.int 1)) (cCallD 2 d_law_take (cCons (cVar 0) (cCons (cC (.int 8)) (cNil))))) (gNm 7)) (sSeq (sAsg (cCallD 2 d_law_take (cCons (cVar 0) (cCons (cVar 7) (cNil)))) (gNm 2)) (sSeq (sAsg (cLst (cNil)) (gNm 9)) (sSeq (sFor (cRng1 (cCons (cVar 1) (cNil))) (gNm 4) (sSeq (sAsg (cOp2 gAdd (cOp2 gAdd (cSl gSlice (cVar 3) cNoPart (cPart (cVar 2))) (cOp2 gIx (cVar 6) (cCallD 2 d_law_take (cCons (cVar 0) (cCons (cC (.int 26)) (cNil)))))) (cSl gSlice (cVar 3) (cPart (cOp2 gAdd (cVar 2) (cC (.int 1)))) (cPart (cVar 7)))) (gNm 8)) (sSeq (sIf (cTest (cOp2 gEq (cVar 5) (cC (.int 0)))) (sSeq (sAsg (cOp2 gAdd (cC (.int 1)) (cCallD 2 d_law_take (cCons (cVar 0) (cCons (cC (.int 8)) (cNil))))) (gNm 10)) (sAsg (cTM gJoin (cC (.str (PySem.Str.ofString ""))) (cLc [12] (cRng1 (cCons (cVar 10) (cNil))) (gNm 12) (cYes) (cOp2 gIx (cVar 6) (cCallD 2 d_law_take (cCons (cVar 0) (cCons (cC (.int 26)) (cNil))))))) (gNm 8))) (sNext)) (sSeq (sAsg (cOp2 gAdd (cLv (cCons (cVar 8) (cNil))) (cLc [13] (cIt (cVar 6)) (gNm 13) (cYes) (cOp2 gAdd (cSl gSlice (cVar 8) cNoPart (cPart (cOp1 gNeg (cC (.int 1))))) (cVar 13)))) (gNm 11)) (sExpr (cLM gAppend (cVar 9) (cCons (cOp2 gIx (cLc [14] (cIt (cVar 11)) (gNm 14) (cTest (cOp2 gNotIn (cVar 14) (cVar 9))) (cVar 14)) (cC (.int 0))) (cNil)))))))) (sRet (cCall gSorted (cCons (cVar 9) (cNil))))))))))
abbrev d_law_names : CD := dBody 15 m_law_names
theorem u_law_names (a0 a1 : Cv) (h : CH) (q : Cv → CH → Prop) (e : XQ) : d_law_names [a0, a1] h q e = m_law_names [some a0, some a1, none, none, none, none, none, none, none, none, none, none, none, none, none] h ⟨fun _ h1 => q .non h1, q, fun _ _ => False, fun _ _ => False, fun x _ h1 => e x h1⟩ := rfl
/-- _law_some -/
def m_law_some : CS :=
  sSeq (sAsg (cOp2 gAdd (cVar 2) (cCallD 2 d_law_take (cCons (cVar 0) (cCons (cOp2 gAdd (cOp2 gSub (cCall gMin2 (cCons (cVar 3) (cCons (cCall gLen (cCons (cVar 1) (cNil))) (cNil)))) (cVar 2)) (cC (.int 1))) (cNil))))) (gNm 7)) (sSeq (sAsg (cCall gListL (cCons (cVar 1) (cNil))) (gNm 6)) (sSeq (sAsg (cLst (cNil)) (gNm 4)) (sSeq (sFor (cRng1 (cCons (cVar 7) (cNil))) (gNm 5) (sExpr (cLM gAppend (cVar 4) (cCons (cLM gPop (cVar 6) (cCons (cCallD 2 d_law_take (cCons (cVar 0) (cCons (cCall gLen (cCons (cVar 6) (cNil))) (cNil)))) (cNil))) (cNil))))) (sRet (cCall gTuple (cCons (cCall gSorted (cCons (cVar 4) (cNil))) (cNil)))))))
abbrev d_law_some : CD := dBody 8 m_law_some
theorem u_law_some (a0 a1 a2 a3 : Cv) (h : CH) (q : Cv → CH → Prop) (e : XQ) : d_law_some [a0, a1, a2, a3] h q e = m_law_some [some a0, some a1, some a2, some a3, none, none, none, none] h ⟨fun _ h1 => q .non h1, q, fun _ _ => False, fun _ _ => False, fun x _ h1 => e x h1⟩ := rfl
/-- _law_bench -/
def m_law_bench : CS :=
  sSeq (sAsg (cCallD 4 d_law_some (cCons (cVar 0) (cCons (cVar 1) (cCons (cC (.int 1)) (cCons (cC (.int 7)) (cNil)))))) (gNm 4)) (sSeq (sAsg (cTup (cNil)) (gNm 2)) (sSeq (sIf (cTest (cOp2 gEq (cCallD 2 d_law_take (cCons (cVar 0) (cCons (cC (.int 2)) (cNil)))) (cC (.int 1)))) (sAsg (cCallD 4 d_law_some (cCons (cVar 0) (cCons (cVar 1) (cCons (cC (.int 1)) (cCons (cC (.int 7)) (cNil)))))) (gNm 2)) (sNext)) (sSeq (sAsg (cLc [5] (cIt (cVar 1)) (gNm 5) (cTest (cOp2 gNotIn (cVar 5) (cOrV (cVar 2) (cVar 4)))) (cVar 5)) (gNm 3)) (sRet (cTup (cCons (cVar 4) (cCons (cVar 2) (cCons (cCallD 4 d_law_some (cCons (cVar 0) (cCons (cVar 3) (cCons (cC (.int 0)) (cCons (cC (.int 4)) (cNil)))))) (cNil)))))))))
abbrev d_law_bench : CD := dBody 6 m_law_bench
theorem u_law_bench (a0 a1 : Cv) (h : CH) (q : Cv → CH → Prop) (e : XQ) : d_law_bench [a0, a1] h q e = m_law_bench [some a0, some a1, none, none, none, none] h ⟨fun _ h1 => q .non h1, q, fun _ _ => False, fun _ _ => False, fun x _ h1 => e x h1⟩ := rfl
/-- are_most -/
def m_are_most : CS :=
  sRet (cOp2 gGt (cOp2 gMul (cC (.int 2)) (cCall gLen (cCons (cLc [2] (cIt (cVar 0)) (gNm 2) (cTest (cOp2 gIn (cVar 2) (cVar 1))) (cVar 2)) (cNil)))) (cCall gLen (cCons (cVar 0) (cNil))))
abbrev d_are_most : CD := dBody 3 m_are_most
theorem u_are_most (a0 a1 : Cv) (h : CH) (q : Cv → CH → Prop) (e : XQ) : d_are_most [a0, a1] h q e = m_are_most [some a0, some a1, none] h ⟨fun _ h1 => q .non h1, q, fun _ _ => False, fun _ _ => False, fun x _ h1 => e x h1⟩ := rfl
/-- is_joined -/
def m_is_joined : CS :=
  sRet (cOp2 gNe (cOp2 gIx (cVar 0) (cC (.int 1))) (cTup (cNil)))
abbrev d_is_joined : CD := dBody 1 m_is_joined
theorem u_is_joined (a0 : Cv) (h : CH) (q : Cv → CH → Prop) (e : XQ) : d_is_joined [a0] h q e = m_is_joined [some a0] h ⟨fun _ h1 => q .non h1, q, fun _ _ => False, fun _ _ => False, fun x _ h1 => e x h1⟩ := rfl
/-- is_half -/
def m_is_half : CS :=
  sSeq (sIf (cNot (cTt (cCallD 2 d_are_most (cCons (cOp2 gIx (cVar 0) (cC (.int 0))) (cCons (cVar 1) (cNil)))))) (sRet (cC (.bl false))) (sNext)) (sRet (cOrV (cNotV (cCallD 1 d_is_joined (cCons (cVar 0) (cNil)))) (cCallD 2 d_are_most (cCons (cOp2 gIx (cVar 0) (cC (.int 1))) (cCons (cVar 1) (cNil))))))
abbrev d_is_half : CD := dBody 2 m_is_half
theorem u_is_half (a0 a1 : Cv) (h : CH) (q : Cv → CH → Prop) (e : XQ) : d_is_half [a0, a1] h q e = m_is_half [some a0, some a1] h ⟨fun _ h1 => q .non h1, q, fun _ _ => False, fun _ _ => False, fun x _ h1 => e x h1⟩ := rfl
/-- _law_due -/
def m_law_due : CS :=
  sSeq (sFor (cIt (cSl gSlice (cVar 0) cNoPart (cPart (cC (.int 2))))) (gNm 4) (sSeq (sAsg (cC (.int 0)) (gNm 2)) (sSeq (sFor (cIt (cVar 4)) (gNm 3) (sAsg (cOp2 gAdd (cVar 2) (cOp2 gIx (cLv (cCons (cOp2 gSub (cC (.int 0)) (cC (.int 1))) (cCons (cC (.int 1)) (cNil)))) (cCall gInt (cCons (cOp2 gIn (cVar 3) (cVar 1)) (cNil))))) (gNm 2))) (sIf (cAnd (cTest (cOp2 gNe (cVar 4) (cTup (cNil)))) (cTest (cOp2 gLe (cVar 2) (cC (.int 0))))) (sRet (cC (.bl false))) (sNext))))) (sRet (cC (.bl true)))
abbrev d_law_due : CD := dBody 5 m_law_due
theorem u_law_due (a0 a1 : Cv) (h : CH) (q : Cv → CH → Prop) (e : XQ) : d_law_due [a0, a1] h q e = m_law_due [some a0, some a1, none, none, none] h ⟨fun _ h1 => q .non h1, q, fun _ _ => False, fun _ _ => False, fun x _ h1 => e x h1⟩ := rfl
/-- law -/
def m_law_k12 : CS :=
  sSeq (sFor (cIt (cOp2 gAdd (cSl gSlice (cVar 0) cNoPart (cPart (cC (.int 60)))) (cLv (cCons (cC (.int 0)) (cNil))))) (gNm 2) (sSeq (sAsg (cCallD 1 d_law_rest (cCons (cVar 2) (cNil))) (gNm 9)) (sSeq (sAsg (cCallD 2 d_law_names (cCons (cVar 9) (cCons (cOp2 gAdd (cC (.int 10)) (cCallD 2 d_law_take (cCons (cVar 9) (cCons (cC (.int 8)) (cNil))))) (cNil)))) (gNm 8)) (sSeq (sAsg (cSl gSlice (cVar 8) (cPart (cC (.int 2))) cNoPart) (gNm 7)) (sSeq (sAsg (cCallD 2 d_law_bench (cCons (cVar 9) (cCons (cVar 7) (cNil)))) (gNm 1)) (sSeq (sAsg (cCall gListL (cCons (cVar 8) (cNil))) (gNm 5)) (sSeq (sAsg (cTup (cNil)) (gNm 10)) (sSeq (sFor (cRng1 (cCons (cCallD 2 d_law_take (cCons (cVar 9) (cCons (cOp2 gAdd (cCall gLen (cCons (cVar 7) (cNil))) (cC (.int 1))) (cNil)))) (cNil))) (gNm 4) (sAsg (cOp2 gAdd (cVar 10) (cTup (cCons (cLM gPop (cVar 5) (cCons (cCallD 2 d_law_take (cCons (cVar 9) (cCons (cCall gLen (cCons (cVar 5) (cNil))) (cNil)))) (cNil))) (cNil)))) (gNm 10))) (sSeq (sAsg (cCallD 2 d_is_half (cCons (cVar 1) (cCons (cVar 10) (cNil)))) (gNm 3)) (sSeq (sIf (cOr (cNot (cTt (cIsi "bool" (cVar 3)))) (cOr (cTest (cOp2 gNe (cVar 3) (cCallD 2 d_law_due (cCons (cVar 1) (cCons (cVar 10) (cNil)))))) (cTest (cOp2 gNe (cCallD 2 d_is_half (cCons (cVar 1) (cCons (cOp1 gRev (cVar 10)) (cNil)))) (cVar 3))))) (sRet (cC (.bl false))) (sNext)) (sSeq (sIf (cTest (cOp2 gNe (cCallD 2 d_is_half (cCons (cVar 1) (cCons (cOp2 gAdd (cVar 10) (cSl gSlice (cVar 10) cNoPart (cPart (cOp2 gAdd (cC (.int 1)) (cCallD 2 d_law_take (cCons (cVar 9) (cCons (cC (.int 2)) (cNil)))))))) (cNil)))) (cVar 3))) (sRet (cC (.bl false))) (sNext)) (sSeq (sAsg (cOp2 gAdd (cVar 10) (cTup (cCons (cOp2 gIx (cVar 5) (cCallD 2 d_law_take (cCons (cVar 9) (cCons (cCall gLen (cCons (cVar 5) (cNil))) (cNil))))) (cNil)))) (gNm 6)) (sIf (cOr (cAnd (cTt (cVar 3)) (cNot (cTt (cCallD 2 d_is_half (cCons (cVar 1) (cCons (cVar 6) (cNil))))))) (cOr (cTt (cCallD 2 d_is_half (cCons (cVar 1) (cCons (cTup (cNil)) (cNil))))) (cNot (cTt (cCallD 2 d_is_half (cCons (cVar 1) (cCons (cCall gTuple (cCons (cVar 7) (cNil))) (cNil)))))))) (sRet (cC (.bl false))) (sNext)))))))))))))) (sRet (cC (.bl true)))
abbrev d_law_k12 : CD := dBody 11 m_law_k12
theorem u_law_k12 (a0 : Cv) (h : CH) (q : Cv → CH → Prop) (e : XQ) : d_law_k12 [a0] h q e = m_law_k12 [some a0, none, none, none, none, none, none, none, none, none, none] h ⟨fun _ h1 => q .non h1, q, fun _ _ => False, fun _ _ => False, fun x _ h1 => e x h1⟩ := rfl
end Lw
end
section
namespace Lw
open PySem L2 Co
/-- _law_cell_at -/
def m_law_cell_at : CS :=
  sSeq (sIf (cTest (cOp2 gLt (cVar 1) (cCall gLen (cCons (cVar 0) (cNil))))) (sRet (cOp2 gIx (cVar 0) (cVar 1))) (sNext)) (sRet (cC (.int 0)))
abbrev d_law_cell_at : CD := dBody 2 m_law_cell_at
theorem u_law_cell_at (a0 a1 : Cv) (h : CH) (q : Cv → CH → Prop) (e : XQ) : d_law_cell_at [a0, a1] h q e = m_law_cell_at [some a0, some a1] h ⟨fun _ h1 => q .non h1, q, fun _ _ => False, fun _ _ => False, fun x _ h1 => e x h1⟩ := rfl
/-- _law_other -/
def m_law_other : CS :=
  sRet (cOp2 gMod (cOp2 gAdd (cOp2 gAdd (cOp2 gMul (cVar 0) (cVar 0)) (cOp2 gMul (cC (.int 69621)) (cVar 0))) (cC (.int 5))) (cC (.int 2147483629)))
abbrev d_law_other : CD := dBody 1 m_law_other
theorem u_law_other (a0 : Cv) (h : CH) (q : Cv → CH → Prop) (e : XQ) : d_law_other [a0] h q e = m_law_other [some a0] h ⟨fun _ h1 => q .non h1, q, fun _ _ => False, fun _ _ => False, fun x _ h1 => e x h1⟩ := rfl
/-- _law_next -/
def m_law_next : CS :=
  sRet (cOp2 gMod (cOp2 gAdd (cOp2 gAdd (cOp2 gMul (cVar 0) (cVar 0)) (cOp2 gMul (cC (.int 48271)) (cVar 0))) (cC (.int 11))) (cC (.int 2147483647)))
abbrev d_law_next : CD := dBody 1 m_law_next
theorem u_law_next (a0 : Cv) (h : CH) (q : Cv → CH → Prop) (e : XQ) : d_law_next [a0] h q e = m_law_next [some a0] h ⟨fun _ h1 => q .non h1, q, fun _ _ => False, fun _ _ => False, fun x _ h1 => e x h1⟩ := rfl
/-- _law_number -/
def m_law_number : CS :=
  sSeq (sAsg (cCallD 2 d_law_cell_at (cCons (cVar 0) (cCons (cVar 1) (cNil)))) (gNm 2)) (sSeq (sIf (cTest (cOp2 gEq (cOp2 gMod (cVar 2) (cC (.int 2))) (cC (.int 0)))) (sRet (cOp2 gFdiv (cVar 2) (cC (.int 2)))) (sNext)) (sRet (cCallD 1 d_law_other (cCons (cCallD 1 d_law_next (cCons (cOp2 gMod (cOp2 gAdd (cVar 2) (cOp2 gMul (cOp2 gMul (cC (.int 69621)) (cVar 1)) (cVar 1))) (cC (.int 2147483647))) (cNil))) (cNil)))))
abbrev d_law_number : CD := dBody 3 m_law_number
theorem u_law_number (a0 a1 : Cv) (h : CH) (q : Cv → CH → Prop) (e : XQ) : d_law_number [a0, a1] h q e = m_law_number [some a0, some a1, none] h ⟨fun _ h1 => q .non h1, q, fun _ _ => False, fun _ _ => False, fun x _ h1 => e x h1⟩ := rfl
/-- _law_digits -/
def m_law_digits : CS :=
  sSeq (sAsg (cCallD 2 d_law_number (cCons (cVar 0) (cCons (cVar 1) (cNil)))) (gNm 6)) (sSeq (sAsg (cLst (cNil)) (gNm 4)) (sSeq (sAsg (cOp2 gMod (cOp2 gAdd (cVar 6) (cOp2 gMul (cC (.int 7919)) (cVar 1))) (cC (.int 2147483647))) (gNm 7)) (sSeq (sIf (cTest (cOp2 gEq (cOp2 gMod (cCallD 2 d_law_cell_at (cCons (cVar 0) (cCons (cVar 1) (cNil)))) (cC (.int 2))) (cC (.int 1)))) (sAsg (cC (.int 0)) (gNm 6)) (sNext)) (sSeq (sFor (cRng1 (cCons (cVar 3) (cNil))) (gNm 5) (sSeq (sAsg (cCallD 1 d_law_other (cCons (cCallD 1 d_law_next (cCons (cOp2 gAdd (cVar 7) (cVar 5)) (cNil))) (cNil))) (gNm 7)) (sSeq (sExpr (cLM gAppend (cVar 4) (cCons (cOp2 gMod (cOp2 gIx (cLv (cCons (cVar 7) (cCons (cVar 6) (cNil)))) (cCall gInt (cCons (cOp2 gGt (cVar 6) (cC (.int 0))) (cNil)))) (cVar 2)) (cNil)))) (sAsg (cOp2 gFdiv (cVar 6) (cVar 2)) (gNm 6))))) (sRetF (cVar 4))))))
abbrev d_law_digits : CD := dBody 8 m_law_digits
theorem u_law_digits (a0 a1 a2 a3 : Cv) (h : CH) (q : Cv → CH → Prop) (e : XQ) : d_law_digits [a0, a1, a2, a3] h q e = m_law_digits [some a0, some a1, some a2, some a3, none, none, none, none] h ⟨fun _ h1 => q .non h1, q, fun _ _ => False, fun _ _ => False, fun x _ h1 => e x h1⟩ := rfl
/-- _law_text -/
def m_law_text : CS :=
  sSeq (sAsg (cC (.str (PySem.Str.ofString " abcxyz019-/.\nstand bench held asked"))) (gNm 4)) (sSeq (sAsg (cCallD 4 d_law_digits (cCons (cVar 0) (cCons (cVar 1) (cCons (cC (.int 1080)) (cCons (cC (.int 31)) (cNil)))))) (gNm 3)) (sSeq (sAsg (cC (.str (PySem.Str.ofString ""))) (gNm 5)) (sSeq (sFor (cIt (cSl gSlice (cVar 3) (cPart (cC (.int 1))) (cPart (cOp2 gAdd (cC (.int 1)) (cOp2 gMod (cOp2 gIx (cVar 3) (cC (.int 0))) (cC (.int 31))))))) (gNm 2) (sAsg (cOp2 gAdd (cVar 5) (cOp2 gMul (cOp2 gIx (cVar 4) (cOp2 gMod (cVar 2) (cCall gLen (cCons (cVar 4) (cNil))))) (cOp2 gAdd (cC (.int 1)) (cOp2 gMod (cOp2 gFdiv (cVar 2) (cC (.int 36))) (cC (.int 8)))))) (gNm 5))) (sRet (cVar 5)))))
abbrev d_law_text : CD := dBody 6 m_law_text
theorem u_law_text (a0 a1 : Cv) (h : CH) (q : Cv → CH → Prop) (e : XQ) : d_law_text [a0, a1] h q e = m_law_text [some a0, some a1, none, none, none, none] h ⟨fun _ h1 => q .non h1, q, fun _ _ => False, fun _ _ => False, fun x _ h1 => e x h1⟩ := rfl
/-- pieces -/
def m_pieces : CS :=
  sRet (cCall gTuple (cCons (cLc [2] (cRng3 (cCons (cC (.int 0)) (cCons (cCall gLen (cCons (cVar 0) (cNil))) (cCons (cVar 1) (cNil))))) (gNm 2) (cYes) (cSl gSlice (cVar 0) (cPart (cVar 2)) (cPart (cOp2 gAdd (cVar 2) (cVar 1))))) (cNil)))
abbrev d_pieces : CD := dBody 3 m_pieces
theorem u_pieces (a0 a1 : Cv) (h : CH) (q : Cv → CH → Prop) (e : XQ) : d_pieces [a0, a1] h q e = m_pieces [some a0, some a1, none] h ⟨fun _ h1 => q .non h1, q, fun _ _ => False, fun _ _ => False, fun x _ h1 => e x h1⟩ := rfl
/-- _law_right -/
def m_law_right : CS :=
  sSeq (sAsg (cCallD 2 d_pieces (cCons (cVar 0) (cCons (cVar 1) (cNil)))) (gNm 2)) (sSeq (sIf (cOr (cNot (cTt (cIsi "tuple" (cVar 2)))) (cTest (cOp2 gNe (cLc [3] (cIt (cVar 2)) (gNm 3) (cNot (cTt (cIsi "str" (cVar 3)))) (cVar 3)) (cLv (cNil))))) (sRet (cC (.bl false))) (sNext)) (sSeq (sIf (cOr (cTest (cOp2 gNe (cTM gJoin (cC (.str (PySem.Str.ofString ""))) (cVar 2)) (cVar 0))) (cTest (cOp2 gNe (cLc [3] (cIt (cSl gSlice (cVar 2) cNoPart (cPart (cOp1 gNeg (cC (.int 1)))))) (gNm 3) (cTest (cOp2 gNe (cCall gLen (cCons (cVar 3) (cNil))) (cVar 1))) (cVar 3)) (cLv (cNil))))) (sRet (cC (.bl false))) (sNext)) (sRet (cOrV (cOp2 gEq (cVar 2) (cTup (cNil))) (cChain gLe gLe (cC (.int 1)) (cCall gLen (cCons (cOp2 gIx (cVar 2) (cOp1 gNeg (cC (.int 1)))) (cNil))) (cVar 1))))))
abbrev d_law_right : CD := dBody 4 m_law_right
theorem u_law_right (a0 a1 : Cv) (h : CH) (q : Cv → CH → Prop) (e : XQ) : d_law_right [a0, a1] h q e = m_law_right [some a0, some a1, none, none] h ⟨fun _ h1 => q .non h1, q, fun _ _ => False, fun _ _ => False, fun x _ h1 => e x h1⟩ := rfl
/-- law -/
def m_law_k26 : CS :=
  sSeq (sAsg (cCallD 2 d_law_number (cCons (cVar 0) (cCons (cC (.int 0)) (cNil)))) (gNm 1)) (sSeq (sFor (cRng2 (cCons (cC (.int 2)) (cCons (cCall gMax2 (cCons (cC (.int 3)) (cCons (cCall gMin2 (cCons (cCall gLen (cCons (cVar 0) (cNil))) (cCons (cC (.int 32)) (cNil)))) (cNil)))) (cNil)))) (gNm 2) (sSeq (sAsg (cCallD 2 d_law_text (cCons (cVar 0) (cCons (cVar 2) (cNil)))) (gNm 4)) (sFor (cIt (cLv (cCons (cOp2 gAdd (cC (.int 1)) (cOp2 gMod (cVar 1) (cC (.int 200)))) (cCons (cOp2 gAdd (cC (.int 1)) (cOp2 gMod (cOp2 gFdiv (cVar 1) (cC (.int 200))) (cC (.int 9)))) (cCons (cCall gMax2 (cCons (cC (.int 1)) (cCons (cOp2 gSub (cCall gLen (cCons (cVar 4) (cNil))) (cC (.int 1))) (cNil)))) (cCons (cOp2 gAdd (cCall gLen (cCons (cVar 4) (cNil))) (cC (.int 1))) (cCons (cCall gMax2 (cCons (cC (.int 1)) (cCons (cCall gLen (cCons (cVar 4) (cNil))) (cNil)))) (cNil)))))))) (gNm 3) (sIf (cOr (cNot (cTt (cCallD 2 d_law_right (cCons (cVar 4) (cCons (cCall gMin2 (cCons (cC (.int 200)) (cCons (cVar 3) (cNil)))) (cNil)))))) (cNot (cTt (cCallD 2 d_law_right (cCons (cVar 4) (cCons (cCall gMin2 (cCons (cC (.int 200)) (cCons (cVar 3) (cNil)))) (cNil))))))) (sRet (cC (.bl false))) (sNext))))) (sRet (cOp2 gEq (cCallD 2 d_pieces (cCons (cC (.str (PySem.Str.ofString ""))) (cCons (cOp2 gAdd (cC (.int 1)) (cOp2 gMod (cVar 1) (cC (.int 200)))) (cNil)))) (cTup (cNil)))))
abbrev d_law_k26 : CD := dBody 5 m_law_k26
theorem u_law_k26 (a0 : Cv) (h : CH) (q : Cv → CH → Prop) (e : XQ) : d_law_k26 [a0] h q e = m_law_k26 [some a0, none, none, none, none] h ⟨fun _ h1 => q .non h1, q, fun _ _ => False, fun _ _ => False, fun x _ h1 => e x h1⟩ := rfl
end Lw
end
section
namespace Lw
open PySem L2 Co
/-- _law_names -/
def m_law_names_3 : CS :=
  sSeq (sAsg (cC (.str (PySem.Str.ofString "abcdefghijklmnopqrstuvwxyz"))) (gNm 5)) (sSeq (sAsg (cCallD 4 d_law_digits (cCons (cVar 0) (cCons (cVar 1) (cCons (cC (.int 208)) (cCons (cC (.int 10)) (cNil)))))) (gNm 6)) (sSeq (sAsg (cOp2 gAdd (cC (.int 1)) (cOp2 gMod (cOp2 gIx (cVar 6) (cC (.int 0))) (cC (.int 8)))) (gNm 7)) (sSeq (sAsg (cTM gJoin (cC (.str (PySem.Str.ofString ""))) (cLc [8] (cIt (cSl gSlice (cVar 6) (cPart (cC (.int 2))) (cPart (cOp2 gAdd (cC (.int 2)) (cVar 7))))) (gNm 8) (cYes) (cOp2 gIx (cVar 5) (cOp2 gMod (cVar 8) (cC (.int 26)))))) (gNm 4)) (sSeq (sIf (cAnd (cTest (cOp2 gEq (cOp2 gMod (cOp2 gIx (cVar 6) (cC (.int 1))) (cC (.int 4))) (cC (.int 3)))) (cTest (cOp2 gLt (cVar 2) (cC (.int 9))))) (sSeq (sAsg (cTM gJoin (cC (.str (PySem.Str.ofString ""))) (cLc [8] (cIt (cSl gSlice (cVar 6) (cPart (cC (.int 2))) (cPart (cC (.int 10))))) (gNm 8) (cYes) (cOp2 gIx (cVar 5) (cOp2 gMod (cVar 8) (cC (.int 26)))))) (gNm 4)) (sRet (cLc [9] (cRng1 (cCons (cVar 2) (cNil))) (gNm 9) (cYes) (cSl gSlice (cVar 4) cNoPart (cPart (cOp2 gAdd (cVar 9) (cC (.int 1)))))))) (sNext)) (sSeq (sIf (cTest (cOp2 gEq (cOp2 gMod (cOp2 gIx (cVar 6) (cC (.int 1))) (cC (.int 4))) (cC (.int 2)))) (sRet (cLc [9] (cRng1 (cCons (cVar 2) (cNil))) (gNm 9) (cYes) (cOp2 gMul (cOp2 gIx (cVar 5) (cOp2 gMod (cOp2 gAdd (cOp2 gIx (cVar 6) (cC (.int 2))) (cOp2 gMul (cC (.int 5)) (cVar 9))) (cC (.int 26)))) (cOp2 gAdd (cC (.int 1)) (cOp2 gMod (cOp2 gAdd (cOp2 gIx (cVar 6) (cOp2 gAdd (cC (.int 3)) (cOp2 gMod (cVar 9) (cC (.int 7))))) (cVar 9)) (cC (.int 8))))))) (sNext)) (sSeq (sAsg (cOp2 gMod (cOp2 gFdiv (cOp2 gIx (cVar 6) (cC (.int 1))) (cC (.int 4))) (cVar 7)) (gNm 3)) (sRet (cLc [9] (cRng1 (cCons (cVar 2) (cNil))) (gNm 9) (cYes) (cOp2 gAdd (cOp2 gAdd (cSl gSlice (cVar 4) cNoPart (cPart (cVar 3))) (cOp2 gIx (cVar 5) (cOp2 gMod (cOp2 gAdd (cOp2 gIx (cVar 6) (cOp2 gAdd (cC (.int 2)) (cVar 3))) (cVar 9)) (cC (.int 26))))) (cSl gSlice (cVar 4) (cPart (cOp2 gAdd (cVar 3) (cC (.int 1)))) cNoPart))))))))))
abbrev d_law_names_3 : CD := dBody 10 m_law_names_3
theorem u_law_names_3 (a0 a1 a2 : Cv) (h : CH) (q : Cv → CH → Prop) (e : XQ) : d_law_names_3 [a0, a1, a2] h q e = m_law_names_3 [some a0, some a1, some a2, none, none, none, none, none, none, none] h ⟨fun _ h1 => q .non h1, q, fun _ _ => False, fun _ _ => False, fun x _ h1 => e x h1⟩ := rfl
/-- Table.__init__ -/
def m_Table___init__ : CS :=
  sSeq (sFldC "Table" "held" (cVar 0) (cCall gDict (cCons (cVar 1) (cNil)))) (sSeq (sFldC "Table" "asked" (cVar 0) (cDNew)) (sFor (cIt (cVar 2)) (gTp 3 (gsCons (gNm 4) (gsCons (gNm 5) (gsCons (gNm 3) (gsNil))))) (sDPutC (cFld "Table" "asked" (cVar 0)) (cVar 4) (cTup (cCons (cVar 5) (cCons (cVar 3) (cNil)))))))
abbrev d_Table___init__ : CD := dBody 6 m_Table___init__
theorem u_Table___init__ (a0 a1 a2 : Cv) (h : CH) (q : Cv → CH → Prop) (e : XQ) : d_Table___init__ [a0, a1, a2] h q e = m_Table___init__ [some a0, some a1, some a2, none, none, none] h ⟨fun _ h1 => q .non h1, q, fun _ _ => False, fun _ _ => False, fun x _ h1 => e x h1⟩ := rfl
/-- _law_wide -/
def m_law_wide : CS :=
  sSeq (sAsg (cOp2 gSub (cOp2 gMod (cOp2 gIx (cVar 0) (cC (.int 0))) (cC (.int 9))) (cC (.int 4))) (gNm 2)) (sSeq (sIf (cTest (cOp2 gEq (cOp2 gMod (cOp2 gFdiv (cOp2 gIx (cVar 0) (cC (.int 0))) (cC (.int 9))) (cC (.int 3))) (cC (.int 1)))) (sSeq (sAsg (cC (.int 0)) (gNm 2)) (sSeq (sFor (cIt (cSl gSlice (cVar 0) (cPart (cC (.int 1))) (cPart (cOp2 gAdd (cC (.int 2)) (cOp2 gMod (cOp2 gFdiv (cOp2 gIx (cVar 0) (cC (.int 0))) (cC (.int 27))) (cC (.int 20))))))) (gNm 1) (sAsg (cOp2 gAdd (cOp2 gMul (cVar 2) (cC (.int 1000))) (cOp2 gMod (cVar 1) (cC (.int 1000)))) (gNm 2))) (sIf (cTest (cOp2 gEq (cOp2 gMod (cOp2 gFdiv (cOp2 gIx (cVar 0) (cC (.int 0))) (cC (.int 540))) (cC (.int 2))) (cC (.int 1)))) (sAsg (cOp2 gSub (cC (.int 0)) (cVar 2)) (gNm 2)) (sNext)))) (sNext)) (sRet (cVar 2)))
abbrev d_law_wide : CD := dBody 3 m_law_wide
theorem u_law_wide (a0 : Cv) (h : CH) (q : Cv → CH → Prop) (e : XQ) : d_law_wide [a0] h q e = m_law_wide [some a0, none, none] h ⟨fun _ h1 => q .non h1, q, fun _ _ => False, fun _ _ => False, fun x _ h1 => e x h1⟩ := rfl
/-- _law_work -/
def m_law_work_2 : CS :=
  sSeq (sAsg (cOp2 gIx (cVar 1) (cOp2 gMod (cOp2 gIx (cVar 0) (cC (.int 1))) (cCall gLen (cCons (cVar 1) (cNil))))) (gNm 2)) (sSeq (sAsg (cCallD 1 d_law_wide (cCons (cSl gSlice (cVar 0) (cPart (cC (.int 2))) cNoPart) (cNil))) (gNm 3)) (sRet (cOp2 gIx (cLv (cCons (cTup (cCons (cC (.str (PySem.Str.ofString "put"))) (cCons (cVar 2) (cCons (cVar 3) (cNil))))) (cCons (cTup (cCons (cC (.str (PySem.Str.ofString "add"))) (cCons (cVar 2) (cCons (cVar 3) (cNil))))) (cCons (cTup (cCons (cC (.str (PySem.Str.ofString "drop"))) (cCons (cVar 2) (cNil)))) (cNil))))) (cOp2 gMod (cOp2 gIx (cVar 0) (cC (.int 0))) (cC (.int 3))))))
abbrev d_law_work_2 : CD := dBody 4 m_law_work_2
theorem u_law_work_2 (a0 a1 : Cv) (h : CH) (q : Cv → CH → Prop) (e : XQ) : d_law_work_2 [a0, a1] h q e = m_law_work_2 [some a0, some a1, none, none] h ⟨fun _ h1 => q .non h1, q, fun _ _ => False, fun _ _ => False, fun x _ h1 => e x h1⟩ := rfl
/-- _law_due -/
def m_law_due_2 : CS :=
  sSeq (sAsg (cDGet1 (cVar 0) (cOp2 gIx (cVar 1) (cC (.int 1)))) (gNm 2)) (sSeq (sIf (cTest (cOp2 gEq (cOp2 gIx (cVar 1) (cC (.int 0))) (cC (.str (PySem.Str.ofString "put"))))) (sDPutC (cVar 0) (cOp2 gIx (cVar 1) (cC (.int 1))) (cOp2 gIx (cVar 1) (cC (.int 2)))) (sIf (cTest (cOp2 gEq (cOp2 gIx (cVar 1) (cC (.int 0))) (cC (.str (PySem.Str.ofString "add"))))) (sSeq (sDPutC (cVar 0) (cOp2 gIx (cVar 1) (cC (.int 1))) (cOp2 gAdd (cDGet2 (cVar 0) (cOp2 gIx (cVar 1) (cC (.int 1))) (cC (.int 0))) (cOp2 gIx (cVar 1) (cC (.int 2))))) (sRet (cOp2 gDGet (cVar 0) (cOp2 gIx (cVar 1) (cC (.int 1)))))) (sIf (cTest (cOp2 gNotN (cVar 2) (cC .non))) (sExpr (cDPop (cVar 0) (cOp2 gIx (cVar 1) (cC (.int 1))))) (sNext)))) (sRet (cVar 2)))
abbrev d_law_due_2 : CD := dBody 3 m_law_due_2
theorem u_law_due_2 (a0 a1 : Cv) (h : CH) (q : Cv → CH → Prop) (e : XQ) : d_law_due_2 [a0, a1] h q e = m_law_due_2 [some a0, some a1, none] h ⟨fun _ h1 => q .non h1, q, fun _ _ => False, fun _ _ => False, fun x _ h1 => e x h1⟩ := rfl
/-- Table.works -/
def m_Table_works : CS :=
  sSeq (sAsg (cDGet1 (cFld "Table" "held" (cVar 0)) (cOp2 gIx (cVar 1) (cC (.int 1)))) (gNm 2)) (sSeq (sIf (cTest (cOp2 gEq (cOp2 gIx (cVar 1) (cC (.int 0))) (cC (.str (PySem.Str.ofString "drop"))))) (sSeq (sIf (cTest (cOp2 gDIn (cOp2 gIx (cVar 1) (cC (.int 1))) (cFld "Table" "held" (cVar 0)))) (sExpr (cDPop (cFld "Table" "held" (cVar 0)) (cOp2 gIx (cVar 1) (cC (.int 1))))) (sNext)) (sRet (cVar 2))) (sNext)) (sSeq (sIf (cTest (cOp2 gEq (cOp2 gIx (cVar 1) (cC (.int 0))) (cC (.str (PySem.Str.ofString "put"))))) (sSeq (sDPutC (cFld "Table" "held" (cVar 0)) (cOp2 gIx (cVar 1) (cC (.int 1))) (cOp2 gIx (cVar 1) (cC (.int 2)))) (sRet (cVar 2))) (sNext)) (sSeq (sDPutC (cFld "Table" "held" (cVar 0)) (cOp2 gIx (cVar 1) (cC (.int 1))) (cOp2 gAdd (cDGet2 (cFld "Table" "held" (cVar 0)) (cOp2 gIx (cVar 1) (cC (.int 1))) (cC (.int 0))) (cOp2 gIx (cVar 1) (cC (.int 2))))) (sRet (cOp2 gDGet (cFld "Table" "held" (cVar 0)) (cOp2 gIx (cVar 1) (cC (.int 1))))))))
abbrev d_Table_works : CD := dBody 3 m_Table_works
theorem u_Table_works (a0 a1 : Cv) (h : CH) (q : Cv → CH → Prop) (e : XQ) : d_Table_works [a0, a1] h q e = m_Table_works [some a0, some a1, none] h ⟨fun _ h1 => q .non h1, q, fun _ _ => False, fun _ _ => False, fun x _ h1 => e x h1⟩ := rfl
/-- Table.does -/
def m_Table_does : CS :=
  sSeq (sAsgT (cDGet2 (cFld "Table" "asked" (cVar 0)) (cVar 1) (cTup (cCons (cC (.int 0)) (cCons (cC .non) (cNil))))) (gTp 2 (gsCons (gNm 5) (gsCons (gNm 4) (gsNil))))) (sSeq (sIf (cTest (cOp2 gLt (cVar 2) (cVar 5))) (sRet (cTup (cCons (cC (.str (PySem.Str.ofString "old"))) (cCons (cC .non) (cNil))))) (sNext)) (sSeq (sIf (cTest (cOp2 gEq (cVar 2) (cVar 5))) (sRet (cTup (cCons (cC (.str (PySem.Str.ofString "again"))) (cCons (cVar 4) (cNil))))) (sNext)) (sSeq (sAsg (cMethD "Table" "works" 2 d_Table_works (cVar 0) (cCons (cVar 3) (cNil))) (gNm 4)) (sSeq (sDPutC (cFld "Table" "asked" (cVar 0)) (cVar 1) (cTup (cCons (cVar 2) (cCons (cVar 4) (cNil))))) (sRet (cTup (cCons (cC (.str (PySem.Str.ofString "done"))) (cCons (cVar 4) (cNil)))))))))
abbrev d_Table_does : CD := dBody 6 m_Table_does
theorem u_Table_does (a0 a1 a2 a3 : Cv) (h : CH) (q : Cv → CH → Prop) (e : XQ) : d_Table_does [a0, a1, a2, a3] h q e = m_Table_does [some a0, some a1, some a2, some a3, none, none] h ⟨fun _ h1 => q .non h1, q, fun _ _ => False, fun _ _ => False, fun x _ h1 => e x h1⟩ := rfl
/-- Table.holds -/
def m_Table_holds : CS :=
  sRet (cDGet1 (cFld "Table" "held" (cVar 0)) (cVar 1))
abbrev d_Table_holds : CD := dBody 2 m_Table_holds
theorem u_Table_holds (a0 a1 : Cv) (h : CH) (q : Cv → CH → Prop) (e : XQ) : d_Table_holds [a0, a1] h q e = m_Table_holds [some a0, some a1] h ⟨fun _ h1 => q .non h1, q, fun _ _ => False, fun _ _ => False, fun x _ h1 => e x h1⟩ := rfl
/-- Table.last_of -/
def m_Table_last_of : CS :=
  sRet (cOp2 gIx (cDGet2 (cFld "Table" "asked" (cVar 0)) (cVar 1) (cTup (cCons (cC (.int 0)) (cCons (cC .non) (cNil))))) (cC (.int 0)))
abbrev d_Table_last_of : CD := dBody 2 m_Table_last_of
theorem u_Table_last_of (a0 a1 : Cv) (h : CH) (q : Cv → CH → Prop) (e : XQ) : d_Table_last_of [a0, a1] h q e = m_Table_last_of [some a0, some a1] h ⟨fun _ h1 => q .non h1, q, fun _ _ => False, fun _ _ => False, fun x _ h1 => e x h1⟩ := rfl
/-- _law_same -/
def m_law_same : CS :=
  sSeq (sIf (cTest (cOp2 gIsN (cVar 1) (cC .non))) (sRet (cOp2 gIsN (cVar 0) (cC .non))) (sNext)) (sRet (cAndV (cIsi "int" (cVar 0)) (cAndV (cNotV (cIsi "bool" (cVar 0))) (cOp2 gEq (cVar 0) (cVar 1)))))
abbrev d_law_same : CD := dBody 2 m_law_same
theorem u_law_same (a0 a1 : Cv) (h : CH) (q : Cv → CH → Prop) (e : XQ) : d_law_same [a0, a1] h q e = m_law_same [some a0, some a1] h ⟨fun _ h1 => q .non h1, q, fun _ _ => False, fun _ _ => False, fun x _ h1 => e x h1⟩ := rfl
/-- law -/
def m_law_k02 : CS :=
  sSeq (sAsg (cCallD 3 d_law_names_3 (cCons (cVar 0) (cCons (cC (.int 0)) (cCons (cOp2 gAdd (cC (.int 1)) (cOp2 gMod (cCallD 2 d_law_cell_at (cCons (cVar 0) (cCons (cC (.int 1)) (cNil)))) (cC (.int 8)))) (cNil))))) (gNm 7)) (sSeq (sAsg (cOp2 gIx (cCallD 3 d_law_names_3 (cCons (cVar 0) (cCons (cC (.int 2)) (cCons (cC (.int 1)) (cNil))))) (cC (.int 0))) (gNm 1)) (sSeq (sAsg (cMakeD "Table" 3 d_Table___init__ (cCons (cTup (cNil)) (cCons (cTup (cNil)) (cNil)))) (gNm 10)) (sSeq (sAsg (cDNew) (gNm 4)) (sSeq (sAsg (cC (.int 0)) (gNm 8)) (sSeq (sFor (cRng2 (cCons (cC (.int 3)) (cCons (cCall gMin2 (cCons (cCall gLen (cCons (cVar 0) (cNil))) (cCons (cC (.int 63)) (cNil)))) (cNil)))) (gNm 5) (sSeq (sAsg (cCallD 4 d_law_digits (cCons (cVar 0) (cCons (cVar 5) (cCons (cC (.int 1080)) (cCons (cC (.int 24)) (cNil)))))) (gNm 9)) (sSeq (sAsg (cCallD 2 d_law_work_2 (cCons (cVar 9) (cCons (cVar 7) (cNil)))) (gNm 11)) (sSeq (sAsg (cOp2 gAdd (cOp2 gAdd (cVar 8) (cC (.int 1))) (cOp2 gMod (cOp2 gIx (cVar 9) (cC (.int 23))) (cC (.int 3)))) (gNm 8)) (sSeq (sAsg (cCallD 2 d_law_due_2 (cCons (cVar 4) (cCons (cVar 11) (cNil)))) (gNm 2)) (sSeq (sAsg (cMethD "Table" "does" 4 d_Table_does (cVar 10) (cCons (cVar 1) (cCons (cVar 8) (cCons (cVar 11) (cNil))))) (gNm 3)) (sSeq (sIf (cOr (cNot (cTt (cIsi "tuple" (cVar 3)))) (cOr (cTest (cOp2 gNe (cCall gLen (cCons (cVar 3) (cNil))) (cC (.int 2)))) (cOr (cTest (cOp2 gNe (cOp2 gIx (cVar 3) (cC (.int 0))) (cC (.str (PySem.Str.ofString "done"))))) (cNot (cTt (cCallD 2 d_law_same (cCons (cOp2 gIx (cVar 3) (cC (.int 1))) (cCons (cVar 2) (cNil))))))))) (sRet (cC (.bl false))) (sNext)) (sFor (cIt (cVar 7)) (gNm 6) (sIf (cNot (cTt (cCallD 2 d_law_same (cCons (cMethD "Table" "holds" 2 d_Table_holds (cVar 10) (cCons (cVar 6) (cNil))) (cCons (cDGet1 (cVar 4) (cVar 6)) (cNil)))))) (sRet (cC (.bl false))) (sNext)))))))))) (sRet (cAndV (cOp2 gEq (cMethD "Table" "holds" 2 d_Table_holds (cVar 10) (cCons (cOp2 gIx (cVar 7) (cC (.int 0))) (cNil))) (cDGet1 (cVar 4) (cOp2 gIx (cVar 7) (cC (.int 0))))) (cOp2 gEq (cMethD "Table" "last_of" 2 d_Table_last_of (cVar 10) (cCons (cVar 1) (cNil))) (cVar 8)))))))))
abbrev d_law_k02 : CD := dBody 12 m_law_k02
theorem u_law_k02 (a0 : Cv) (h : CH) (q : Cv → CH → Prop) (e : XQ) : d_law_k02 [a0] h q e = m_law_k02 [some a0, none, none, none, none, none, none, none, none, none, none, none] h ⟨fun _ h1 => q .non h1, q, fun _ _ => False, fun _ _ => False, fun x _ h1 => e x h1⟩ := rfl
end Lw
end
section
namespace Lw
open PySem L2 Co
/-- _law_ask -/
def m_law_ask : CS :=
  sSeq (sAsg (cOp2 gIx (cVar 2) (cOp2 gMod (cOp2 gFdiv (cOp2 gIx (cVar 0) (cC (.int 22))) (cC (.int 12))) (cCall gLen (cCons (cVar 2) (cNil))))) (gNm 4)) (sSeq (sAsg (cCall gMaxL (cCons (cOp2 gAdd (cLv (cCons (cC (.int 0)) (cNil))) (cLc [7, 6, 8] (cIt (cVar 3)) (gTp 3 (gsCons (gNm 7) (gsCons (gNm 6) (gsCons (gNm 8) (gsNil))))) (cTest (cOp2 gEq (cVar 7) (cVar 4))) (cVar 6))) (cNil))) (gNm 5)) (sSeq (sAsg (cOp2 gAdd (cOp2 gAdd (cVar 5) (cC (.int 1))) (cOp2 gMod (cOp2 gFdiv (cOp2 gIx (cVar 0) (cC (.int 23))) (cC (.int 4))) (cC (.int 3)))) (gNm 6)) (sSeq (sIf (cAnd (cTest (cOp2 gEq (cOp2 gMod (cOp2 gIx (cVar 0) (cC (.int 23))) (cC (.int 4))) (cC (.int 1)))) (cTest (cOp2 gNeV (cVar 3) (cLv (cNil))))) (sRet (cOp2 gIx (cVar 3) (cOp2 gMod (cOp2 gFdiv (cOp2 gIx (cVar 0) (cC (.int 23))) (cC (.int 4))) (cCall gLen (cCons (cVar 3) (cNil)))))) (sNext)) (sSeq (sIf (cTest (cOp2 gEq (cOp2 gMod (cOp2 gIx (cVar 0) (cC (.int 23))) (cC (.int 4))) (cC (.int 2)))) (sAsg (cCall gMax2 (cCons (cC (.int 1)) (cCons (cOp2 gSub (cVar 5) (cOp2 gMod (cOp2 gFdiv (cOp2 gIx (cVar 0) (cC (.int 23))) (cC (.int 4))) (cC (.int 4)))) (cNil)))) (gNm 6)) (sNext)) (sRet (cTup (cCons (cVar 4) (cCons (cVar 6) (cCons (cCallD 2 d_law_work_2 (cCons (cVar 0) (cCons (cVar 1) (cNil)))) (cNil))))))))))
abbrev d_law_ask : CD := dBody 9 m_law_ask
theorem u_law_ask (a0 a1 a2 a3 : Cv) (h : CH) (q : Cv → CH → Prop) (e : XQ) : d_law_ask [a0, a1, a2, a3] h q e = m_law_ask [some a0, some a1, some a2, some a3, none, none, none, none, none] h ⟨fun _ h1 => q .non h1, q, fun _ _ => False, fun _ _ => False, fun x _ h1 => e x h1⟩ := rfl
/-- _law_asks -/
def m_law_asks : CS :=
  sSeq (sAsg (cLst (cNil)) (gNm 5)) (sSeq (sFor (cRng2 (cCons (cVar 1) (cCons (cCall gMin2 (cCons (cCall gLen (cCons (cVar 0) (cNil))) (cCons (cOp2 gAdd (cVar 1) (cVar 2)) (cNil)))) (cNil)))) (gNm 6) (sExpr (cLM gAppend (cVar 5) (cCons (cCallD 4 d_law_ask (cCons (cCallD 4 d_law_digits (cCons (cVar 0) (cCons (cVar 6) (cCons (cC (.int 1080)) (cCons (cC (.int 24)) (cNil)))))) (cCons (cVar 3) (cCons (cVar 4) (cCons (cVar 5) (cNil)))))) (cNil))))) (sRetF (cVar 5)))
abbrev d_law_asks : CD := dBody 7 m_law_asks
theorem u_law_asks (a0 a1 a2 a3 a4 : Cv) (h : CH) (q : Cv → CH → Prop) (e : XQ) : d_law_asks [a0, a1, a2, a3, a4] h q e = m_law_asks [some a0, some a1, some a2, some a3, some a4, none, none] h ⟨fun _ h1 => q .non h1, q, fun _ _ => False, fun _ _ => False, fun x _ h1 => e x h1⟩ := rfl
/-- _law_does -/
def m_law_does : CS :=
  sSeq (sAsgT (cVar 2) (gTp 3 (gsCons (gNm 3) (gsCons (gNm 5) (gsCons (gNm 6) (gsNil)))))) (sSeq (sAsg (cDGet2 (cVar 1) (cVar 3) (cTup (cCons (cC (.int 0)) (cCons (cC .non) (cNil))))) (gNm 4)) (sSeq (sIf (cTest (cOp2 gLt (cVar 5) (cOp2 gIx (cVar 4) (cC (.int 0))))) (sRet (cTup (cCons (cC (.str (PySem.Str.ofString "old"))) (cCons (cC .non) (cNil))))) (sNext)) (sSeq (sIf (cTest (cOp2 gEq (cVar 5) (cOp2 gIx (cVar 4) (cC (.int 0))))) (sRet (cTup (cCons (cC (.str (PySem.Str.ofString "again"))) (cCons (cOp2 gIx (cVar 4) (cC (.int 1))) (cNil))))) (sNext)) (sSeq (sDPutC (cVar 1) (cVar 3) (cTup (cCons (cVar 5) (cCons (cCallD 2 d_law_due_2 (cCons (cVar 0) (cCons (cVar 6) (cNil)))) (cNil))))) (sRet (cTup (cCons (cC (.str (PySem.Str.ofString "done"))) (cCons (cOp2 gIx (cOp2 gDGet (cVar 1) (cVar 3)) (cC (.int 1))) (cNil)))))))))
abbrev d_law_does : CD := dBody 7 m_law_does
theorem u_law_does (a0 a1 a2 : Cv) (h : CH) (q : Cv → CH → Prop) (e : XQ) : d_law_does [a0, a1, a2] h q e = m_law_does [some a0, some a1, some a2, none, none, none, none] h ⟨fun _ h1 => q .non h1, q, fun _ _ => False, fun _ _ => False, fun x _ h1 => e x h1⟩ := rfl
/-- _law_same -/
def m_law_same_2 (rc : CD) : CS :=
  sSeq (sIf (cTt (cIsi "tuple" (cVar 1))) (sSeq (sIf (cOr (cNot (cTt (cIsi "tuple" (cVar 0)))) (cTest (cOp2 gNe (cCall gLen (cCons (cVar 0) (cNil))) (cCall gLen (cCons (cVar 1) (cNil)))))) (sRet (cC (.bl false))) (sNext)) (sRet (cCall gAll (cCons (cLc [2] (cRng1 (cCons (cCall gLen (cCons (cVar 1) (cNil))) (cNil))) (gNm 2) (cYes) (cCallD 2 rc (cCons (cOp2 gIx (cVar 0) (cVar 2)) (cCons (cOp2 gIx (cVar 1) (cVar 2)) (cNil))))) (cNil))))) (sNext)) (sSeq (sIf (cTest (cOp2 gIsN (cVar 1) (cC .non))) (sRet (cOp2 gIsN (cVar 0) (cC .non))) (sNext)) (sSeq (sIf (cTt (cIsi "str" (cVar 1))) (sRet (cAndV (cIsi "str" (cVar 0)) (cOp2 gEq (cVar 0) (cVar 1)))) (sNext)) (sRet (cAndV (cIsi "int" (cVar 0)) (cAndV (cNotV (cIsi "bool" (cVar 0))) (cOp2 gEq (cVar 0) (cVar 1)))))))
def dr_law_same_2 : Nat → CD
  | 0 => fun _ _ _ _ => False
  | k + 1 => dBody 3 (m_law_same_2 (dr_law_same_2 k))
abbrev d_law_same_2 : CD := dr_law_same_2 8
theorem u_law_same_2 (k : Nat) (a0 a1 : Cv) (h : CH) (q : Cv → CH → Prop) (e : XQ) : dr_law_same_2 (k + 1) [a0, a1] h q e = m_law_same_2 (dr_law_same_2 k) [some a0, some a1, none] h ⟨fun _ h1 => q .non h1, q, fun _ _ => False, fun _ _ => False, fun x _ h1 => e x h1⟩ := rfl
/-- law -/
def m_law_k03 : CS :=
  sSeq (sAsg (cCallD 3 d_law_names_3 (cCons (cVar 0) (cCons (cC (.int 0)) (cCons (cOp2 gAdd (cC (.int 1)) (cOp2 gMod (cCallD 2 d_law_cell_at (cCons (cVar 0) (cCons (cC (.int 1)) (cNil)))) (cC (.int 8)))) (cNil))))) (gNm 9)) (sSeq (sAsg (cCallD 3 d_law_names_3 (cCons (cVar 0) (cCons (cC (.int 2)) (cCons (cC (.int 6)) (cNil))))) (gNm 4)) (sSeq (sAsg (cSl gSlice (cVar 4) cNoPart (cPart (cOp2 gAdd (cC (.int 1)) (cOp2 gMod (cOp2 gFdiv (cCallD 2 d_law_cell_at (cCons (cVar 0) (cCons (cC (.int 1)) (cNil)))) (cC (.int 8))) (cC (.int 5)))))) (gNm 6)) (sSeq (sAsg (cMakeD "Table" 3 d_Table___init__ (cCons (cTup (cNil)) (cCons (cTup (cNil)) (cNil)))) (gNm 10)) (sSeq (sAsg (cDNew) (gNm 7)) (sSeq (sAsg (cDNew) (gNm 2)) (sSeq (sFor (cIt (cCallD 5 d_law_asks (cCons (cVar 0) (cCons (cC (.int 3)) (cCons (cC (.int 60)) (cCons (cVar 9) (cCons (cVar 6) (cNil)))))))) (gNm 1) (sSeq (sAsg (cCallD 3 d_law_does (cCons (cVar 7) (cCons (cVar 2) (cCons (cVar 1) (cNil))))) (gNm 5)) (sSeq (sIf (cNot (cTt (cCallD 2 d_law_same_2 (cCons (cMethD "Table" "does" 4 d_Table_does (cVar 10) (cCons (cOp2 gIx (cVar 1) (cC (.int 0))) (cCons (cOp2 gIx (cVar 1) (cC (.int 1))) (cCons (cOp2 gIx (cVar 1) (cC (.int 2))) (cNil))))) (cCons (cVar 5) (cNil)))))) (sRet (cC (.bl false))) (sNext)) (sSeq (sFor (cIt (cVar 9)) (gNm 8) (sIf (cNot (cTt (cCallD 2 d_law_same_2 (cCons (cMethD "Table" "holds" 2 d_Table_holds (cVar 10) (cCons (cVar 8) (cNil))) (cCons (cDGet1 (cVar 7) (cVar 8)) (cNil)))))) (sRet (cC (.bl false))) (sNext))) (sFor (cIt (cVar 4)) (gNm 3) (sIf (cNot (cTt (cCallD 2 d_law_same_2 (cCons (cMethD "Table" "last_of" 2 d_Table_last_of (cVar 10) (cCons (cVar 3) (cNil))) (cCons (cOp2 gIx (cDGet2 (cVar 2) (cVar 3) (cTup (cCons (cC (.int 0)) (cCons (cC .non) (cNil))))) (cC (.int 0))) (cNil)))))) (sRet (cC (.bl false))) (sNext))))))) (sRet (cAndV (cOp2 gEq (cMethD "Table" "last_of" 2 d_Table_last_of (cVar 10) (cCons (cOp2 gIx (cVar 4) (cC (.int 5))) (cNil))) (cC (.int 0))) (cOp2 gEq (cMethD "Table" "holds" 2 d_Table_holds (cVar 10) (cCons (cC (.str (PySem.Str.ofString "none"))) (cNil))) (cDGet1 (cVar 7) (cC (.str (PySem.Str.ofString "none")))))))))))))
abbrev d_law_k03 : CD := dBody 11 m_law_k03
theorem u_law_k03 (a0 : Cv) (h : CH) (q : Cv → CH → Prop) (e : XQ) : d_law_k03 [a0] h q e = m_law_k03 [some a0, none, none, none, none, none, none, none, none, none, none] h ⟨fun _ h1 => q .non h1, q, fun _ _ => False, fun _ _ => False, fun x _ h1 => e x h1⟩ := rfl
end Lw
end
section
/-! Core27: for i in range(a, b) with ends of any size. -/
namespace L2
open PySem PySem.Spec PyProof.Rows
theorem turn_long {P : Program} {w : World} {K : PySem.W.Frag} {tg : Expr} (it : Addr) (lo : Int) (n : Nat) : Turn P w K tg (Itr lo n) [it] it (fun i h => IsLongIter h it (lo + (i : Nat) * 1) ((n : Int) - (i : Nat)) 1) where
  mem := by simp
  obj := fun i h st b hb => by
    have e : b = it := by simpa using hb
    subst e
    exact ⟨_, st, fun v z => by
      have z' : Data.fields _ = Data.cell v := z
      cases z'⟩
  keep := fun i h h' st k => k it (by simp) _ st
  item := by
    intro X hP hw hK hc i pins s σ H E I hf st hg
    subst hP hw hK
    obtain ⟨f0, f1, f2, f3, f4, f5⟩ := hf it (by simp)
    have W := Walks.longrange (prog := X.prog) (w := X.w) (I.ok.hd hc) it lo 1 n
    refine W.item i s _ _ hg st fun v h' tk hv st' kk => ?_
    obtain ⟨t, rfl⟩ := hv
    have I1 : Inv X pins σ H { s with heap := h', toks := tk } := I.turned (fun b o hb e => kk b o (by simpa using hb) e) f0 f1 f3 f4 f5
    refine ⟨_, rfl, go_of (s := { s with heap := h', toks := tk }) (n := "longrange_iterator") st' rfl rfl (by decide) ⟨.int (lo + i), H, I1, ⟨t, ?_⟩, ⟨rfl, rfl⟩, st', fun b hb => (hf b hb).1⟩⟩
    rw [Int.mul_one]
  done := by
    intro X hP hw hK hc i pins s σ H E I hf st hg
    subst hP hw hK
    obtain ⟨f0, f1, f2, f3, f4, f5⟩ := hf it (by simp)
    exact wpAny_pyNext_long_end (I.ok.hd hc) st (by have : n ≤ i := hg; omega) fun h' eb => ⟨rfl, I.turned (t' := s.toks) (fun b o hb e => eb b o hb e) f0 f1 f3 f4 f5⟩
  self := fun _ _ _ _ _ st h => wpAny_pyIter_longiter st h
theorem range_itB {X : Cx} {tg : Expr} {pins : List (Addr × Obj)} {σ : St} {H : Hp} {s : Shared} {R : It → Hp → Prop} {E : Value → Shared → Prop} {lo hi : Int} {t u v : Tok} {tk : Nat} (I : Inv X pins σ H s)
    (q : R (Itr lo (hi - lo).toNat) H) : wpAny (model X.prog X.w) X.A (pyIter (.ref s.heap.objs.size)) (PIE X pins σ tg R) E { s with heap := s.heap.push { cls := .type "range", data := .fields #[.int lo t, .int hi u, .int 1 v] }, toks := tk } := by
  have I1 : Inv X pins σ H { s with heap := s.heap.push { cls := .type "range", data := .fields #[.int lo t, .int hi u, .int 1 v] }, toks := tk } := I.kept fun b o e => Heap.get?_push_of_some _ e
  have e1 : lo + ((0 : Nat) : Int) * 1 = lo := by simp
  have e2 : (((hi - lo).toNat : Nat) : Int) - ((0 : Nat) : Int) = Builtin.Range.rangeSize lo hi 1 := by rw [rangeSize_one]; split <;> omega
  cases hs : Builtin.Range.small lo hi 1 with
  | true =>
    refine wpAny_pyIter_range (IsRange.new ..) hs ?_
    refine ⟨_, [_], _, _, H, rfl, I1.kept (t' := tk) fun b o e => Heap.get?_push_of_some _ e, turn_range _ lo (hi - lo).toNat, ?_, fun b hb => by
      have e : b = (s.heap.push { cls := .type "range", data := .fields #[.int lo t, .int hi u, .int 1 v] }).objs.size := by simpa using hb
      subst e
      exact I1.fpOk (Nat.le_refl _) (I1.hok.fresh (Nat.le_refl _)), q⟩
    show IsRangeIter _ _ (lo + ((0 : Nat) : Int) * 1) ((((hi - lo).toNat : Nat) : Int) - ((0 : Nat) : Int)) 1
    rw [e1, e2]
    exact Heap.get?_push_size _ rfl
  | false =>
    refine wpAny_pyIter_longrange (IsRange.new ..) hs ?_
    refine ⟨_, [_], _, _, H, rfl, I1.kept (t' := tk) fun b o e => Heap.get?_push_of_some _ e, turn_long _ lo (hi - lo).toNat, ?_, fun b hb => by
      have e : b = (s.heap.push { cls := .type "range", data := .fields #[.int lo t, .int hi u, .int 1 v] }).objs.size := by simpa using hb
      subst e
      exact I1.fpOk (Nat.le_refl _) (I1.hok.fresh (Nat.le_refl _)), q⟩
    show IsLongIter _ _ (lo + ((0 : Nat) : Int) * 1) ((((hi - lo).toNat : Nat) : Int) - ((0 : Nat) : Int)) 1
    rw [e1, e2]
    exact Heap.get?_push_size _ rfl
/-- range(a, b), any a, b -/
def iRng2B (ta : TA) : TI := fun σ H R => ta σ H fun vs H1 => ∃ i j : Int, vs = [.int i, .int j] ∧ R (Itr i (j - i).toNat) H1
theorem pi_range2B {X : Cx} {tg : Expr} {ta : TA} {a b : Expr} {p pos : Pos} (hg : Gl X "range") (hm : X.mg "range" = none) (ha : PA X [a, b] ta) (hs : starEach [a, b] X.env = [(false, eval a X.env), (false, eval b X.env)] := by rfl) (hs2 : starEach [b] X.env = [(false, eval b X.env)] := by rfl) :
    PI X tg (.Call (.Name "range" p) [a, b] [] pos) (iRng2B ta) := by
  refine ⟨fun pins s σ H R I h => ?_⟩
  refine Call_ (ld_blt I hg hm boot_range (PyProof.Rows.callWith_type1 (thn (ha.run pos pins s σ H _ I h) fun us s1 ⟨vs, H1, I1, r1, q1⟩ => ?_) (by rw [hs, hs2]) (by rw [hs2]; rfl)))
  obtain ⟨i, j, e, q⟩ := q1
  subst e
  cases r1 with
  | cons r rr =>
    cases rr with
    | cons r' rr =>
      cases rr
      obtain ⟨t, rfl⟩ := r
      obtain ⟨t', rfl⟩ := r'
      exact call_range_2 (range_itB I1 q)
end L2
namespace Co
open PySem PySem.Spec PyProof.Rows L2
def cRng2B (cs : CTs) : CI := fun env h q e => cs env h (fun xs h1 => match xs with
  | [.int i, .int j] => q (intsR i (j - i).toNat) (fun _ => True) h1
  | _ => False) e
theorem ci_range2B {X : Cx} {cm : String → Addr} {W : WX} {tg a b : Expr} {p pos : Pos} {ca : CTs} (hg : Gl X "range") (hm : X.mg "range" = none) (ha : PA X [a, b] (aOf X.K cm W ca)) (hs : starEach [a, b] X.env = [(false, eval a X.env), (false, eval b X.env)] := by rfl) (hs2 : starEach [b] X.env = [(false, eval b X.env)] := by rfl) :
    PI X tg (.Call (.Name "range" p) [a, b] [] pos) (iOf X.K cm W (cRng2B ca)) := weakI (fun σ H R ⟨h, env, q, e, S, RE, hc, k, kx⟩ =>
  ⟨h, env, _, e, S, RE, hc, fun H1 h1 xs Vs l S1 r c1 => by
    dsimp only at c1
    split at c1
    · obtain ⟨v, u, rfl, r1, r2⟩ := r.two
      cases r1.int_inv
      cases r2.int_inv
      exact ⟨_, _, rfl, k _ _ _ _ _ l S1 yi_range c1⟩
    · exact c1.elim, kx⟩) (pi_range2B hg hm ha hs hs2)
end Co
end
section
namespace Lw
open PySem L2 Co
/-- _law_bits -/
def m_law_bits : CS :=
  sRet (cLst (cCons (cCall gMax2 (cCons (cC (.int 0)) (cCons (cOp2 gSub (cVar 0) (cOp2 gPow (cC (.int 10)) (cC (.int 18)))) (cNil)))) (cCons (cOp2 gMod (cOp2 gAdd (cOp2 gAdd (cVar 0) (cOp2 gMul (cC (.int 7919)) (cVar 1))) (cC (.int 1))) (cC (.int 2147483629))) (cNil))))
abbrev d_law_bits : CD := dBody 2 m_law_bits
theorem u_law_bits (a0 a1 : Cv) (h : CH) (q : Cv → CH → Prop) (e : XQ) : d_law_bits [a0, a1] h q e = m_law_bits [some a0, some a1] h ⟨fun _ h1 => q .non h1, q, fun _ _ => False, fun _ _ => False, fun x _ h1 => e x h1⟩ := rfl
/-- _law_next -/
def m_law_next_3 : CS :=
  sSeq (sAsgT (cOp2 gMod (cOp2 gAdd (cOp2 gAdd (cOp2 gMul (cOp2 gIx (cVar 0) (cC (.int 1))) (cOp2 gIx (cVar 0) (cC (.int 1)))) (cOp2 gMul (cC (.int 48271)) (cOp2 gIx (cVar 0) (cC (.int 1))))) (cC (.int 11))) (cC (.int 2147483629))) (gSb gSetL (cVar 0) (cC (.int 1)))) (sSeq (sAsg (cOp2 gMod (cOp2 gMul (cOp2 gIx (cVar 0) (cC (.int 1))) (cC (.int 40692))) (cC (.int 2147483399))) (gNm 1)) (sRet (cOp2 gMod (cOp2 gMul (cVar 1) (cVar 1)) (cC (.int 998244353)))))
abbrev d_law_next_3 : CD := dBody 2 m_law_next_3
theorem u_law_next_3 (a0 : Cv) (h : CH) (q : Cv → CH → Prop) (e : XQ) : d_law_next_3 [a0] h q e = m_law_next_3 [some a0, none] h ⟨fun _ h1 => q .non h1, q, fun _ _ => False, fun _ _ => False, fun x _ h1 => e x h1⟩ := rfl
/-- _law_take -/
def m_law_take_2 : CS :=
  sSeq (sIf (cTest (cOp2 gGt (cOp2 gIx (cVar 0) (cC (.int 0))) (cC (.int 1)))) (sSeq (sAsg (cOp2 gMod (cOp2 gIx (cVar 0) (cC (.int 0))) (cVar 1)) (gNm 2)) (sSeq (sAsgT (cOp2 gFdiv (cOp2 gIx (cVar 0) (cC (.int 0))) (cVar 1)) (gSb gSetL (cVar 0) (cC (.int 0)))) (sRet (cVar 2)))) (sNext)) (sSeq (sAsg (cCallD 1 d_law_next_3 (cCons (cVar 0) (cNil))) (gNm 2)) (sSeq (sAsg (cC (.int 998244353)) (gNm 3)) (sSeq (sWhile (cTest (cOp2 gLt (cVar 3) (cVar 1))) (sSeq (sAsg (cOp2 gAdd (cOp2 gMul (cVar 2) (cC (.int 998244353))) (cCallD 1 d_law_next_3 (cCons (cVar 0) (cNil)))) (gNm 2)) (sAsg (cOp2 gMul (cVar 3) (cC (.int 998244353))) (gNm 3)))) (sRet (cOp2 gMod (cVar 2) (cVar 1))))))
abbrev d_law_take_2 : CD := dBody 4 m_law_take_2
theorem u_law_take_2 (a0 a1 : Cv) (h : CH) (q : Cv → CH → Prop) (e : XQ) : d_law_take_2 [a0, a1] h q e = m_law_take_2 [some a0, some a1, none, none] h ⟨fun _ h1 => q .non h1, q, fun _ _ => False, fun _ _ => False, fun x _ h1 => e x h1⟩ := rfl
/-- _law_name -/
def m_law_name : CS :=
  sSeq (sAsg (cC (.str (PySem.Str.ofString "abcdefghijklmnopqrstuvwxyz"))) (gNm 2)) (sSeq (sIf (cTest (cOp2 gGt (cCallD 2 d_law_take_2 (cCons (cVar 0) (cCons (cC (.int 3)) (cNil)))) (cC (.int 0)))) (sRet (cOp2 gIx (cVar 2) (cCallD 2 d_law_take_2 (cCons (cVar 0) (cCons (cC (.int 5)) (cNil)))))) (sNext)) (sSeq (sAsg (cC (.str (PySem.Str.ofString ""))) (gNm 3)) (sSeq (sFor (cRng1 (cCons (cOp2 gAdd (cC (.int 1)) (cCallD 2 d_law_take_2 (cCons (cVar 0) (cCons (cC (.int 8)) (cNil))))) (cNil))) (gNm 1) (sAsg (cOp2 gAdd (cVar 3) (cOp2 gIx (cVar 2) (cCallD 2 d_law_take_2 (cCons (cVar 0) (cCons (cC (.int 26)) (cNil)))))) (gNm 3))) (sRet (cVar 3)))))
abbrev d_law_name : CD := dBody 4 m_law_name
theorem u_law_name (a0 : Cv) (h : CH) (q : Cv → CH → Prop) (e : XQ) : d_law_name [a0] h q e = m_law_name [some a0, none, none, none] h ⟨fun _ h1 => q .non h1, q, fun _ _ => False, fun _ _ => False, fun x _ h1 => e x h1⟩ := rfl
/-- _law_names -/
def m_law_names_2 : CS :=
  sSeq (sAsg (cDNew) (gNm 4)) (sSeq (sFor (cRng1 (cCons (cOp2 gAdd (cVar 1) (cCallD 2 d_law_take_2 (cCons (cVar 0) (cCons (cOp2 gAdd (cOp2 gSub (cVar 2) (cVar 1)) (cC (.int 1))) (cNil))))) (cNil))) (gNm 5) (sDPutC (cVar 4) (cCallD 1 d_law_name (cCons (cVar 0) (cNil))) (cC (.bl true)))) (sRet (cCall gTuple (cCons (cCall gSorted (cCons (cLock (cVar 4) (cLc [6] (cIt (cVar 4)) (gNm 6) (cTest (cOp2 gNotIn (cVar 6) (cVar 3))) (cVar 6))) (cNil))) (cNil)))))
abbrev d_law_names_2 : CD := dBody 7 m_law_names_2
theorem u_law_names_2 (a0 a1 a2 a3 : Cv) (h : CH) (q : Cv → CH → Prop) (e : XQ) : d_law_names_2 [a0, a1, a2, a3] h q e = m_law_names_2 [some a0, some a1, some a2, some a3, none, none, none] h ⟨fun _ h1 => q .non h1, q, fun _ _ => False, fun _ _ => False, fun x _ h1 => e x h1⟩ := rfl
/-- _law_bench -/
def m_law_bench_2 : CS :=
  sSeq (sAsg (cCallD 4 d_law_names_2 (cCons (cVar 0) (cCons (cC (.int 1)) (cCons (cC (.int 5)) (cCons (cTup (cNil)) (cNil)))))) (gNm 2)) (sSeq (sAsg (cTup (cNil)) (gNm 1)) (sSeq (sIf (cTest (cOp2 gEq (cCallD 2 d_law_take_2 (cCons (cVar 0) (cCons (cC (.int 2)) (cNil)))) (cC (.int 1)))) (sAsg (cCallD 4 d_law_names_2 (cCons (cVar 0) (cCons (cC (.int 1)) (cCons (cC (.int 5)) (cCons (cTup (cNil)) (cNil)))))) (gNm 1)) (sNext)) (sRet (cTup (cCons (cVar 2) (cCons (cVar 1) (cCons (cCallD 4 d_law_names_2 (cCons (cVar 0) (cCons (cC (.int 0)) (cCons (cC (.int 4)) (cCons (cOrV (cVar 1) (cVar 2)) (cNil)))))) (cNil))))))))
abbrev d_law_bench_2 : CD := dBody 3 m_law_bench_2
theorem u_law_bench_2 (a0 : Cv) (h : CH) (q : Cv → CH → Prop) (e : XQ) : d_law_bench_2 [a0] h q e = m_law_bench_2 [some a0, none, none] h ⟨fun _ h1 => q .non h1, q, fun _ _ => False, fun _ _ => False, fun x _ h1 => e x h1⟩ := rfl
/-- _law_number -/
def m_law_number_2 : CS :=
  sSeq (sIf (cTest (cOp2 gGt (cCallD 2 d_law_take_2 (cCons (cVar 0) (cCons (cC (.int 4)) (cNil)))) (cC (.int 0)))) (sRet (cOp2 gSub (cCallD 2 d_law_take_2 (cCons (cVar 0) (cCons (cC (.int 9)) (cNil)))) (cC (.int 4)))) (sNext)) (sRet (cOp2 gAdd (cOp2 gSub (cCallD 2 d_law_take_2 (cCons (cVar 0) (cCons (cOp2 gSub (cOp2 gMul (cC (.int 2)) (cOp2 gPow (cC (.int 10)) (cC (.int 60)))) (cC (.int 1))) (cNil)))) (cOp2 gPow (cC (.int 10)) (cC (.int 60)))) (cC (.int 1))))
abbrev d_law_number_2 : CD := dBody 1 m_law_number_2
theorem u_law_number_2 (a0 : Cv) (h : CH) (q : Cv → CH → Prop) (e : XQ) : d_law_number_2 [a0] h q e = m_law_number_2 [some a0] h ⟨fun _ h1 => q .non h1, q, fun _ _ => False, fun _ _ => False, fun x _ h1 => e x h1⟩ := rfl
/-- _law_stand -/
def m_law_stand : CS :=
  sSeq (sAsg (cCallD 2 d_law_bits (cCons (cVar 0) (cCons (cC (.int 0)) (cNil)))) (gNm 3)) (sSeq (sAsg (cOp2 gIx (cLv (cCons (cC (.int 0)) (cCons (cC (.int 0)) (cCons (cC (.int 0)) (cCons (cC (.int 1)) (cCons (cC (.int 2)) (cCons (cC (.int 5)) (cCons (cC (.int 9)) (cCons (cOp2 gPow (cC (.int 10)) (cC (.int 40))) (cNil)))))))))) (cCallD 2 d_law_take_2 (cCons (cVar 3) (cCons (cC (.int 8)) (cNil))))) (gNm 5)) (sSeq (sAsg (cCallD 1 d_law_bench_2 (cCons (cVar 3) (cNil))) (gNm 2)) (sSeq (sIf (cTest (cOp2 gEq (cVar 5) (cC (.int 0)))) (sRet (cTup (cCons (cC (.int 0)) (cCons (cC (.int 0)) (cCons (cVar 2) (cCons (cTup (cNil)) (cCons (cTup (cNil)) (cNil)))))))) (sNext)) (sSeq (sAsg (cOp2 gAdd (cC (.int 1)) (cCallD 2 d_law_take_2 (cCons (cVar 3) (cCons (cC (.int 4)) (cNil))))) (gNm 6)) (sSeq (sAsg (cCall gTuple (cCons (cLc [7] (cIt (cCallD 4 d_law_names_2 (cCons (cVar 3) (cCons (cC (.int 0)) (cCons (cC (.int 3)) (cCons (cTup (cNil)) (cNil))))))) (gNm 7) (cYes) (cTup (cCons (cVar 7) (cCons (cCallD 1 d_law_number_2 (cCons (cVar 3) (cNil))) (cNil))))) (cNil))) (gNm 4)) (sSeq (sAsg (cCall gTuple (cCons (cLc [8] (cIt (cCallD 4 d_law_names_2 (cCons (cVar 3) (cCons (cC (.int 0)) (cCons (cC (.int 2)) (cCons (cTup (cNil)) (cNil))))))) (gNm 8) (cYes) (cTup (cCons (cVar 8) (cCons (cOp2 gAdd (cC (.int 1)) (cCallD 2 d_law_take_2 (cCons (cVar 3) (cCons (cC (.int 9)) (cNil))))) (cCons (cC .non) (cNil)))))) (cNil))) (gNm 1)) (sRet (cTup (cCons (cVar 5) (cCons (cVar 6) (cCons (cVar 2) (cCons (cVar 4) (cCons (cVar 1) (cNil))))))))))))))
abbrev d_law_stand : CD := dBody 9 m_law_stand
theorem u_law_stand (a0 : Cv) (h : CH) (q : Cv → CH → Prop) (e : XQ) : d_law_stand [a0] h q e = m_law_stand [some a0, none, none, none, none, none, none, none, none] h ⟨fun _ h1 => q .non h1, q, fun _ _ => False, fun _ _ => False, fun x _ h1 => e x h1⟩ := rfl
/-- _law_work -/
def m_law_work : CS :=
  sSeq (sAsg (cOp2 gIx (cLv (cCons (cC (.str (PySem.Str.ofString "put"))) (cCons (cC (.str (PySem.Str.ofString "add"))) (cCons (cC (.str (PySem.Str.ofString "drop"))) (cNil))))) (cCallD 2 d_law_take_2 (cCons (cVar 0) (cCons (cC (.int 3)) (cNil))))) (gNm 2)) (sSeq (sAsg (cCallD 1 d_law_name (cCons (cVar 0) (cNil))) (gNm 1)) (sSeq (sIf (cTest (cOp2 gEq (cVar 2) (cC (.str (PySem.Str.ofString "drop"))))) (sRet (cTup (cCons (cVar 2) (cCons (cVar 1) (cNil))))) (sNext)) (sRet (cTup (cCons (cVar 2) (cCons (cVar 1) (cCons (cCallD 1 d_law_number_2 (cCons (cVar 0) (cNil))) (cNil))))))))
abbrev d_law_work : CD := dBody 3 m_law_work
theorem u_law_work (a0 : Cv) (h : CH) (q : Cv → CH → Prop) (e : XQ) : d_law_work [a0] h q e = m_law_work [some a0, none, none] h ⟨fun _ h1 => q .non h1, q, fun _ _ => False, fun _ _ => False, fun x _ h1 => e x h1⟩ := rfl
/-- _law_deed -/
def m_law_deed : CS :=
  sSeq (sAsg (cCallD 2 d_law_take_2 (cCons (cVar 0) (cCons (cC (.int 6)) (cNil)))) (gNm 1)) (sSeq (sIf (cTest (cOp2 gEq (cVar 1) (cC (.int 0)))) (sRet (cTup (cCons (cC (.str (PySem.Str.ofString "first"))) (cNil)))) (sNext)) (sSeq (sIf (cTest (cOp2 gLt (cVar 1) (cC (.int 3)))) (sRet (cTup (cCons (cC (.str (PySem.Str.ofString "bench"))) (cCons (cCallD 1 d_law_bench_2 (cCons (cVar 0) (cNil))) (cNil))))) (sNext)) (sRet (cTup (cCons (cC (.str (PySem.Str.ofString "ask"))) (cCons (cCallD 1 d_law_name (cCons (cVar 0) (cNil))) (cCons (cOp2 gAdd (cC (.int 1)) (cOp2 gMod (cCall gAbs (cCons (cCallD 1 d_law_number_2 (cCons (cVar 0) (cNil))) (cNil))) (cOp2 gSub (cOp2 gPow (cC (.int 10)) (cC (.int 60))) (cC (.int 1))))) (cCons (cCallD 1 d_law_work (cCons (cVar 0) (cNil))) (cNil)))))))))
abbrev d_law_deed : CD := dBody 2 m_law_deed
theorem u_law_deed (a0 : Cv) (h : CH) (q : Cv → CH → Prop) (e : XQ) : d_law_deed [a0] h q e = m_law_deed [some a0, none] h ⟨fun _ h1 => q .non h1, q, fun _ _ => False, fun _ _ => False, fun x _ h1 => e x h1⟩ := rfl
/-- _law_entry -/
def m_law_entry : CS :=
  sSeq (sAsg (cCallD 2 d_law_bits (cCons (cVar 0) (cCons (cVar 1) (cNil)))) (gNm 3)) (sSeq (sAsg (cCallD 2 d_law_take_2 (cCons (cVar 3) (cCons (cC (.int 8)) (cNil)))) (gNm 4)) (sSeq (sIf (cTest (cOp2 gLt (cVar 4) (cC (.int 6)))) (sAsg (cCall gMax2 (cCons (cC (.int 1)) (cCons (cOp2 gAdd (cVar 2) (cOp2 gIx (cLv (cCons (cC (.int 0)) (cCons (cC (.int 0)) (cCons (cC (.int 0)) (cCons (cC (.int 1)) (cCons (cC (.int 1)) (cCons (cC (.int 2)) (cNil)))))))) (cVar 4))) (cNil)))) (gNm 2)) (sIf (cTest (cOp2 gEq (cVar 4) (cC (.int 6)))) (sAsg (cOp2 gAdd (cC (.int 1)) (cCallD 2 d_law_take_2 (cCons (cVar 3) (cCons (cC (.int 5)) (cNil))))) (gNm 2)) (sAsg (cOp2 gAdd (cC (.int 1)) (cCallD 2 d_law_take_2 (cCons (cVar 3) (cCons (cOp2 gPow (cC (.int 10)) (cC (.int 59))) (cNil))))) (gNm 2)))) (sRet (cTup (cCons (cVar 2) (cCons (cCallD 1 d_law_deed (cCons (cVar 3) (cNil))) (cNil)))))))
abbrev d_law_entry : CD := dBody 5 m_law_entry
theorem u_law_entry (a0 a1 a2 : Cv) (h : CH) (q : Cv → CH → Prop) (e : XQ) : d_law_entry [a0, a1, a2] h q e = m_law_entry [some a0, some a1, some a2, none, none] h ⟨fun _ h1 => q .non h1, q, fun _ _ => False, fun _ _ => False, fun x _ h1 => e x h1⟩ := rfl
/-- _law_entries -/
def m_law_entries : CS :=
  sSeq (sAsg (cLst (cNil)) (gNm 3)) (sSeq (sFor (cEnum (cCons (cVar 0) (cNil))) (gTp 2 (gsCons (gNm 4) (gsCons (gNm 2) (gsNil)))) (sSeq (sExpr (cLM gAppend (cVar 3) (cCons (cCallD 3 d_law_entry (cCons (cVar 2) (cCons (cOp2 gAdd (cVar 4) (cC (.int 1))) (cCons (cVar 1) (cNil))))) (cNil)))) (sAsg (cOp2 gIx (cOp2 gIx (cVar 3) (cOp1 gNeg (cC (.int 1)))) (cC (.int 0))) (gNm 1)))) (sRet (cCall gTuple (cCons (cVar 3) (cNil)))))
abbrev d_law_entries : CD := dBody 5 m_law_entries
theorem u_law_entries (a0 a1 : Cv) (h : CH) (q : Cv → CH → Prop) (e : XQ) : d_law_entries [a0, a1] h q e = m_law_entries [some a0, some a1, none, none, none] h ⟨fun _ h1 => q .non h1, q, fun _ _ => False, fun _ _ => False, fun x _ h1 => e x h1⟩ := rfl
/-- Row.__init__ -/
def m_Row___init__ : CS :=
  sSeq (sFldC "Row" "stand" (cVar 0) (cVar 1)) (sFldC "Row" "entries" (cVar 0) (cVar 2))
abbrev d_Row___init__ : CD := dBody 3 m_Row___init__
theorem u_Row___init__ (a0 a1 a2 : Cv) (h : CH) (q : Cv → CH → Prop) (e : XQ) : d_Row___init__ [a0, a1, a2] h q e = m_Row___init__ [some a0, some a1, some a2] h ⟨fun _ h1 => q .non h1, q, fun _ _ => False, fun _ _ => False, fun x _ h1 => e x h1⟩ := rfl
/-- Row.behind -/
def m_Row_behind : CS :=
  sRet (cSl gSlice (cFld "Row" "entries" (cVar 0)) (cPart (cOp2 gSub (cVar 1) (cOp2 gIx (cFld "Row" "stand" (cVar 0)) (cC (.int 0))))) cNoPart)
abbrev d_Row_behind : CD := dBody 2 m_Row_behind
theorem u_Row_behind (a0 a1 : Cv) (h : CH) (q : Cv → CH → Prop) (e : XQ) : d_Row_behind [a0, a1] h q e = m_Row_behind [some a0, some a1] h ⟨fun _ h1 => q .non h1, q, fun _ _ => False, fun _ _ => False, fun x _ h1 => e x h1⟩ := rfl
/-- _law_whole -/
def m_law_whole : CS :=
  sRet (cAndV (cIsi "int" (cVar 0)) (cAndV (cNotV (cIsi "bool" (cVar 0))) (cOp2 gEq (cVar 0) (cVar 1))))
abbrev d_law_whole : CD := dBody 2 m_law_whole
theorem u_law_whole (a0 a1 : Cv) (h : CH) (q : Cv → CH → Prop) (e : XQ) : d_law_whole [a0, a1] h q e = m_law_whole [some a0, some a1] h ⟨fun _ h1 => q .non h1, q, fun _ _ => False, fun _ _ => False, fun x _ h1 => e x h1⟩ := rfl
/-- Row.last_place -/
def m_Row_last_place : CS :=
  sRet (cOp2 gAdd (cOp2 gIx (cFld "Row" "stand" (cVar 0)) (cC (.int 0))) (cCall gLen (cCons (cFld "Row" "entries" (cVar 0)) (cNil))))
abbrev d_Row_last_place : CD := dBody 1 m_Row_last_place
theorem u_Row_last_place (a0 : Cv) (h : CH) (q : Cv → CH → Prop) (e : XQ) : d_Row_last_place [a0] h q e = m_Row_last_place [some a0] h ⟨fun _ h1 => q .non h1, q, fun _ _ => False, fun _ _ => False, fun x _ h1 => e x h1⟩ := rfl
/-- Row.entry_at -/
def m_Row_entry_at : CS :=
  sRet (cOp2 gIx (cFld "Row" "entries" (cVar 0)) (cOp2 gSub (cOp2 gSub (cVar 1) (cOp2 gIx (cFld "Row" "stand" (cVar 0)) (cC (.int 0)))) (cC (.int 1))))
abbrev d_Row_entry_at : CD := dBody 2 m_Row_entry_at
theorem u_Row_entry_at (a0 a1 : Cv) (h : CH) (q : Cv → CH → Prop) (e : XQ) : d_Row_entry_at [a0, a1] h q e = m_Row_entry_at [some a0, some a1] h ⟨fun _ h1 => q .non h1, q, fun _ _ => False, fun _ _ => False, fun x _ h1 => e x h1⟩ := rfl
/-- Row.term_at -/
def m_Row_term_at : CS :=
  sSeq (sIf (cTest (cOp2 gEq (cVar 1) (cOp2 gIx (cFld "Row" "stand" (cVar 0)) (cC (.int 0))))) (sRet (cOp2 gIx (cFld "Row" "stand" (cVar 0)) (cC (.int 1)))) (sNext)) (sSeq (sIf (cNot (cTest (cChain gLt gLe (cOp2 gIx (cFld "Row" "stand" (cVar 0)) (cC (.int 0))) (cVar 1) (cMethD "Row" "last_place" 1 d_Row_last_place (cVar 0) cNil)))) (sRet (cC .non)) (sNext)) (sRet (cOp2 gIx (cMethD "Row" "entry_at" 2 d_Row_entry_at (cVar 0) (cCons (cVar 1) (cNil))) (cC (.int 0)))))
abbrev d_Row_term_at : CD := dBody 2 m_Row_term_at
theorem u_Row_term_at (a0 a1 : Cv) (h : CH) (q : Cv → CH → Prop) (e : XQ) : d_Row_term_at [a0, a1] h q e = m_Row_term_at [some a0, some a1] h ⟨fun _ h1 => q .non h1, q, fun _ _ => False, fun _ _ => False, fun x _ h1 => e x h1⟩ := rfl
/-- Row.last_term -/
def m_Row_last_term : CS :=
  sRet (cMethD "Row" "term_at" 2 d_Row_term_at (cVar 0) (cCons (cMethD "Row" "last_place" 1 d_Row_last_place (cVar 0) cNil) (cNil)))
abbrev d_Row_last_term : CD := dBody 1 m_Row_last_term
theorem u_Row_last_term (a0 : Cv) (h : CH) (q : Cv → CH → Prop) (e : XQ) : d_Row_last_term [a0] h q e = m_Row_last_term [some a0] h ⟨fun _ h1 => q .non h1, q, fun _ _ => False, fun _ _ => False, fun x _ h1 => e x h1⟩ := rfl
/-- _law_right -/
def m_law_right_3 : CS :=
  sSeq (sIf (cOr (cTest (cOp2 gNe (cFld "Row" "stand" (cVar 0)) (cVar 1))) (cOr (cTest (cOp2 gNe (cFld "Row" "entries" (cVar 0)) (cVar 2))) (cNot (cTt (cIsi "tuple" (cFld "Row" "entries" (cVar 0))))))) (sRet (cC (.bl false))) (sNext)) (sSeq (sAsg (cOp2 gAdd (cOp2 gIx (cVar 1) (cC (.int 0))) (cCall gLen (cCons (cVar 2) (cNil)))) (gNm 5)) (sSeq (sAsg (cOp2 gAdd (cLv (cCons (cOp2 gIx (cVar 1) (cC (.int 1))) (cNil))) (cLc [9, 8] (cIt (cVar 2)) (gTp 2 (gsCons (gNm 9) (gsCons (gNm 8) (gsNil)))) (cYes) (cVar 9))) (gNm 7)) (sSeq (sIf (cOr (cNot (cTt (cCallD 2 d_law_whole (cCons (cMethD "Row" "last_place" 1 d_Row_last_place (cVar 0) cNil) (cCons (cVar 5) (cNil)))))) (cNot (cTt (cCallD 2 d_law_whole (cCons (cMethD "Row" "last_term" 1 d_Row_last_term (cVar 0) cNil) (cCons (cOp2 gIx (cVar 7) (cOp1 gNeg (cC (.int 1)))) (cNil))))))) (sRet (cC (.bl false))) (sNext)) (sSeq (sFor (cIt (cLv (cCons (cOp2 gSub (cOp2 gIx (cVar 1) (cC (.int 0))) (cC (.int 2))) (cCons (cOp2 gSub (cOp2 gIx (cVar 1) (cC (.int 0))) (cC (.int 1))) (cCons (cOp2 gAdd (cVar 5) (cC (.int 1))) (cCons (cOp2 gAdd (cVar 5) (cC (.int 2))) (cCons (cC (.int 0)) (cCons (cOp1 gNeg (cC (.int 1))) (cCons (cOp2 gAdd (cVar 5) (cCall gLen (cCons (cVar 2) (cNil)))) (cNil)))))))))) (gNm 6) (sSeq (sIf (cAnd (cNot (cTest (cChain gLe gLe (cOp2 gIx (cVar 1) (cC (.int 0))) (cVar 6) (cVar 5)))) (cTest (cOp2 gNotN (cMethD "Row" "term_at" 2 d_Row_term_at (cVar 0) (cCons (cVar 6) (cNil))) (cC .non)))) (sRet (cC (.bl false))) (sNext)) (sIf (cAnd (cTest (cOp2 gGt (cVar 6) (cVar 5))) (cTest (cOp2 gNe (cMethD "Row" "behind" 2 d_Row_behind (cVar 0) (cCons (cVar 6) (cNil))) (cTup (cNil))))) (sRet (cC (.bl false))) (sNext)))) (sSeq (sFor (cRng1 (cCons (cCall gLen (cCons (cVar 7) (cNil))) (cNil))) (gNm 4) (sSeq (sAsg (cMethD "Row" "behind" 2 d_Row_behind (cVar 0) (cCons (cOp2 gAdd (cOp2 gIx (cVar 1) (cC (.int 0))) (cVar 4)) (cNil))) (gNm 3)) (sSeq (sIf (cNot (cTt (cCallD 2 d_law_whole (cCons (cMethD "Row" "term_at" 2 d_Row_term_at (cVar 0) (cCons (cOp2 gAdd (cOp2 gIx (cVar 1) (cC (.int 0))) (cVar 4)) (cNil))) (cCons (cOp2 gIx (cVar 7) (cVar 4)) (cNil)))))) (sRet (cC (.bl false))) (sNext)) (sSeq (sIf (cOr (cNot (cTt (cIsi "tuple" (cVar 3)))) (cTest (cOp2 gNe (cVar 3) (cSl gSlice (cVar 2) (cPart (cVar 4)) cNoPart)))) (sRet (cC (.bl false))) (sNext)) (sIf (cAnd (cTest (cOp2 gGt (cVar 4) (cC (.int 0)))) (cTest (cOp2 gNe (cMethD "Row" "entry_at" 2 d_Row_entry_at (cVar 0) (cCons (cOp2 gAdd (cOp2 gIx (cVar 1) (cC (.int 0))) (cVar 4)) (cNil))) (cOp2 gIx (cVar 2) (cOp2 gSub (cVar 4) (cC (.int 1))))))) (sRet (cC (.bl false))) (sNext)))))) (sRet (cC (.bl true))))))))
abbrev d_law_right_3 : CD := dBody 10 m_law_right_3
theorem u_law_right_3 (a0 a1 a2 : Cv) (h : CH) (q : Cv → CH → Prop) (e : XQ) : d_law_right_3 [a0, a1, a2] h q e = m_law_right_3 [some a0, some a1, some a2, none, none, none, none, none, none, none] h ⟨fun _ h1 => q .non h1, q, fun _ _ => False, fun _ _ => False, fun x _ h1 => e x h1⟩ := rfl
/-- law -/
def m_law_k18 : CS :=
  sSeq (sAsg (cCallD 1 d_law_stand (cCons (cCallD 2 d_law_cell_at (cCons (cVar 0) (cCons (cC (.int 0)) (cNil)))) (cNil))) (gNm 4)) (sSeq (sAsg (cCallD 2 d_law_entries (cCons (cSl gSlice (cVar 0) (cPart (cC (.int 1))) (cPart (cC (.int 61)))) (cCons (cOp2 gIx (cVar 4) (cC (.int 1))) (cNil)))) (gNm 2)) (sSeq (sAsg (cMakeV "Row" 3 d_Row___init__ (cCons (cVar 4) (cCons (cTup (cNil)) (cNil)))) (gNm 1)) (sSeq (sIf (cNot (cTt (cCallD 3 d_law_right_3 (cCons (cVar 1) (cCons (cVar 4) (cCons (cTup (cNil)) (cNil))))))) (sRet (cC (.bl false))) (sNext)) (sSeq (sAsg (cMakeV "Row" 3 d_Row___init__ (cCons (cVar 4) (cCons (cVar 2) (cNil)))) (gNm 3)) (sRet (cAndV (cCallD 3 d_law_right_3 (cCons (cVar 3) (cCons (cVar 4) (cCons (cVar 2) (cNil))))) (cCallD 3 d_law_right_3 (cCons (cVar 3) (cCons (cVar 4) (cCons (cVar 2) (cNil)))))))))))
abbrev d_law_k18 : CD := dBody 5 m_law_k18
theorem u_law_k18 (a0 : Cv) (h : CH) (q : Cv → CH → Prop) (e : XQ) : d_law_k18 [a0] h q e = m_law_k18 [some a0, none, none, none, none] h ⟨fun _ h1 => q .non h1, q, fun _ _ => False, fun _ _ => False, fun x _ h1 => e x h1⟩ := rfl
end Lw
end
section
namespace Lw
open PySem L2 Co
/-- _law_benches -/
def m_law_benches : CS :=
  sSeq (sAsg (cLst (cCons (cOp2 gIx (cVar 0) (cC (.int 2))) (cNil))) (gNm 3)) (sSeq (sFor (cIt (cVar 1)) (gTp 2 (gsCons (gNm 4) (gsCons (gNm 2) (gsNil)))) (sIf (cTest (cOp2 gEq (cOp2 gIx (cVar 2) (cC (.int 0))) (cC (.str (PySem.Str.ofString "bench"))))) (sExpr (cLM gAppend (cVar 3) (cCons (cOp2 gIx (cVar 2) (cC (.int 1))) (cNil)))) (sExpr (cLM gAppend (cVar 3) (cCons (cOp2 gIx (cVar 3) (cOp1 gNeg (cC (.int 1)))) (cNil)))))) (sRetF (cVar 3)))
abbrev d_law_benches : CD := dBody 5 m_law_benches
theorem u_law_benches (a0 a1 : Cv) (h : CH) (q : Cv → CH → Prop) (e : XQ) : d_law_benches [a0, a1] h q e = m_law_benches [some a0, some a1, none, none, none] h ⟨fun _ h1 => q .non h1, q, fun _ _ => False, fun _ _ => False, fun x _ h1 => e x h1⟩ := rfl
/-- Row.bench_at -/
def m_Row_bench_at : CS :=
  sSeq (sAsg (cOp2 gIx (cFld "Row" "stand" (cVar 0)) (cC (.int 2))) (gNm 3)) (sSeq (sFor (cIt (cSl gSlice (cFld "Row" "entries" (cVar 0)) cNoPart (cPart (cOp2 gSub (cVar 1) (cOp2 gIx (cFld "Row" "stand" (cVar 0)) (cC (.int 0))))))) (gTp 2 (gsCons (gNm 4) (gsCons (gNm 2) (gsNil)))) (sIf (cTest (cOp2 gEq (cOp2 gIx (cVar 2) (cC (.int 0))) (cC (.str (PySem.Str.ofString "bench"))))) (sAsg (cOp2 gIx (cVar 2) (cC (.int 1))) (gNm 3)) (sNext))) (sRet (cVar 3)))
abbrev d_Row_bench_at : CD := dBody 5 m_Row_bench_at
theorem u_Row_bench_at (a0 a1 : Cv) (h : CH) (q : Cv → CH → Prop) (e : XQ) : d_Row_bench_at [a0, a1] h q e = m_Row_bench_at [some a0, some a1, none, none, none] h ⟨fun _ h1 => q .non h1, q, fun _ _ => False, fun _ _ => False, fun x _ h1 => e x h1⟩ := rfl
/-- Row.bench -/
def m_Row_bench : CS :=
  sRet (cMethD "Row" "bench_at" 2 d_Row_bench_at (cVar 0) (cCons (cMethD "Row" "last_place" 1 d_Row_last_place (cVar 0) cNil) (cNil)))
abbrev d_Row_bench : CD := dBody 1 m_Row_bench
theorem u_Row_bench (a0 : Cv) (h : CH) (q : Cv → CH → Prop) (e : XQ) : d_Row_bench [a0] h q e = m_Row_bench [some a0] h ⟨fun _ h1 => q .non h1, q, fun _ _ => False, fun _ _ => False, fun x _ h1 => e x h1⟩ := rfl
/-- _law_right -/
def m_law_right_4 : CS :=
  sSeq (sAsg (cCallD 2 d_law_benches (cCons (cVar 1) (cCons (cVar 2) (cNil)))) (gNm 3)) (sSeq (sFor (cRng1 (cCons (cCall gLen (cCons (cVar 3) (cNil))) (cNil))) (gNm 4) (sIf (cTest (cOp2 gNe (cMethD "Row" "bench_at" 2 d_Row_bench_at (cVar 0) (cCons (cOp2 gAdd (cOp2 gIx (cVar 1) (cC (.int 0))) (cVar 4)) (cNil))) (cOp2 gIx (cVar 3) (cVar 4)))) (sRet (cC (.bl false))) (sNext))) (sRet (cAndV (cOp2 gEq (cMethD "Row" "bench" 1 d_Row_bench (cVar 0) cNil) (cOp2 gIx (cVar 3) (cOp1 gNeg (cC (.int 1))))) (cAndV (cOp2 gEq (cFld "Row" "stand" (cVar 0)) (cVar 1)) (cOp2 gEq (cFld "Row" "entries" (cVar 0)) (cVar 2))))))
abbrev d_law_right_4 : CD := dBody 5 m_law_right_4
theorem u_law_right_4 (a0 a1 a2 : Cv) (h : CH) (q : Cv → CH → Prop) (e : XQ) : d_law_right_4 [a0, a1, a2] h q e = m_law_right_4 [some a0, some a1, some a2, none, none] h ⟨fun _ h1 => q .non h1, q, fun _ _ => False, fun _ _ => False, fun x _ h1 => e x h1⟩ := rfl
/-- Row.with_entry -/
def m_Row_with_entry : CS :=
  sRet (cMakeV "Row" 3 d_Row___init__ (cCons (cFld "Row" "stand" (cVar 0)) (cCons (cOp2 gAdd (cFld "Row" "entries" (cVar 0)) (cTup (cCons (cVar 1) (cNil)))) (cNil))))
abbrev d_Row_with_entry : CD := dBody 2 m_Row_with_entry
theorem u_Row_with_entry (a0 a1 : Cv) (h : CH) (q : Cv → CH → Prop) (e : XQ) : d_Row_with_entry [a0, a1] h q e = m_Row_with_entry [some a0, some a1] h ⟨fun _ h1 => q .non h1, q, fun _ _ => False, fun _ _ => False, fun x _ h1 => e x h1⟩ := rfl
/-- law -/
def m_law_k19 : CS :=
  sSeq (sAsg (cCallD 1 d_law_stand (cCons (cCallD 2 d_law_cell_at (cCons (cVar 0) (cCons (cC (.int 0)) (cNil)))) (cNil))) (gNm 8)) (sSeq (sAsg (cCallD 2 d_law_entries (cCons (cSl gSlice (cVar 0) (cPart (cC (.int 1))) (cPart (cC (.int 61)))) (cCons (cOp2 gIx (cVar 8) (cC (.int 1))) (cNil)))) (gNm 2)) (sSeq (sAsg (cMakeV "Row" 3 d_Row___init__ (cCons (cVar 8) (cCons (cVar 2) (cNil)))) (gNm 7)) (sSeq (sIf (cNot (cTt (cCallD 3 d_law_right_4 (cCons (cVar 7) (cCons (cVar 8) (cCons (cVar 2) (cNil))))))) (sRet (cC (.bl false))) (sNext)) (sSeq (sAsg (cVar 7) (gNm 5)) (sSeq (sFor (cRng1 (cCons (cCall gMin2 (cCons (cC (.int 8)) (cCons (cCall gLen (cCons (cVar 2) (cNil))) (cNil)))) (cNil))) (gNm 3) (sSeq (sAsg (cOp2 gIx (cVar 2) (cOp2 gSub (cOp2 gSub (cCall gLen (cCons (cVar 2) (cNil))) (cC (.int 1))) (cVar 3))) (gNm 6)) (sSeq (sAsg (cVar 5) (gNm 1)) (sSeq (sAsg (cFld "Row" "entries" (cVar 5)) (gNm 4)) (sSeq (sAsg (cMethD "Row" "with_entry" 2 d_Row_with_entry (cVar 5) (cCons (cVar 6) (cNil))) (gNm 5)) (sIf (cOr (cTest (cOp2 gNe (cFld "Row" "entries" (cVar 5)) (cOp2 gAdd (cVar 4) (cTup (cCons (cVar 6) (cNil)))))) (cOr (cTest (cOp2 gNe (cFld "Row" "stand" (cVar 5)) (cVar 8))) (cTest (cOp2 gNe (cFld "Row" "entries" (cVar 1)) (cVar 4))))) (sRet (cC (.bl false))) (sNext))))))) (sRet (cAndV (cCallD 3 d_law_right_4 (cCons (cVar 5) (cCons (cVar 8) (cCons (cFld "Row" "entries" (cVar 5)) (cNil))))) (cCallD 3 d_law_right_4 (cCons (cVar 7) (cCons (cVar 8) (cCons (cVar 2) (cNil))))))))))))
abbrev d_law_k19 : CD := dBody 9 m_law_k19
theorem u_law_k19 (a0 : Cv) (h : CH) (q : Cv → CH → Prop) (e : XQ) : d_law_k19 [a0] h q e = m_law_k19 [some a0, none, none, none, none, none, none, none, none] h ⟨fun _ h1 => q .non h1, q, fun _ _ => False, fun _ _ => False, fun x _ h1 => e x h1⟩ := rfl
end Lw
end
section
/-! Core26: t < u of tuples of ints. -/
namespace Co
open PySem PySem.Spec PyProof.Rows L2
section
variable {X : Cx} {cm : String → Addr} {W : WX} {K : PySem.W.Frag} {H : Hp} {h : Wh} {e : Expr} {ca : CT} {pos p : Pos}
theorem relCs_ints : ∀ {ns : List Int} {Vs : List V}, RelCs K cm H h (ns.map .int) Vs → Vs = ns.map V.int
  | [], _, r => by cases r; rfl
  | n :: ns, _, r => by
    cases r with
    | cons a t => cases a; rw [relCs_ints t]; rfl
def gLtT : CG := fun x y h q => match x, y with
  | .tup xs, .tup ys => ∃ ns ms : List Int, xs = ns.map .int ∧ ys = ms.map .int ∧ q (.bl (HT.lexLt ns ms)) h
  | _, _ => False
theorem oc_ltT : OpC K cm (rLtT K) gLtT := fun H h x y V U q Q S r1 r2 c k => by
  cases r1 <;> first | exact c.elim | skip
  next e1 d1 s1 =>
  cases r2 <;> first | exact c.elim | skip
  next e2 d2 s2 =>
  obtain ⟨ns, ms, rfl, rfl, c⟩ := c
  obtain rfl := relCs_ints s1
  obtain rfl := relCs_ints s2
  exact ⟨_, _, ns, ms, rfl, rfl, e1, e2, k _ _ _ _ .refl S (.bl _) c⟩
theorem g_ltT {a b c d : Int} {h : CH} {q : Cv → CH → Prop} (k : q (.bl (if a = c then decide (b < d) else decide (a < c))) h) : gLtT (.tup [.int a, .int b]) (.tup [.int c, .int d]) h q := by
  refine ⟨[a, b], [c, d], rfl, rfl, ?_⟩
  rw [show HT.lexLt [a, b] [c, d] = (if a = c then decide (b < d) else decide (a < c)) from ?_]
  · exact k
  · rw [HT.lexLt_cons, HT.lexLt_cons, HT.lexLt_nil_nil]
    by_cases z : a = c
    · rw [if_pos z, if_pos z]
      by_cases y : b = d
      · rw [if_pos y]; exact (decide_eq_false (by omega)).symm
      · rw [if_neg y]
    · rw [if_neg z, if_neg z]
end
end Co
end
section
namespace Lw
open PySem L2 Co
/-- _law_last -/
def m_law_last : CS :=
  sSeq (sAsg (cOp2 gIx (cFld "Row" "stand" (cVar 0)) (cC (.int 1))) (gNm 1)) (sSeq (sIf (cTest (cOp2 gNe (cFld "Row" "entries" (cVar 0)) (cTup (cNil)))) (sAsg (cOp2 gIx (cOp2 gIx (cFld "Row" "entries" (cVar 0)) (cOp1 gNeg (cC (.int 1)))) (cC (.int 0))) (gNm 1)) (sNext)) (sRet (cTup (cCons (cVar 1) (cCons (cOp2 gAdd (cOp2 gIx (cFld "Row" "stand" (cVar 0)) (cC (.int 0))) (cCall gLen (cCons (cFld "Row" "entries" (cVar 0)) (cNil)))) (cNil))))))
abbrev d_law_last : CD := dBody 2 m_law_last
theorem u_law_last (a0 : Cv) (h : CH) (q : Cv → CH → Prop) (e : XQ) : d_law_last [a0] h q e = m_law_last [some a0, none] h ⟨fun _ h1 => q .non h1, q, fun _ _ => False, fun _ _ => False, fun x _ h1 => e x h1⟩ := rfl
/-- Row.is_behind -/
def m_Row_is_behind : CS :=
  sRet (cOp2 gLtT (cTup (cCons (cMethD "Row" "last_term" 1 d_Row_last_term (cVar 0) cNil) (cCons (cMethD "Row" "last_place" 1 d_Row_last_place (cVar 0) cNil) (cNil)))) (cTup (cCons (cVar 2) (cCons (cVar 1) (cNil)))))
abbrev d_Row_is_behind : CD := dBody 3 m_Row_is_behind
theorem u_Row_is_behind (a0 a1 a2 : Cv) (h : CH) (q : Cv → CH → Prop) (e : XQ) : d_Row_is_behind [a0, a1, a2] h q e = m_Row_is_behind [some a0, some a1, some a2] h ⟨fun _ h1 => q .non h1, q, fun _ _ => False, fun _ _ => False, fun x _ h1 => e x h1⟩ := rfl
/-- _law_behind -/
def m_law_behind_2 : CS :=
  sSeq (sAsgT (cCallD 1 d_law_last (cCons (cVar 1) (cNil))) (gTp 2 (gsCons (gNm 3) (gsCons (gNm 2) (gsNil))))) (sRet (cMethD "Row" "is_behind" 3 d_Row_is_behind (cVar 0) (cCons (cVar 2) (cCons (cVar 3) (cNil)))))
abbrev d_law_behind_2 : CD := dBody 4 m_law_behind_2
theorem u_law_behind_2 (a0 a1 : Cv) (h : CH) (q : Cv → CH → Prop) (e : XQ) : d_law_behind_2 [a0, a1] h q e = m_law_behind_2 [some a0, some a1, none, none] h ⟨fun _ h1 => q .non h1, q, fun _ _ => False, fun _ _ => False, fun x _ h1 => e x h1⟩ := rfl
/-- _law_told -/
def m_law_told : CS :=
  sSeq (sAsg (cMethD "Row" "is_behind" 3 d_Row_is_behind (cVar 0) (cCons (cVar 1) (cCons (cVar 2) (cNil)))) (gNm 4)) (sSeq (sAsg (cOrV (cOp2 gLt (cOp2 gIx (cCallD 1 d_law_last (cCons (cVar 0) (cNil))) (cC (.int 0))) (cVar 2)) (cAndV (cOp2 gEq (cOp2 gIx (cCallD 1 d_law_last (cCons (cVar 0) (cNil))) (cC (.int 0))) (cVar 2)) (cOp2 gLt (cOp2 gIx (cCallD 1 d_law_last (cCons (cVar 0) (cNil))) (cC (.int 1))) (cVar 1)))) (gNm 3)) (sRet (cAndV (cIsi "bool" (cVar 4)) (cOp2 gEq (cVar 4) (cVar 3)))))
abbrev d_law_told : CD := dBody 5 m_law_told
theorem u_law_told (a0 a1 a2 : Cv) (h : CH) (q : Cv → CH → Prop) (e : XQ) : d_law_told [a0, a1, a2] h q e = m_law_told [some a0, some a1, some a2, none, none] h ⟨fun _ h1 => q .non h1, q, fun _ _ => False, fun _ _ => False, fun x _ h1 => e x h1⟩ := rfl
/-- law -/
def m_law_k20 : CS :=
  sSeq (sAsg (cLst (cNil)) (gNm 7)) (sSeq (sFor (cRng1 (cCons (cC (.int 3)) (cNil))) (gNm 1) (sSeq (sAsg (cCallD 1 d_law_stand (cCons (cCallD 2 d_law_cell_at (cCons (cVar 0) (cCons (cVar 1) (cNil)))) (cNil))) (gNm 8)) (sExpr (cLM gAppend (cVar 7) (cCons (cMakeV "Row" 3 d_Row___init__ (cCons (cVar 8) (cCons (cCallD 2 d_law_entries (cCons (cSl (gStp 3) (cVar 0) (cPart (cOp2 gAdd (cC (.int 3)) (cVar 1))) (cPart (cC (.int 63)))) (cCons (cOp2 gIx (cVar 8) (cC (.int 1))) (cNil)))) (cNil)))) (cNil)))))) (sSeq (sFor (cIt (cVar 7)) (gNm 6) (sSeq (sFor (cIt (cVar 7)) (gNm 4) (sSeq (sAsgT (cCallD 1 d_law_last (cCons (cVar 4) (cNil))) (gTp 2 (gsCons (gNm 10) (gsCons (gNm 5) (gsNil))))) (sSeq (sFor (cIt (cLv (cCons (cOp1 gNeg (cC (.int 1))) (cCons (cC (.int 0)) (cCons (cC (.int 1)) (cNil)))))) (gNm 2) (sFor (cIt (cLv (cCons (cOp1 gNeg (cC (.int 1))) (cCons (cC (.int 0)) (cCons (cC (.int 1)) (cCons (cOp2 gMod (cCallD 2 d_law_cell_at (cCons (cVar 0) (cCons (cC (.int 0)) (cNil)))) (cOp2 gPow (cC (.int 10)) (cC (.int 50)))) (cNil))))))) (gNm 9) (sIf (cAnd (cTest (cOp2 gGt (cOp2 gAdd (cVar 5) (cVar 2)) (cC (.int 0)))) (cAnd (cTest (cOp2 gGt (cOp2 gAdd (cVar 10) (cVar 9)) (cC (.int 0)))) (cNot (cTt (cCallD 3 d_law_told (cCons (cVar 6) (cCons (cOp2 gAdd (cVar 5) (cVar 2)) (cCons (cOp2 gAdd (cVar 10) (cVar 9)) (cNil))))))))) (sRet (cC (.bl false))) (sNext)))) (sSeq (sIf (cNot (cTt (cCallD 3 d_law_told (cCons (cVar 6) (cCons (cVar 5) (cCons (cVar 10) (cNil))))))) (sRet (cC (.bl false))) (sNext)) (sIf (cAnd (cTt (cCallD 2 d_law_behind_2 (cCons (cVar 6) (cCons (cVar 4) (cNil))))) (cTt (cCallD 2 d_law_behind_2 (cCons (cVar 4) (cCons (cVar 6) (cNil)))))) (sRet (cC (.bl false))) (sNext)))))) (sIf (cTt (cCallD 2 d_law_behind_2 (cCons (cVar 6) (cCons (cVar 6) (cNil))))) (sRet (cC (.bl false))) (sNext)))) (sSeq (sFor (cIt (cVar 7)) (gNm 3) (sFor (cIt (cVar 7)) (gNm 4) (sFor (cIt (cVar 7)) (gNm 11) (sIf (cAnd (cTt (cCallD 2 d_law_behind_2 (cCons (cVar 3) (cCons (cVar 4) (cNil))))) (cAnd (cTt (cCallD 2 d_law_behind_2 (cCons (cVar 4) (cCons (cVar 11) (cNil))))) (cNot (cTt (cCallD 2 d_law_behind_2 (cCons (cVar 3) (cCons (cVar 11) (cNil)))))))) (sRet (cC (.bl false))) (sNext))))) (sRet (cC (.bl true))))))
abbrev d_law_k20 : CD := dBody 12 m_law_k20
theorem u_law_k20 (a0 : Cv) (h : CH) (q : Cv → CH → Prop) (e : XQ) : d_law_k20 [a0] h q e = m_law_k20 [some a0, none, none, none, none, none, none, none, none, none, none, none] h ⟨fun _ h1 => q .non h1, q, fun _ _ => False, fun _ _ => False, fun x _ h1 => e x h1⟩ := rfl
end Lw
end
section
namespace Lw
open PySem L2 Co
/-- _law_term -/
def m_law_term : CS :=
  sSeq (sIf (cTest (cOp2 gEq (cVar 2) (cOp2 gIx (cVar 0) (cC (.int 0))))) (sRet (cOp2 gIx (cVar 0) (cC (.int 1)))) (sNext)) (sSeq (sIf (cTest (cChain gLt gLe (cOp2 gIx (cVar 0) (cC (.int 0))) (cVar 2) (cOp2 gAdd (cOp2 gIx (cVar 0) (cC (.int 0))) (cCall gLen (cCons (cVar 1) (cNil)))))) (sRet (cOp2 gIx (cOp2 gIx (cVar 1) (cOp2 gSub (cOp2 gSub (cVar 2) (cOp2 gIx (cVar 0) (cC (.int 0)))) (cC (.int 1)))) (cC (.int 0)))) (sNext)) (sRet (cC .non)))
abbrev d_law_term : CD := dBody 3 m_law_term
theorem u_law_term (a0 a1 a2 : Cv) (h : CH) (q : Cv → CH → Prop) (e : XQ) : d_law_term [a0, a1, a2] h q e = m_law_term [some a0, some a1, some a2] h ⟨fun _ h1 => q .non h1, q, fun _ _ => False, fun _ _ => False, fun x _ h1 => e x h1⟩ := rfl
/-- _law_filled -/
def m_law_filled : CS :=
  sSeq (sIf (cAnd (cTest (cOp2 gGe (cVar 2) (cOp2 gIx (cVar 0) (cC (.int 0))))) (cTest (cOp2 gNe (cCallD 3 d_law_term (cCons (cVar 0) (cCons (cVar 1) (cCons (cVar 2) (cNil))))) (cVar 3)))) (sRet (cC .non)) (sNext)) (sSeq (sAsg (cCall gList (cCons (cVar 1) (cNil))) (gNm 6)) (sSeq (sAsg (cVar 2) (gNm 7)) (sSeq (sFor (cRng1 (cCons (cCall gLen (cCons (cVar 4) (cNil))) (cNil))) (gNm 5) (sSeq (sAsg (cOp2 gAdd (cVar 7) (cC (.int 1))) (gNm 7)) (sIf (cAnd (cTest (cOp2 gGt (cVar 7) (cOp2 gIx (cVar 0) (cC (.int 0))))) (cTest (cOp2 gNe (cCallD 3 d_law_term (cCons (cVar 0) (cCons (cVar 6) (cCons (cVar 7) (cNil))))) (cOp2 gIx (cOp2 gIx (cVar 4) (cVar 5)) (cC (.int 0)))))) (sRet (cOp2 gAdd (cCall gTuple (cCons (cSl gSlice (cVar 6) cNoPart (cPart (cOp2 gSub (cOp2 gSub (cVar 7) (cOp2 gIx (cVar 0) (cC (.int 0)))) (cC (.int 1))))) (cNil))) (cCall gTuple (cCons (cSl gSlice (cVar 4) (cPart (cVar 5)) cNoPart) (cNil))))) (sNext)))) (sRet (cVar 1)))))
abbrev d_law_filled : CD := dBody 8 m_law_filled
theorem u_law_filled (a0 a1 a2 a3 a4 : Cv) (h : CH) (q : Cv → CH → Prop) (e : XQ) : d_law_filled [a0, a1, a2, a3, a4] h q e = m_law_filled [some a0, some a1, some a2, some a3, some a4, none, none, none] h ⟨fun _ h1 => q .non h1, q, fun _ _ => False, fun _ _ => False, fun x _ h1 => e x h1⟩ := rfl
/-- Row.filled -/
def m_Row_filled : CS :=
  sSeq (sIf (cAnd (cTest (cOp2 gGe (cVar 1) (cOp2 gIx (cFld "Row" "stand" (cVar 0)) (cC (.int 0))))) (cTest (cOp2 gNe (cMethD "Row" "term_at" 2 d_Row_term_at (cVar 0) (cCons (cVar 1) (cNil))) (cVar 2)))) (sRet (cC .non)) (sNext)) (sSeq (sFor (cEnum (cCons (cVar 3) (cNil))) (gTp 2 (gsCons (gNm 5) (gsCons (gNm 4) (gsNil)))) (sSeq (sAsg (cOp2 gAdd (cOp2 gAdd (cVar 1) (cVar 5)) (cC (.int 1))) (gNm 6)) (sIf (cAnd (cTest (cOp2 gGt (cVar 6) (cOp2 gIx (cFld "Row" "stand" (cVar 0)) (cC (.int 0))))) (cTest (cOp2 gNe (cMethD "Row" "term_at" 2 d_Row_term_at (cVar 0) (cCons (cVar 6) (cNil))) (cOp2 gIx (cVar 4) (cC (.int 0)))))) (sRet (cMakeV "Row" 3 d_Row___init__ (cCons (cFld "Row" "stand" (cVar 0)) (cCons (cOp2 gAdd (cSl gSlice (cFld "Row" "entries" (cVar 0)) cNoPart (cPart (cOp2 gSub (cOp2 gSub (cVar 6) (cOp2 gIx (cFld "Row" "stand" (cVar 0)) (cC (.int 0)))) (cC (.int 1))))) (cSl gSlice (cVar 3) (cPart (cVar 5)) cNoPart)) (cNil))))) (sNext)))) (sRet (cVar 0)))
abbrev d_Row_filled : CD := dBody 7 m_Row_filled
theorem u_Row_filled (a0 a1 a2 a3 : Cv) (h : CH) (q : Cv → CH → Prop) (e : XQ) : d_Row_filled [a0, a1, a2, a3] h q e = m_Row_filled [some a0, some a1, some a2, some a3, none, none, none] h ⟨fun _ h1 => q .non h1, q, fun _ _ => False, fun _ _ => False, fun x _ h1 => e x h1⟩ := rfl
/-- _law_last_bench -/
def m_law_last_bench : CS :=
  sSeq (sAsg (cOp2 gIx (cVar 0) (cC (.int 2))) (gNm 2)) (sSeq (sFor (cIt (cVar 1)) (gTp 2 (gsCons (gNm 4) (gsCons (gNm 3) (gsNil)))) (sIf (cTest (cOp2 gEq (cOp2 gIx (cVar 3) (cC (.int 0))) (cC (.str (PySem.Str.ofString "bench"))))) (sAsg (cOp2 gIx (cVar 3) (cC (.int 1))) (gNm 2)) (sNext))) (sRet (cVar 2)))
abbrev d_law_last_bench : CD := dBody 5 m_law_last_bench
theorem u_law_last_bench (a0 a1 : Cv) (h : CH) (q : Cv → CH → Prop) (e : XQ) : d_law_last_bench [a0, a1] h q e = m_law_last_bench [some a0, some a1, none, none, none] h ⟨fun _ h1 => q .non h1, q, fun _ _ => False, fun _ _ => False, fun x _ h1 => e x h1⟩ := rfl
/-- _law_right -/
def m_law_right_7 : CS :=
  sSeq (sAsg (cCallD 5 d_law_filled (cCons (cVar 1) (cCons (cVar 2) (cCons (cOp2 gIx (cVar 3) (cC (.int 0))) (cCons (cOp2 gIx (cVar 3) (cC (.int 1))) (cCons (cOp2 gIx (cVar 3) (cC (.int 2))) (cNil))))))) (gNm 4)) (sSeq (sAsg (cMethD "Row" "filled" 4 d_Row_filled (cVar 0) (cCons (cOp2 gIx (cVar 3) (cC (.int 0))) (cCons (cOp2 gIx (cVar 3) (cC (.int 1))) (cCons (cOp2 gIx (cVar 3) (cC (.int 2))) (cNil))))) (gNm 5)) (sSeq (sIf (cOr (cTest (cOp2 gNe (cFld "Row" "stand" (cVar 0)) (cVar 1))) (cOr (cTest (cOp2 gNe (cFld "Row" "entries" (cVar 0)) (cVar 2))) (cTest (cOp2 gNe (cMethD "Row" "bench" 1 d_Row_bench (cVar 0) cNil) (cCallD 2 d_law_last_bench (cCons (cVar 1) (cCons (cVar 2) (cNil)))))))) (sRet (cC (.bl false))) (sNext)) (sSeq (sIf (cTest (cOp2 gIsN (cVar 4) (cC .non))) (sRet (cOp2 gIsN (cVar 5) (cC .non))) (sNext)) (sSeq (sIf (cOr (cNot (cTt (cIsO [((true, "Row"), true), ((false, "NoneType"), false), ((false, "bool"), false), ((false, "int"), false), ((false, "str"), false), ((false, "tuple"), false), ((false, "list"), false), ((false, "dict"), false)] (cVar 5)))) (cOr (cTest (cOp2 gNe (cFld "Row" "stand" (cVar 5)) (cVar 1))) (cNot (cTt (cIsi "tuple" (cFld "Row" "entries" (cVar 5))))))) (sRet (cC (.bl false))) (sNext)) (sRet (cAndV (cOp2 gEq (cFld "Row" "entries" (cVar 5)) (cVar 4)) (cOp2 gEq (cMethD "Row" "bench" 1 d_Row_bench (cVar 5) cNil) (cCallD 2 d_law_last_bench (cCons (cVar 1) (cCons (cVar 4) (cNil)))))))))))
abbrev d_law_right_7 : CD := dBody 6 m_law_right_7
theorem u_law_right_7 (a0 a1 a2 a3 : Cv) (h : CH) (q : Cv → CH → Prop) (e : XQ) : d_law_right_7 [a0, a1, a2, a3] h q e = m_law_right_7 [some a0, some a1, some a2, some a3, none, none] h ⟨fun _ h1 => q .non h1, q, fun _ _ => False, fun _ _ => False, fun x _ h1 => e x h1⟩ := rfl
/-- _law_filling -/
def m_law_filling : CS :=
  sSeq (sAsg (cCallD 2 d_law_bits (cCons (cVar 0) (cCons (cOp2 gAdd (cC (.int 100)) (cVar 1)) (cNil)))) (gNm 5)) (sSeq (sAsg (cOp2 gAdd (cOp2 gIx (cVar 2) (cC (.int 0))) (cCall gLen (cCons (cVar 3) (cNil)))) (gNm 7)) (sSeq (sAsg (cCall gMax2 (cCons (cC (.int 0)) (cCons (cOp2 gAdd (cOp2 gSub (cOp2 gIx (cVar 2) (cC (.int 0))) (cC (.int 3))) (cCallD 2 d_law_take_2 (cCons (cVar 5) (cCons (cOp2 gAdd (cCall gLen (cCons (cVar 3) (cNil))) (cC (.int 6))) (cNil))))) (cNil)))) (gNm 4)) (sSeq (sAsg (cCallD 3 d_law_term (cCons (cVar 2) (cCons (cVar 3) (cCons (cVar 4) (cNil))))) (gNm 11)) (sSeq (sIf (cOr (cTest (cOp2 gIsN (cVar 11) (cC .non))) (cTest (cOp2 gEq (cCallD 2 d_law_take_2 (cCons (cVar 5) (cCons (cC (.int 5)) (cNil)))) (cC (.int 0))))) (sAsg (cCallD 2 d_law_take_2 (cCons (cVar 5) (cCons (cC (.int 6)) (cNil)))) (gNm 11)) (sNext)) (sSeq (sAsg (cSl gSlice (cVar 3) (cPart (cCall gMax2 (cCons (cC (.int 0)) (cCons (cOp2 gSub (cVar 4) (cOp2 gIx (cVar 2) (cC (.int 0)))) (cNil))))) cNoPart) (gNm 9)) (sSeq (sAsg (cIfE (cTest (cOp2 gEq (cCallD 2 d_law_take_2 (cCons (cVar 5) (cCons (cC (.int 2)) (cNil)))) (cC (.int 0)))) (cSl gSlice (cVar 9) cNoPart (cPart (cCallD 2 d_law_take_2 (cCons (cVar 5) (cCons (cOp2 gAdd (cCall gLen (cCons (cVar 9) (cNil))) (cC (.int 1))) (cNil)))))) (cVar 9)) (gNm 9)) (sSeq (sIf (cTest (cOp2 gLt (cVar 4) (cOp2 gIx (cVar 2) (cC (.int 0))))) (sAsg (cOp2 gAdd (cCall gTuple (cCons (cLc [6] (cRng1 (cCons (cOp2 gSub (cOp2 gIx (cVar 2) (cC (.int 0))) (cVar 4)) (cNil))) (gNm 6) (cYes) (cTup (cCons (cOp2 gAdd (cC (.int 1)) (cCallD 2 d_law_take_2 (cCons (cVar 5) (cCons (cC (.int 3)) (cNil))))) (cCons (cTup (cCons (cC (.str (PySem.Str.ofString "first"))) (cNil))) (cNil))))) (cNil))) (cVar 9)) (gNm 9)) (sNext)) (sSeq (sIf (cTest (cOp2 gGt (cVar 4) (cVar 7))) (sAsg (cTup (cNil)) (gNm 9)) (sNext)) (sSeq (sAsg (cC (.int 0)) (gNm 10)) (sSeq (sIf (cTest (cOp2 gNe (cVar 9) (cTup (cNil)))) (sAsg (cOp2 gIx (cOp2 gIx (cVar 9) (cOp1 gNeg (cC (.int 1)))) (cC (.int 0))) (gNm 10)) (sNext)) (sSeq (sAsg (cLst (cNil)) (gNm 8)) (sSeq (sFor (cRng1 (cCons (cCallD 2 d_law_take_2 (cCons (cVar 5) (cCons (cC (.int 4)) (cNil)))) (cNil))) (gNm 6) (sSeq (sAsg (cOp2 gAdd (cVar 10) (cCallD 2 d_law_take_2 (cCons (cVar 5) (cCons (cC (.int 3)) (cNil))))) (gNm 10)) (sExpr (cLM gAppend (cVar 8) (cCons (cTup (cCons (cCall gMax2 (cCons (cC (.int 1)) (cCons (cVar 10) (cNil)))) (cCons (cCallD 1 d_law_deed (cCons (cVar 5) (cNil))) (cNil)))) (cNil)))))) (sRet (cTup (cCons (cVar 4) (cCons (cVar 11) (cCons (cOp2 gAdd (cVar 9) (cCall gTuple (cCons (cVar 8) (cNil)))) (cNil))))))))))))))))))
abbrev d_law_filling : CD := dBody 12 m_law_filling
theorem u_law_filling (a0 a1 a2 a3 : Cv) (h : CH) (q : Cv → CH → Prop) (e : XQ) : d_law_filling [a0, a1, a2, a3] h q e = m_law_filling [some a0, some a1, some a2, some a3, none, none, none, none, none, none, none, none] h ⟨fun _ h1 => q .non h1, q, fun _ _ => False, fun _ _ => False, fun x _ h1 => e x h1⟩ := rfl
/-- law -/
def m_law_k21 : CS :=
  sSeq (sAsg (cCallD 1 d_law_stand (cCons (cCallD 2 d_law_cell_at (cCons (cVar 0) (cCons (cC (.int 0)) (cNil)))) (cNil))) (gNm 5)) (sSeq (sAsg (cCallD 2 d_law_entries (cCons (cSl gSlice (cVar 0) (cPart (cC (.int 1))) (cPart (cC (.int 21)))) (cCons (cOp2 gIx (cVar 5) (cC (.int 1))) (cNil)))) (gNm 2)) (sSeq (sAsg (cMakeV "Row" 3 d_Row___init__ (cCons (cVar 5) (cCons (cVar 2) (cNil)))) (gNm 4)) (sSeq (sFor (cEnum (cCons (cOp2 gAdd (cLv (cCons (cC (.int 0)) (cCons (cC (.int 1)) (cNil)))) (cSl gSlice (cVar 0) (cPart (cC (.int 21))) (cPart (cC (.int 61))))) (cNil))) (gTp 2 (gsCons (gNm 3) (gsCons (gNm 1) (gsNil)))) (sIf (cNot (cTt (cCallD 4 d_law_right_7 (cCons (cVar 4) (cCons (cVar 5) (cCons (cVar 2) (cCons (cCallD 4 d_law_filling (cCons (cVar 1) (cCons (cVar 3) (cCons (cVar 5) (cCons (cVar 2) (cNil)))))) (cNil)))))))) (sRet (cC (.bl false))) (sNext))) (sRet (cC (.bl true))))))
abbrev d_law_k21 : CD := dBody 6 m_law_k21
theorem u_law_k21 (a0 : Cv) (h : CH) (q : Cv → CH → Prop) (e : XQ) : d_law_k21 [a0] h q e = m_law_k21 [some a0, none, none, none, none, none] h ⟨fun _ h1 => q .non h1, q, fun _ _ => False, fun _ _ => False, fun x _ h1 => e x h1⟩ := rfl
end Lw
end
section
namespace Lw
open PySem L2 Co
/-- _law_table_at -/
def m_law_table_at : CS :=
  sSeq (sAsg (cMakeD "Table" 3 d_Table___init__ (cCons (cOp2 gIx (cVar 0) (cC (.int 3))) (cCons (cOp2 gIx (cVar 0) (cC (.int 4))) (cNil)))) (gNm 4)) (sSeq (sFor (cIt (cSl gSlice (cVar 1) cNoPart (cPart (cOp2 gSub (cVar 2) (cOp2 gIx (cVar 0) (cC (.int 0))))))) (gTp 2 (gsCons (gNm 5) (gsCons (gNm 3) (gsNil)))) (sIf (cTest (cOp2 gEq (cOp2 gIx (cVar 3) (cC (.int 0))) (cC (.str (PySem.Str.ofString "ask"))))) (sExpr (cMethD "Table" "does" 4 d_Table_does (cVar 4) (cCons (cOp2 gIx (cVar 3) (cC (.int 1))) (cCons (cOp2 gIx (cVar 3) (cC (.int 2))) (cCons (cOp2 gIx (cVar 3) (cC (.int 3))) (cNil)))))) (sNext))) (sRet (cVar 4)))
abbrev d_law_table_at : CD := dBody 6 m_law_table_at
theorem u_law_table_at (a0 a1 a2 : Cv) (h : CH) (q : Cv → CH → Prop) (e : XQ) : d_law_table_at [a0, a1, a2] h q e = m_law_table_at [some a0, some a1, some a2, none, none, none] h ⟨fun _ h1 => q .non h1, q, fun _ _ => False, fun _ _ => False, fun x _ h1 => e x h1⟩ := rfl
/-- Table.told -/
def m_Table_told : CS :=
  sSeq (sAsg (cLc [2] (cIt (cCall gSortedD (cCons (cFld "Table" "asked" (cVar 0)) (cNil)))) (gNm 2) (cYes) (cTup (cCons (cVar 2) (cCons (cOp2 gIx (cOp2 gDGet (cFld "Table" "asked" (cVar 0)) (cVar 2)) (cC (.int 0))) (cCons (cOp2 gIx (cOp2 gDGet (cFld "Table" "asked" (cVar 0)) (cVar 2)) (cC (.int 1))) (cNil)))))) (gNm 1)) (sRet (cTup (cCons (cCall gTuple (cCons (cLc [3] (cIt (cCall gSortedD (cCons (cFld "Table" "held" (cVar 0)) (cNil)))) (gNm 3) (cYes) (cTup (cCons (cVar 3) (cCons (cOp2 gDGet (cFld "Table" "held" (cVar 0)) (cVar 3)) (cNil))))) (cNil))) (cCons (cCall gTuple (cCons (cVar 1) (cNil))) (cNil)))))
abbrev d_Table_told : CD := dBody 4 m_Table_told
theorem u_Table_told (a0 : Cv) (h : CH) (q : Cv → CH → Prop) (e : XQ) : d_Table_told [a0] h q e = m_Table_told [some a0, none, none, none] h ⟨fun _ h1 => q .non h1, q, fun _ _ => False, fun _ _ => False, fun x _ h1 => e x h1⟩ := rfl
/-- Row.cut -/
def m_Row_cut : CS :=
  sSeq (sAsgT (cMethD "Table" "told" 1 d_Table_told (cVar 2) cNil) (gTp 2 (gsCons (gNm 4) (gsCons (gNm 3) (gsNil))))) (sSeq (sAsg (cTup (cCons (cVar 1) (cCons (cMethD "Row" "term_at" 2 d_Row_term_at (cVar 0) (cCons (cVar 1) (cNil))) (cCons (cMethD "Row" "bench_at" 2 d_Row_bench_at (cVar 0) (cCons (cVar 1) (cNil))) (cCons (cVar 4) (cCons (cVar 3) (cNil))))))) (gNm 5)) (sRet (cMakeV "Row" 3 d_Row___init__ (cCons (cVar 5) (cCons (cMethD "Row" "behind" 2 d_Row_behind (cVar 0) (cCons (cVar 1) (cNil))) (cNil))))))
abbrev d_Row_cut : CD := dBody 6 m_Row_cut
theorem u_Row_cut (a0 a1 a2 : Cv) (h : CH) (q : Cv → CH → Prop) (e : XQ) : d_Row_cut [a0, a1, a2] h q e = m_Row_cut [some a0, some a1, some a2, none, none, none] h ⟨fun _ h1 => q .non h1, q, fun _ _ => False, fun _ _ => False, fun x _ h1 => e x h1⟩ := rfl
/-- _law_same_from -/
def m_law_same_from : CS :=
  sSeq (sIf (cOr (cTest (cOp2 gNe (cMethD "Row" "last_place" 1 d_Row_last_place (cVar 1) cNil) (cMethD "Row" "last_place" 1 d_Row_last_place (cVar 0) cNil))) (cTest (cOp2 gNe (cMethD "Row" "last_term" 1 d_Row_last_term (cVar 1) cNil) (cMethD "Row" "last_term" 1 d_Row_last_term (cVar 0) cNil)))) (sRet (cC (.bl false))) (sNext)) (sSeq (sFor (cRng2B (cCons (cVar 2) (cCons (cOp2 gAdd (cMethD "Row" "last_place" 1 d_Row_last_place (cVar 0) cNil) (cC (.int 1))) (cNil)))) (gNm 3) (sSeq (sIf (cOr (cTest (cOp2 gNe (cMethD "Row" "term_at" 2 d_Row_term_at (cVar 1) (cCons (cVar 3) (cNil))) (cMethD "Row" "term_at" 2 d_Row_term_at (cVar 0) (cCons (cVar 3) (cNil))))) (cTest (cOp2 gNe (cMethD "Row" "bench_at" 2 d_Row_bench_at (cVar 1) (cCons (cVar 3) (cNil))) (cMethD "Row" "bench_at" 2 d_Row_bench_at (cVar 0) (cCons (cVar 3) (cNil)))))) (sRet (cC (.bl false))) (sNext)) (sIf (cAnd (cTest (cOp2 gGt (cVar 3) (cVar 2))) (cTest (cOp2 gNe (cMethD "Row" "entry_at" 2 d_Row_entry_at (cVar 1) (cCons (cVar 3) (cNil))) (cMethD "Row" "entry_at" 2 d_Row_entry_at (cVar 0) (cCons (cVar 3) (cNil)))))) (sRet (cC (.bl false))) (sNext)))) (sSeq (sFor (cIt (cLv (cCons (cC (.int 0)) (cCons (cC (.int 1)) (cCons (cC (.int 2)) (cNil)))))) (gNm 4) (sSeq (sAsg (cCall gMax2 (cCons (cC (.int 1)) (cCons (cOp2 gSub (cOp2 gAdd (cMethD "Row" "last_term" 1 d_Row_last_term (cVar 0) cNil) (cVar 4)) (cC (.int 1))) (cNil)))) (gNm 5)) (sIf (cTest (cOp2 gNe (cMethD "Row" "is_behind" 3 d_Row_is_behind (cVar 1) (cCons (cOp2 gAdd (cMethD "Row" "last_place" 1 d_Row_last_place (cVar 0) cNil) (cC (.int 1))) (cCons (cVar 5) (cNil)))) (cMethD "Row" "is_behind" 3 d_Row_is_behind (cVar 0) (cCons (cOp2 gAdd (cMethD "Row" "last_place" 1 d_Row_last_place (cVar 0) cNil) (cC (.int 1))) (cCons (cVar 5) (cNil)))))) (sRet (cC (.bl false))) (sNext)))) (sRet (cAndV (cOp2 gIsN (cMethD "Row" "term_at" 2 d_Row_term_at (cVar 1) (cCons (cOp2 gSub (cVar 2) (cC (.int 1))) (cNil))) (cC .non)) (cOp2 gEq (cMethD "Row" "bench" 1 d_Row_bench (cVar 1) cNil) (cMethD "Row" "bench" 1 d_Row_bench (cVar 0) cNil))))))
abbrev d_law_same_from : CD := dBody 6 m_law_same_from
theorem u_law_same_from (a0 a1 a2 : Cv) (h : CH) (q : Cv → CH → Prop) (e : XQ) : d_law_same_from [a0, a1, a2] h q e = m_law_same_from [some a0, some a1, some a2, none, none, none] h ⟨fun _ h1 => q .non h1, q, fun _ _ => False, fun _ _ => False, fun x _ h1 => e x h1⟩ := rfl
/-- _law_fillings -/
def m_law_fillings : CS :=
  sSeq (sFor (cEnum (cCons (cVar 3) (cNil))) (gTp 2 (gsCons (gNm 7) (gsCons (gNm 6) (gsNil)))) (sSeq (sAsg (cCallD 2 d_law_bits (cCons (cVar 6) (cCons (cOp2 gAdd (cC (.int 200)) (cVar 7)) (cNil)))) (gNm 5)) (sSeq (sAsg (cOp2 gAdd (cVar 2) (cCallD 2 d_law_take_2 (cCons (cVar 5) (cCons (cOp2 gAdd (cOp2 gSub (cMethD "Row" "last_place" 1 d_Row_last_place (cVar 0) cNil) (cVar 2)) (cC (.int 2))) (cNil))))) (gNm 4)) (sSeq (sAsg (cMethD "Row" "term_at" 2 d_Row_term_at (cVar 0) (cCons (cVar 4) (cNil))) (gNm 11)) (sSeq (sIf (cOr (cTest (cOp2 gIsN (cVar 11) (cC .non))) (cTest (cOp2 gEq (cCallD 2 d_law_take_2 (cCons (cVar 5) (cCons (cC (.int 4)) (cNil)))) (cC (.int 0))))) (sAsg (cCallD 2 d_law_take_2 (cCons (cVar 5) (cCons (cC (.int 5)) (cNil)))) (gNm 11)) (sNext)) (sSeq (sAsg (cCallD 2 d_law_entries (cCons (cSl gSlice (cLv (cCons (cOp2 gFdiv (cVar 6) (cC (.int 7))) (cCons (cOp2 gFdiv (cVar 6) (cC (.int 11))) (cNil)))) cNoPart (cPart (cOp2 gAdd (cC (.int 1)) (cCallD 2 d_law_take_2 (cCons (cVar 5) (cCons (cC (.int 2)) (cNil))))))) (cCons (cVar 11) (cNil)))) (gNm 8)) (sSeq (sAsg (cMethD "Row" "filled" 4 d_Row_filled (cVar 0) (cCons (cVar 4) (cCons (cVar 11) (cCons (cVar 8) (cNil))))) (gNm 9)) (sSeq (sAsg (cMethD "Row" "filled" 4 d_Row_filled (cVar 1) (cCons (cVar 4) (cCons (cVar 11) (cCons (cVar 8) (cNil))))) (gNm 10)) (sSeq (sIf (cTest (cOp2 gNe (cOp2 gIsN (cVar 9) (cC .non)) (cOp2 gIsN (cVar 10) (cC .non)))) (sRet (cC (.bl false))) (sNext)) (sIf (cAnd (cTest (cOp2 gNotN (cVar 9) (cC .non))) (cOr (cTest (cOp2 gNe (cFld "Row" "stand" (cVar 10)) (cFld "Row" "stand" (cVar 1)))) (cTest (cOp2 gNe (cFld "Row" "entries" (cVar 10)) (cMethD "Row" "behind" 2 d_Row_behind (cVar 9) (cCons (cVar 2) (cNil))))))) (sRet (cC (.bl false))) (sNext))))))))))) (sRet (cOrV (cOp2 gEq (cVar 2) (cC (.int 0))) (cOp2 gNotN (cMethD "Row" "filled" 4 d_Row_filled (cVar 1) (cCons (cOp2 gSub (cVar 2) (cC (.int 1))) (cCons (cC (.int 1)) (cCons (cSl gSlice (cMethD "Row" "behind" 2 d_Row_behind (cVar 0) (cCons (cVar 2) (cNil))) cNoPart (cPart (cC (.int 0)))) (cNil))))) (cC .non))))
abbrev d_law_fillings : CD := dBody 12 m_law_fillings
theorem u_law_fillings (a0 a1 a2 a3 : Cv) (h : CH) (q : Cv → CH → Prop) (e : XQ) : d_law_fillings [a0, a1, a2, a3] h q e = m_law_fillings [some a0, some a1, some a2, some a3, none, none, none, none, none, none, none, none] h ⟨fun _ h1 => q .non h1, q, fun _ _ => False, fun _ _ => False, fun x _ h1 => e x h1⟩ := rfl
/-- law -/
def m_law_k23 : CS :=
  sSeq (sAsg (cCallD 1 d_law_stand (cCons (cCallD 2 d_law_cell_at (cCons (cVar 0) (cCons (cC (.int 0)) (cNil)))) (cNil))) (gNm 11)) (sSeq (sAsg (cCallD 2 d_law_entries (cCons (cSl gSlice (cVar 0) (cPart (cC (.int 3))) (cPart (cC (.int 33)))) (cCons (cOp2 gIx (cVar 11) (cC (.int 1))) (cNil)))) (gNm 4)) (sSeq (sAsg (cMakeV "Row" 3 d_Row___init__ (cCons (cVar 11) (cCons (cVar 4) (cNil)))) (gNm 10)) (sSeq (sAsg (cCallD 2 d_law_bits (cCons (cCallD 2 d_law_cell_at (cCons (cVar 0) (cCons (cC (.int 2)) (cNil)))) (cCons (cC (.int 9)) (cNil)))) (gNm 2)) (sSeq (sAsg (cCall gSorted (cCons (cLc [14] (cRng1 (cCons (cC (.int 2)) (cNil))) (gNm 14) (cYes) (cOp2 gAdd (cOp2 gIx (cVar 11) (cC (.int 0))) (cCallD 2 d_law_take_2 (cCons (cVar 2) (cCons (cOp2 gAdd (cCall gLen (cCons (cVar 4) (cNil))) (cC (.int 1))) (cNil)))))) (cNil))) (gNm 9)) (sSeq (sAsg (cCallD 3 d_law_table_at (cCons (cVar 11) (cCons (cVar 4) (cCons (cOp2 gIx (cVar 9) (cC (.int 0))) (cNil))))) (gNm 12)) (sSeq (sAsgT (cMethD "Table" "told" 1 d_Table_told (cVar 12) cNil) (gTp 2 (gsCons (gNm 7) (gsCons (gNm 1) (gsNil))))) (sSeq (sAsg (cMethD "Row" "cut" 3 d_Row_cut (cVar 10) (cCons (cOp2 gIx (cVar 9) (cC (.int 0))) (cCons (cVar 12) (cNil)))) (gNm 5)) (sSeq (sAsg (cTup (cCons (cOp2 gIx (cVar 9) (cC (.int 0))) (cCons (cMethD "Row" "term_at" 2 d_Row_term_at (cVar 10) (cCons (cOp2 gIx (cVar 9) (cC (.int 0))) (cNil))) (cCons (cMethD "Row" "bench_at" 2 d_Row_bench_at (cVar 10) (cCons (cOp2 gIx (cVar 9) (cC (.int 0))) (cNil))) (cCons (cVar 7) (cCons (cVar 1) (cNil))))))) (gNm 3)) (sSeq (sIf (cOr (cNot (cTt (cIsO [((true, "Row"), true), ((false, "NoneType"), false), ((false, "bool"), false), ((false, "int"), false), ((false, "str"), false), ((false, "tuple"), false), ((false, "list"), false), ((false, "dict"), false)] (cVar 5)))) (cOr (cTest (cOp2 gNe (cFld "Row" "stand" (cVar 5)) (cVar 3))) (cTest (cOp2 gNe (cFld "Row" "entries" (cVar 5)) (cSl gSlice (cVar 4) (cPart (cOp2 gSub (cOp2 gIx (cVar 9) (cC (.int 0))) (cOp2 gIx (cVar 11) (cC (.int 0))))) cNoPart))))) (sRet (cC (.bl false))) (sNext)) (sSeq (sIf (cOr (cNot (cTt (cCallD 3 d_law_same_from (cCons (cVar 10) (cCons (cVar 5) (cCons (cOp2 gIx (cVar 9) (cC (.int 0))) (cNil))))))) (cNot (cTt (cCallD 4 d_law_fillings (cCons (cVar 10) (cCons (cVar 5) (cCons (cOp2 gIx (cVar 9) (cC (.int 0))) (cCons (cOp2 gAdd (cLv (cCons (cC (.int 0)) (cNil))) (cSl gSlice (cVar 0) (cPart (cC (.int 33))) (cPart (cC (.int 63))))) (cNil))))))))) (sRet (cC (.bl false))) (sNext)) (sSeq (sAsg (cCallD 3 d_law_table_at (cCons (cVar 11) (cCons (cVar 4) (cCons (cOp2 gIx (cVar 9) (cC (.int 1))) (cNil))))) (gNm 6)) (sSeq (sAsg (cMethD "Row" "cut" 3 d_Row_cut (cVar 10) (cCons (cOp2 gIx (cVar 9) (cC (.int 1))) (cCons (cVar 6) (cNil)))) (gNm 8)) (sSeq (sAsg (cMethD "Row" "cut" 3 d_Row_cut (cVar 5) (cCons (cOp2 gIx (cVar 9) (cC (.int 1))) (cCons (cVar 6) (cNil)))) (gNm 13)) (sSeq (sIf (cOr (cTest (cOp2 gNe (cFld "Row" "stand" (cVar 8)) (cFld "Row" "stand" (cVar 13)))) (cOr (cTest (cOp2 gNe (cFld "Row" "entries" (cVar 8)) (cFld "Row" "entries" (cVar 13)))) (cTest (cOp2 gNe (cMethD "Table" "told" 1 d_Table_told (cVar 12) cNil) (cTup (cCons (cVar 7) (cCons (cVar 1) (cNil)))))))) (sRet (cC (.bl false))) (sNext)) (sRet (cAndV (cOp2 gEq (cFld "Row" "stand" (cVar 10)) (cVar 11)) (cOp2 gEq (cFld "Row" "entries" (cVar 10)) (cVar 4))))))))))))))))))
abbrev d_law_k23 : CD := dBody 15 m_law_k23
theorem u_law_k23 (a0 : Cv) (h : CH) (q : Cv → CH → Prop) (e : XQ) : d_law_k23 [a0] h q e = m_law_k23 [some a0, none, none, none, none, none, none, none, none, none, none, none, none, none, none] h ⟨fun _ h1 => q .non h1, q, fun _ _ => False, fun _ _ => False, fun x _ h1 => e x h1⟩ := rfl
end Lw
end
section
namespace Lw
open PySem L2 Co
/-- _law_told -/
def m_law_told_2 : CS :=
  sSeq (sAsg (cLc [5] (cIt (cCall gSortedD (cCons (cVar 0) (cNil)))) (gNm 5) (cYes) (cTup (cCons (cVar 5) (cCons (cOp2 gDGet (cVar 0) (cVar 5)) (cNil))))) (gNm 3)) (sSeq (sAsg (cLc [4] (cIt (cCall gSortedD (cCons (cVar 1) (cNil)))) (gNm 4) (cYes) (cTup (cCons (cVar 4) (cCons (cOp2 gIx (cOp2 gDGet (cVar 1) (cVar 4)) (cC (.int 0))) (cCons (cOp2 gIx (cOp2 gDGet (cVar 1) (cVar 4)) (cC (.int 1))) (cNil)))))) (gNm 2)) (sRet (cTup (cCons (cCall gTuple (cCons (cVar 3) (cNil))) (cCons (cCall gTuple (cCons (cVar 2) (cNil))) (cNil))))))
abbrev d_law_told_2 : CD := dBody 6 m_law_told_2
theorem u_law_told_2 (a0 a1 : Cv) (h : CH) (q : Cv → CH → Prop) (e : XQ) : d_law_told_2 [a0, a1] h q e = m_law_told_2 [some a0, some a1, none, none, none, none] h ⟨fun _ h1 => q .non h1, q, fun _ _ => False, fun _ _ => False, fun x _ h1 => e x h1⟩ := rfl
/-- Table.twin -/
def m_Table_twin : CS :=
  sSeq (sAsgT (cMethD "Table" "told" 1 d_Table_told (cVar 0) cNil) (gTp 2 (gsCons (gNm 2) (gsCons (gNm 1) (gsNil))))) (sRet (cMakeD "Table" 3 d_Table___init__ (cCons (cVar 2) (cCons (cVar 1) (cNil)))))
abbrev d_Table_twin : CD := dBody 3 m_Table_twin
theorem u_Table_twin (a0 : Cv) (h : CH) (q : Cv → CH → Prop) (e : XQ) : d_Table_twin [a0] h q e = m_Table_twin [some a0, none, none] h ⟨fun _ h1 => q .non h1, q, fun _ _ => False, fun _ _ => False, fun x _ h1 => e x h1⟩ := rfl
/-- law -/
def m_law_k04 : CS :=
  sSeq (sAsg (cCallD 3 d_law_names_3 (cCons (cVar 0) (cCons (cC (.int 0)) (cCons (cOp2 gAdd (cC (.int 1)) (cOp2 gMod (cCallD 2 d_law_cell_at (cCons (cVar 0) (cCons (cC (.int 1)) (cNil)))) (cC (.int 8)))) (cNil))))) (gNm 9)) (sSeq (sAsg (cCallD 3 d_law_names_3 (cCons (cVar 0) (cCons (cC (.int 2)) (cCons (cOp2 gAdd (cC (.int 1)) (cOp2 gMod (cOp2 gFdiv (cCallD 2 d_law_cell_at (cCons (cVar 0) (cCons (cC (.int 1)) (cNil)))) (cC (.int 8))) (cC (.int 5)))) (cNil))))) (gNm 3)) (sSeq (sAsg (cCallD 5 d_law_asks (cCons (cVar 0) (cCons (cC (.int 3)) (cCons (cC (.int 60)) (cCons (cVar 9) (cCons (cVar 3) (cNil))))))) (gNm 4)) (sSeq (sAsg (cOp2 gMod (cOp2 gFdiv (cCallD 2 d_law_cell_at (cCons (cVar 0) (cCons (cC (.int 1)) (cNil)))) (cC (.int 40))) (cOp2 gAdd (cCall gLen (cCons (cVar 4) (cNil))) (cC (.int 1)))) (gNm 6)) (sSeq (sAsg (cMakeD "Table" 3 d_Table___init__ (cCons (cTup (cNil)) (cCons (cTup (cNil)) (cNil)))) (gNm 14)) (sSeq (sAsg (cDNew) (gNm 8)) (sSeq (sAsg (cDNew) (gNm 2)) (sSeq (sFor (cIt (cSl gSlice (cVar 4) cNoPart (cPart (cVar 6)))) (gNm 1) (sSeq (sExpr (cMethD "Table" "does" 4 d_Table_does (cVar 14) (cCons (cOp2 gIx (cVar 1) (cC (.int 0))) (cCons (cOp2 gIx (cVar 1) (cC (.int 1))) (cCons (cOp2 gIx (cVar 1) (cC (.int 2))) (cNil)))))) (sExpr (cCallD 3 d_law_does (cCons (cVar 8) (cCons (cVar 2) (cCons (cVar 1) (cNil)))))))) (sSeq (sAsg (cCallD 2 d_law_told_2 (cCons (cVar 8) (cCons (cVar 2) (cNil)))) (gNm 7)) (sSeq (sIf (cOr (cNot (cTt (cCallD 2 d_law_same_2 (cCons (cMethD "Table" "told" 1 d_Table_told (cVar 14) cNil) (cCons (cVar 7) (cNil)))))) (cNot (cTt (cCallD 2 d_law_same_2 (cCons (cMethD "Table" "told" 1 d_Table_told (cVar 14) cNil) (cCons (cVar 7) (cNil))))))) (sRet (cC (.bl false))) (sNext)) (sSeq (sAsg (cMethD "Table" "twin" 1 d_Table_twin (cVar 14) cNil) (gNm 15)) (sSeq (sAsg (cMakeD "Table" 3 d_Table___init__ (cCons (cOp2 gIx (cVar 7) (cC (.int 0))) (cCons (cOp2 gIx (cVar 7) (cC (.int 1))) (cNil)))) (gNm 11)) (sSeq (sAsg (cLv (cCons (cMakeD "Table" 3 d_Table___init__ (cCons (cOp2 gIx (cVar 7) (cC (.int 0))) (cCons (cOp2 gIx (cVar 7) (cC (.int 1))) (cNil)))) (cCons (cMethD "Table" "twin" 1 d_Table_twin (cVar 14) cNil) (cNil)))) (gNm 13)) (sSeq (sFor (cIt (cSl gSlice (cVar 4) (cPart (cVar 6)) cNoPart)) (gNm 1) (sSeq (sAsg (cCallD 3 d_law_does (cCons (cVar 8) (cCons (cVar 2) (cCons (cVar 1) (cNil))))) (gNm 5)) (sFor (cIt (cLv (cCons (cVar 14) (cCons (cVar 15) (cCons (cVar 11) (cNil)))))) (gNm 12) (sIf (cNot (cTt (cCallD 2 d_law_same_2 (cCons (cMethD "Table" "does" 4 d_Table_does (cVar 12) (cCons (cOp2 gIx (cVar 1) (cC (.int 0))) (cCons (cOp2 gIx (cVar 1) (cC (.int 1))) (cCons (cOp2 gIx (cVar 1) (cC (.int 2))) (cNil))))) (cCons (cVar 5) (cNil)))))) (sRet (cC (.bl false))) (sNext))))) (sSeq (sAsg (cCallD 2 d_law_told_2 (cCons (cVar 8) (cCons (cVar 2) (cNil)))) (gNm 10)) (sSeq (sFor (cIt (cLv (cCons (cVar 14) (cCons (cVar 15) (cCons (cVar 11) (cNil)))))) (gNm 12) (sIf (cNot (cTt (cCallD 2 d_law_same_2 (cCons (cMethD "Table" "told" 1 d_Table_told (cVar 12) cNil) (cCons (cVar 10) (cNil)))))) (sRet (cC (.bl false))) (sNext))) (sRet (cCall gAll (cCons (cLc [12] (cIt (cVar 13)) (gNm 12) (cYes) (cCallD 2 d_law_same_2 (cCons (cMethD "Table" "told" 1 d_Table_told (cVar 12) cNil) (cCons (cVar 7) (cNil))))) (cNil)))))))))))))))))))
abbrev d_law_k04 : CD := dBody 16 m_law_k04
theorem u_law_k04 (a0 : Cv) (h : CH) (q : Cv → CH → Prop) (e : XQ) : d_law_k04 [a0] h q e = m_law_k04 [some a0, none, none, none, none, none, none, none, none, none, none, none, none, none, none, none] h ⟨fun _ h1 => q .non h1, q, fun _ _ => False, fun _ _ => False, fun x _ h1 => e x h1⟩ := rfl
end Lw
end
section
open PySem L2 Co
namespace Lw
/-! the order of texts -/
theorem slt_irrefl (a : Str) : slt a a = false := by
  unfold slt; rw [decide_eq_false_iff_not]; exact List.lt_irrefl _
theorem slt_trans {a b c : Str} (h1 : slt a b = true) (h2 : slt b c = true) : slt a c = true := by
  unfold slt at *; rw [decide_eq_true_eq] at *; exact List.lt_trans h1 h2
theorem slt_asymm {a b : Str} (h1 : slt a b = true) : slt b a = false := by
  cases h : slt b a with
  | false => rfl
  | true => have := slt_trans h1 h; rw [slt_irrefl] at this; cases this
theorem str_ext {a b : Str} (h : a.cps.toList = b.cps.toList) : a = b := by rw [← T_eta a, ← T_eta b, h]
theorem slt_tri {a b : Str} (h1 : slt a b = false) (h2 : slt b a = false) : a = b := by
  unfold slt at h1 h2
  rw [decide_eq_false_iff_not] at h1 h2
  exact str_ext (List.le_antisymm (List.not_lt.mp h2) (List.not_lt.mp h1))
/-- rising, each once -/
def Ris (ss : List Str) : Prop := ss.Pairwise fun a b => slt a b = true
theorem Ris.nodup {ss : List Str} (r : Ris ss) : ss.Nodup := List.Pairwise.imp (fun {a b} h e => by rw [e, slt_irrefl] at h; cases h) r
theorem ris_sorted : ∀ {ss : List Str}, PyProof.Rows.sortedS ss = true → ss.Nodup → Ris ss := by
  have key : ∀ (ss : List Str) (x : Str), PyProof.Rows.risingS x ss = true → (x :: ss).Nodup → Ris (x :: ss) := by
    intro ss
    induction ss with
    | nil => intro x _ _; exact List.pairwise_singleton _ _
    | cons y ss ih =>
      intro x h nd
      unfold PyProof.Rows.risingS at h
      rw [Bool.and_eq_true] at h
      have hy := ih y h.2 (List.nodup_cons.mp nd).2
      have hxy : slt x y = true := by
        have h1 := h.1
        cases e : slt x y with
        | true => rfl
        | false =>
          have hne : x ≠ y := fun z => (List.nodup_cons.mp nd).1 (z ▸ List.mem_cons_self ..)
          cases e2 : slt y x with
          | false => exact absurd (slt_tri e e2) hne
          | true =>
            exfalso
            have e3 : PySem.Spec.ltCps y.cps.toList x.cps.toList = true := by rw [← PyProof.Rows.lt_meets]; exact e2
            rw [e3] at h1
            cases h1
      refine List.pairwise_cons.mpr ⟨fun z hz => ?_, hy⟩
      rcases List.mem_cons.mp hz with e | e
      · rw [e]; exact hxy
      · exact slt_trans hxy ((List.pairwise_cons.mp hy).1 z e)
  intro ss h nd
  cases ss with
  | nil => exact .nil
  | cons x ss => exact key ss x h nd
theorem ris_uniq : ∀ {xs ys : List Str}, Ris xs → Ris ys → (∀ k, k ∈ xs ↔ k ∈ ys) → xs = ys
  | [], [], _, _, _ => rfl
  | [], y :: ys, _, _, h => by have := (h y).mpr (List.mem_cons_self ..); cases this
  | x :: xs, [], _, _, h => by have := (h x).mp (List.mem_cons_self ..); cases this
  | x :: xs, y :: ys, h1, h2, h => by
    obtain ⟨a1, a2⟩ := List.pairwise_cons.mp h1
    obtain ⟨b1, b2⟩ := List.pairwise_cons.mp h2
    have e : x = y := by
      rcases List.mem_cons.mp ((h x).mp (List.mem_cons_self ..)) with z | z
      · exact z
      · rcases List.mem_cons.mp ((h y).mpr (List.mem_cons_self ..)) with z2 | z2
        · exact z2.symm
        · have := slt_asymm (a1 y z2); rw [b1 x z] at this; cases this
    subst e
    congr 1
    refine ris_uniq a2 b2 fun k => ⟨fun hk => ?_, fun hk => ?_⟩
    · rcases List.mem_cons.mp ((h k).mp (List.mem_cons_of_mem _ hk)) with z | z
      · subst z; have := a1 k hk; rw [slt_irrefl] at this; cases this
      · exact z
    · rcases List.mem_cons.mp ((h k).mpr (List.mem_cons_of_mem _ hk)) with z | z
      · subst z; have := b1 k hk; rw [slt_irrefl] at this; cases this
      · exact z
theorem nodup_le {α : Type} [BEq α] [LawfulBEq α] : ∀ {xs ys : List α}, xs.Nodup → (∀ x ∈ xs, x ∈ ys) → xs.length ≤ ys.length
  | [], _, _, _ => Nat.zero_le _
  | x :: xs, ys, nd, h => by
    obtain ⟨n1, n2⟩ := List.nodup_cons.mp nd
    have hx := h x (List.mem_cons_self ..)
    have := nodup_le (ys := ys.erase x) n2 fun z hz => (List.mem_erase_of_ne (fun e => by subst e; exact n1 hz)).mpr (h z (List.mem_cons_of_mem _ hz))
    rw [List.length_erase_of_mem hx] at this
    have := List.length_pos_of_mem hx
    rw [List.length_cons]
    omega
end Lw
end
section
/-! Core28: list(range(n)). -/
namespace Co
open PySem PySem.Spec PyProof.Rows L2
section
variable {X : Cx} {cm : String → Addr} {W : WX} {K : PySem.W.Frag} {H : Hp} {h : Wh} {e a : Expr} {ca : CT} {pos p p2 pos2 : Pos}
theorem relCs_rg (n : Int) : RelCs K cm H h (intsR 0 n.toNat) (rgV 0 n) := by
  unfold intsR rgV
  rw [Int.sub_zero]
  have : ∀ l : List Nat, RelCs K cm H h (l.map fun (i : Nat) => Cv.int (0 + i)) (l.map fun i => V.int (0 + (i : Nat))) := fun l => by
    induction l with
    | nil => exact .nil
    | cons x l ih => exact .cons (.int _) ih
  exact this _
def cLstRg (ca : CT) : CT := fun env h q e => ca env h (fun x h1 => match x with | .int n => RgOk 0 n ∧ q (.lv (intsR 0 n.toNat)) h1 | _ => False) e
def cLstRgL (ca : CT) : CT := fun env h q e => ca env h (fun x h1 => match x with | .int n => RgOk 0 n ∧ ∀ p, h1 p = none → q (.ref p) (cup h1 p (.lst (intsR 0 n.toNat))) | _ => False) e
theorem ce_lstRg (hcl : X.calm = true) (hg : Gl X "list") (hm : X.mg "list" = none) (hg2 : Gl X "range") (hm2 : X.mg "range" = none) (ha : PE X a (eOf X.K cm W ca))
    (na : starEach [a] X.env = (false, eval a X.env) :: starEach [] X.env := by rfl)
    (na2 : starEach [Expr.Call (.Name "range" p2) [a] [] pos2] X.env = (false, eval (Expr.Call (.Name "range" p2) [a] [] pos2) X.env) :: starEach [] X.env := by rfl) :
    PE X (.Call (.Name "list" p) [.Call (.Name "range" p2) [a] [] pos2] [] pos) (eOf X.K cm W (cLstRg ca)) := weakE (fun σ H Q ⟨h, env, q, e, S, R, hc, k, kx⟩ =>
  ⟨h, env, _, e, S, R, hc, fun H1 h1 x V l1 S1 r1 c1 => by
    dsimp only at c1
    split at c1
    · next n =>
      cases r1
      exact ⟨n, rfl, c1.1, newLv S1 (relCs_rg n) c1.2 (k.mono l1)⟩
    · exact c1.elim, kx⟩) (pe_listRg hcl hg hm (prg_1 hg2 hm2 ha na) na2)
theorem ce_lstRgL (hcl : X.calm = true) (hg : Gl X "list") (hm : X.mg "list" = none) (hg2 : Gl X "range") (hm2 : X.mg "range" = none) (ha : PE X a (eOf X.K cm W ca))
    (na : starEach [a] X.env = (false, eval a X.env) :: starEach [] X.env := by rfl)
    (na2 : starEach [Expr.Call (.Name "range" p2) [a] [] pos2] X.env = (false, eval (Expr.Call (.Name "range" p2) [a] [] pos2) X.env) :: starEach [] X.env := by rfl) :
    PE X (.Call (.Name "list" p) [.Call (.Name "range" p2) [a] [] pos2] [] pos) (eOf X.K cm W (cLstRgL ca)) := weakE (fun σ H Q ⟨h, env, q, e, S, R, hc, k, kx⟩ =>
  ⟨h, env, _, e, S, R, hc, fun H1 h1 x V l1 S1 r1 c1 => by
    dsimp only at c1
    split at c1
    · next n =>
      cases r1
      exact ⟨n, rfl, c1.1, newLst S1 (relCs_rg n) c1.2 (k.mono l1)⟩
    · exact c1.elim, kx⟩) (pe_listRg hcl hg hm (prg_1 hg2 hm2 ha na) na2)
end
end Co
end
section
/-! Core29: zip of texts, tuples, lists, in any mixture; the pairs have no dict of their own. -/
namespace Co
open PySem PySem.Spec PyProof.Rows L2
inductive ZK where | l | t | s
def ZSrc (K : PySem.W.Frag) (H : Hp) (V : L2.V) (xs : List L2.V) : ZK → Prop
  | .l => ∃ a, V = .ref a ∧ SqL K H a xs
  | .t => ∃ a, V = .ref a ∧ SqT K H a xs
  | .s => ∃ z : Str, V = .str z ∧ xs = z.cps.toList.map fun c => L2.V.str ⟨#[c]⟩
def ZAt (V : L2.V) (it : Addr) (i : Nat) (h : Heap) : ZK → Prop
  | .l => ∃ a, V = .ref a ∧ a ≠ it ∧ h.IsListIter it a i
  | .t => ∃ a, V = .ref a ∧ a ≠ it ∧ h.IsTupleIter it a i
  | .s => ∃ (z : Str) (t : Tok), V = .str z ∧ h.IsStrIter it (strIterType z) z t i
def zfp (V : L2.V) (it : Addr) : List Addr := match V with | .ref a => [it, a] | _ => [it]
section
variable {X : Cx} {pins : List (Addr × Obj)} {σ : L2.St} {H : Hp} {s : Shared} {k k1 k2 : ZK} {V V1 V2 : L2.V} {xs ys : List L2.V} {it : Addr} {i : Nat} {h h' : Heap}
theorem ZAt.mv (x : ZAt V it i h k) (f : ∀ o, h.get? it = some o → h'.get? it = some o) : ZAt V it i h' k := by
  cases k with
  | l => obtain ⟨a, e, n, x⟩ := x; exact ⟨a, e, n, x.at fun o q => f o q⟩
  | t => obtain ⟨a, e, n, x⟩ := x; exact ⟨a, e, n, x.at fun o q => f o q⟩
  | s => obtain ⟨z, t, e, o, ho, r⟩ := x; exact ⟨z, t, e, o, f _ ho, r⟩
theorem ZAt.ob (x : ZAt V it i h k) : ∃ o, h.get? it = some o ∧ ∀ v, o.data ≠ .cell v := by
  cases k with
  | l => obtain ⟨a, e, n, o, ho, _, d⟩ := x; exact ⟨o, ho, fun v q => by rw [d] at q; cases q⟩
  | t => obtain ⟨a, e, n, o, ho, _, d⟩ := x; exact ⟨o, ho, fun v q => by rw [d] at q; cases q⟩
  | s => obtain ⟨z, t, e, o, ho, _, d⟩ := x; exact ⟨o, ho, fun v q => by rw [d] at q; cases q⟩
theorem ZSrc.inj (I : Inv X pins σ H s) (x : ZSrc X.K H V xs k) (y : ZSrc X.K H V ys k) : xs = ys := by
  cases k with
  | l => obtain ⟨a, rfl, x⟩ := x; obtain ⟨b, e, y⟩ := y; cases e; exact I.list_inj x y
  | t => obtain ⟨a, rfl, x⟩ := x; obtain ⟨b, e, y⟩ := y; cases e; exact I.tuple_inj x y
  | s => obtain ⟨a, rfl, rfl⟩ := x; obtain ⟨b, e, rfl⟩ := y; cases e; rfl
theorem zdraws {A : Around} (I : Inv X pins σ H s) (hh : A.handled = none) (x : ZSrc X.K H V xs k) (y : ZAt V it i s.heap k) :
    ∃ (P : Nat → Value → Prop) (St : Nat → Heap → Prop), Draws X.prog X.w A it (zfp V it) xs.length P St ∧ St i s.heap ∧ (∀ j u, P j u → ∀ x, xs[j]? = some x → RelV x u) ∧ ∀ j h', St j h' → ZAt V it j h' k := by
  cases k with
  | l =>
    obtain ⟨a, rfl, hq⟩ := x
    obtain ⟨b, e, n, y⟩ := y
    cases e
    obtain ⟨its, rv, p, hz⟩ := I.list hq
    have el : its.toArray.size = xs.length := by simp [rv.length]
    refine ⟨fun i v => its.toArray[i]? = some v, fun i h => h.IsListIter it a i ∧ h.IsList a its.toArray, ?_, ⟨y, p.isList⟩, ?_, fun j h' st => ⟨a, rfl, n, st.1⟩⟩
    · rw [← el]; exact Draws.list hh it a n its.toArray
    · intro j u hu x hx
      obtain ⟨u', hu', ru⟩ := rv.get hx
      have : u' = u := by
        have hu2 : its[j]? = some u := by simpa using hu
        rw [hu'] at hu2; exact Option.some.inj hu2
      exact this ▸ ru
  | t =>
    obtain ⟨a, rfl, hq⟩ := x
    obtain ⟨b, e, n, y⟩ := y
    cases e
    obtain ⟨its, rv, p, hz⟩ := I.tuple hq
    have el : its.toArray.size = xs.length := by simp [rv.length]
    refine ⟨fun i v => its.toArray[i]? = some v, fun i h => h.IsTupleIter it a i ∧ h.IsTuple a its.toArray, ?_, ⟨y, p⟩, ?_, fun j h' st => ⟨a, rfl, n, st.1⟩⟩
    · rw [← el]; exact Draws.tuple hh it a n its.toArray
    · intro j u hu x hx
      obtain ⟨u', hu', ru⟩ := rv.get hx
      have : u' = u := by
        have hu2 : its[j]? = some u := by simpa using hu
        rw [hu'] at hu2; exact Option.some.inj hu2
      exact this ▸ ru
  | s =>
    obtain ⟨z, rfl, rfl⟩ := x
    obtain ⟨z', t, e, y⟩ := y
    cases e
    have el : z.cps.size = (z.cps.toList.map fun c => L2.V.str ⟨#[c]⟩).length := by simp
    refine ⟨fun i v => ∃ c u, z.cps[i]? = some c ∧ v = .str ⟨#[c]⟩ u, fun i h => h.IsStrIter it (strIterType z) z t i, ?_, y, ?_, fun j h' st => ⟨z, t, rfl, st⟩⟩
    · rw [← el]; exact Draws.text hh it z t
    · rintro j u ⟨c, tk, hc, rfl⟩ x hx
      rw [List.getElem?_map] at hx
      have : z.cps.toList[j]? = some c := by simpa using hc
      rw [this] at hx
      cases hx
      exact ⟨_, rfl⟩
def ItzG (K : PySem.W.Frag) (V1 : L2.V) (k1 : ZK) (V2 : L2.V) (k2 : ZK) (n : Nat) : It :=
  ⟨fun i H => ∃ (xs ys : List L2.V) (x y : L2.V), ZSrc K H V1 xs k1 ∧ ZSrc K H V2 ys k2 ∧ min xs.length ys.length = n ∧ xs[i]? = some x ∧ ys[i]? = some y,
    fun i H v H' => ∃ T o x y, v = .ref T ∧ H T = none ∧ o.dict = none ∧ H' = upd H T (.frz o (.tup [x, y])) ∧ (∀ xs, ZSrc K H V1 xs k1 → xs[i]? = some x) ∧ ∀ ys, ZSrc K H V2 ys k2 → ys[i]? = some y,
    fun i H => ∃ xs ys : List L2.V, ZSrc K H V1 xs k1 ∧ ZSrc K H V2 ys k2 ∧ min xs.length ys.length = n ∧ n ≤ i⟩
theorem turn_zipG {P : Program} {w : World} {K : PySem.W.Frag} {elts : List Expr} {kk n : Nat} {tpos : Pos} {z TI TO i1 i2 : Addr} (D : ZipSep2 z TI TO i1 i2 (zfp V1 i1) (zfp V2 i2)) :
    Turn P w K (.Tuple elts kk tpos) (ItzG K V1 k1 V2 k2 n) [z, TI, TO, i1, i2] z (fun i h => i ≤ n ∧ IsZip h z TI TO .none ∧ IsTupOf2 h TI (.ref i1) (.ref i2) ∧ (∃ x y, IsTupOf2 h TO x y) ∧ ZAt V1 i1 i h k1 ∧ ZAt V2 i2 i h k2) where
  mem := by simp
  obj := fun i h st c hc => by
    obtain ⟨_, hz, hTI, ⟨x, y, hTO⟩, h1, h2⟩ := st
    have e' : c = z ∨ c = TI ∨ c = TO ∨ c = i1 ∨ c = i2 := by simpa using hc
    rcases e' with q | q | q | q | q
    · rw [q]; exact ⟨_, hz, fun v q => nomatch q⟩
    · rw [q]; exact ⟨_, hTI, fun v q => nomatch q⟩
    · rw [q]; exact ⟨_, hTO, fun v q => nomatch q⟩
    · rw [q]; exact h1.ob
    · rw [q]; exact h2.ob
  keep := fun i h h' st k => by
    obtain ⟨hn, hz, hTI, ⟨x, y, hTO⟩, h1, h2⟩ := st
    exact ⟨hn, k z (by simp) _ hz, k TI (by simp) _ hTI, ⟨x, y, k TO (by simp) _ hTO⟩, h1.mv fun o q => k i1 (by simp) o q, h2.mv fun o q => k i2 (by simp) o q⟩
  item := by
    intro X hP hw hK hc i pins s σ H E I hf st hg
    subst hP hw hK
    obtain ⟨hn, hz, hTI, ⟨x0, y0, hTO⟩, h1, h2⟩ := st
    obtain ⟨xs, ys, x, y, sx, sy, hmin, hx, hy⟩ := hg
    obtain ⟨P1, St1, D1, st1, r1, t1⟩ := zdraws (A := X.A.in1) I (I.ok.hd hc) sx h1
    obtain ⟨P2, St2, D2, st2, r2, t2⟩ := zdraws (A := X.A.in1) I (I.ok.hd hc) sy h2
    have hx1 := (List.getElem?_eq_some_iff.mp hx).1
    have hy1 := (List.getElem?_eq_some_iff.mp hy).1
    have hzl : z < s.heap.objs.size := Heap.lt_size hz
    refine wpAny_pyNext_zipD2_item D D1 D2 hz hTI hTO st1 st2 hx1 hy1 fun u1 u2 h' tk y1 y2 z' TO' s1' s2' hT hsz hk => ?_
    refine ⟨_, rfl, wpAny_letOwnedTupleGo_zip (s := { s with heap := h', toks := tk }) z' fun h'' z'' sb => ?_⟩
    have hT2 : h''.get? s.heap.objs.size = some { cls := .type "tuple", data := .seq #[u1, u2] } := (sb.2 _ (Nat.ne_of_gt hzl)).trans hT
    have new : ObjOk X.prog X.w (upd H s.heap.objs.size (.frz { cls := .type "tuple", data := .seq #[u1, u2] } (.tup [x, y]))) h'' s.heap.objs.size (.frz { cls := .type "tuple", data := .seq #[u1, u2] } (.tup [x, y])) :=
      ⟨hT2, by show 2 ≤ sizeLine; decide, [u1, u2], .cons (r1 _ _ y1 _ hx) (.cons (r2 _ _ y2 _ hy) .nil), ⟨_, hT2, rfl, _, rfl⟩⟩
    have I1 : Inv X pins σ (upd H s.heap.objs.size (.frz { cls := .type "tuple", data := .seq #[u1, u2] } (.tup [x, y]))) { s with heap := h'', toks := tk } :=
      I.turnedNew (ch := [z, TI, TO, i1, i2]) (fun c o hb q => (sb.2 c (fun q' => hb (by simp [q']))).trans (hk c o (fun q' => hb (by simp [q'])) (fun q' => hb (by simp [q'])) (fun q' => hb (by simp [q'])) (fun q' => hb (by simp [q'])) q)) hf (Nat.le_refl _) new
    refine ⟨.ref s.heap.objs.size, _, I1, rfl, ⟨_, _, x, y, rfl, I.hok.fresh (Nat.le_refl _), rfl, rfl, fun l hl => by rw [hl.inj I sx]; exact hx, fun l hl => by rw [hl.inj I sy]; exact hy⟩, ⟨by omega, z'', ?_, ⟨u1, u2, ?_⟩, ?_, ?_⟩, fun c hcm => ?_⟩
    · exact (sb.2 _ D.TIz).trans (hk _ _ D.TIz D.TITO D.TIi1 D.TIi2 hTI)
    · exact (sb.2 _ D.TOz).trans TO'
    · exact (t1 _ _ s1').mv fun o q => (sb.2 _ (Ne.symm D.zi1)).trans q
    · exact (t2 _ _ s2').mv fun o q => (sb.2 _ (Ne.symm D.zi2)).trans q
    · have hlt : c < s.heap.objs.size := by
        have e' : c = z ∨ c = TI ∨ c = TO ∨ c = i1 ∨ c = i2 := by simpa using hcm
        rcases e' with q | q | q | q | q
        · rw [q]; exact hzl
        · rw [q]; exact Heap.lt_size hTI
        · rw [q]; exact Heap.lt_size hTO
        · rw [q]; obtain ⟨_, e1, _⟩ := h1.ob; exact Heap.lt_size e1
        · rw [q]; obtain ⟨_, e2, _⟩ := h2.ob; exact Heap.lt_size e2
      rw [upd_ne (Nat.ne_of_lt hlt)]
      exact (hf c hcm).1
  done := by
    intro X hP hw hK hc i pins s σ H E I hf st hg
    subst hP hw hK
    obtain ⟨hn, hz, hTI, ⟨x0, y0, hTO⟩, h1, h2⟩ := st
    obtain ⟨xs, ys, sx, sy, hmin, hend⟩ := hg
    obtain ⟨P1, St1, D1, st1, r1, t1⟩ := zdraws (A := X.A.in1) I (I.ok.hd hc) sx h1
    obtain ⟨P2, St2, D2, st2, r2, t2⟩ := zdraws (A := X.A.in1) I (I.ok.hd hc) sy h2
    exact wpAny_pyNext_zipD2_end D D1 D2 hz hTI hTO st1 st2 (by omega) (by omega) (by omega) fun h' tk hk => ⟨rfl, I.turnedL (t' := tk) (ch := [z, TI, TO, i1, i2]) (fun c o hb q =>
      hk c o (fun q' => hb (by simp [q'])) (fun q' => hb (by simp [q'])) (fun q' => hb (by simp [q'])) (fun q' => hb (by simp [q'])) q) hf⟩
  self := fun A i s Q E st h => wpAny_pyIter_zip st.2.1 h
theorem zbegin {u : Value} (I : Inv X pins σ H s) (x : ZSrc X.K H V xs k) (r : RelV V u) :
    ∃ (o : Obj) (Hh : Heap → Prop), Begins u o Hh ∧ Hh s.heap ∧ (∀ h' it, h'.get? it = some o → s.heap.objs.size ≤ it → ZAt V it 0 h' k) ∧ ∀ a, V = .ref a → a < s.heap.objs.size := by
  cases k with
  | l =>
    obtain ⟨a, rfl, hq⟩ := x
    cases r
    obtain ⟨its, rv, p, hz⟩ := I.list hq
    exact ⟨_, _, begins_list a its.toArray, p.isList, fun h' it g le => ⟨a, rfl, Nat.ne_of_lt (Nat.lt_of_lt_of_le p.lt le), _, g, rfl, rfl⟩, fun b e => by cases e; exact p.lt⟩
  | t =>
    obtain ⟨a, rfl, hq⟩ := x
    cases r
    obtain ⟨its, rv, p, hz⟩ := I.tuple hq
    have hlt : a < s.heap.objs.size := by obtain ⟨o, ho, _⟩ := id p; exact Heap.lt_size ho
    exact ⟨_, _, begins_tuple a its.toArray, p, fun h' it g le => ⟨a, rfl, Nat.ne_of_lt (Nat.lt_of_lt_of_le hlt le), _, g, rfl, rfl⟩, fun b e => by cases e; exact hlt⟩
  | s =>
    obtain ⟨z, rfl, rfl⟩ := x
    obtain ⟨t, rfl⟩ := r
    exact ⟨_, _, begins_text z t, trivial, fun h' it g le => ⟨z, t, rfl, _, g, rfl, rfl⟩, fun b e => by cases e⟩
theorem zsep {N : Addr} (h1 : ∀ a, V1 = .ref a → a < N) (h2 : ∀ a, V2 = .ref a → a < N) : ZipSep2 (N + 4) (N + 2) (N + 3) N (N + 1) (zfp V1 N) (zfp V2 (N + 1)) := by
  have n1 : ∀ x, x ∈ zfp V1 N → x ≤ N := fun x hx => by
    unfold zfp at hx
    split at hx
    · next a =>
      have := h1 a rfl
      have e : x = N ∨ x = a := by simpa using hx
      rcases e with e | e
      · exact Nat.le_of_eq e
      · rw [e]; exact Nat.le_of_lt this
    · have e : x = N := by simpa using hx
      exact Nat.le_of_eq e
  have n2 : ∀ x, x ∈ zfp V2 (N + 1) → x = N + 1 ∨ x < N := fun x hx => by
    unfold zfp at hx
    split at hx
    · next a =>
      have := h2 a rfl
      have e : x = N + 1 ∨ x = a := by simpa using hx
      rcases e with e | e
      · exact .inl e
      · rw [e]; exact .inr this
    · have e : x = N + 1 := by simpa using hx
      exact .inl e
  have m1 : N ∈ zfp V1 N := by unfold zfp; split <;> simp
  have m2 : N + 1 ∈ zfp V2 (N + 1) := by unfold zfp; split <;> simp
  have big1 : ∀ d : Nat, 0 < d → N + d ∉ zfp V1 N := fun d hd hm => by have := n1 _ hm; exact absurd this (Nat.not_le.mpr (Nat.lt_add_of_pos_right hd))
  have big2 : ∀ d : Nat, 1 < d → N + d ∉ zfp V2 (N + 1) := fun d hd hm => by
    rcases n2 _ hm with e | e
    · have : d = 1 := Nat.add_left_cancel e
      omega
    · exact absurd e (Nat.not_lt.mpr (Nat.le_add_right _ _))
  have ne : ∀ c d : Nat, c ≠ d → N + c ≠ N + d := fun c d hcd e => hcd (Nat.add_left_cancel e)
  exact ⟨ne 2 4 (by decide), ne 3 4 (by decide), ne 2 3 (by decide), ne 2 0 (by decide), m1, big1 4 (by decide), big1 3 (by decide), ne 2 1 (by decide), m2, big2 4 (by decide), big2 3 (by decide), fun hm => by
    rcases n2 _ hm with e | e
    · exact absurd e (ne 0 1 (by decide))
    · exact absurd e (Nat.lt_irrefl _), big1 1 (by decide)⟩
def iZipG (K : PySem.W.Frag) (ta : TA) : TI := fun σ H R => ta σ H fun vs H1 => ∃ V1 V2 xs ys k1 k2, vs = [V1, V2] ∧ ZSrc K H1 V1 xs k1 ∧ ZSrc K H1 V2 ys k2 ∧ R (ItzG K V1 k1 V2 k2 (min xs.length ys.length)) H1
theorem pi_zipG {e e2 : Expr} {ta : TA} {p pos tpos : Pos} {elts : List Expr} {kk : Nat} (hg : Gl X "zip") (hm : X.mg "zip" = none) (ha : PA X [e, e2] ta)
    (hs : starEach [e, e2] X.env = (false, eval e X.env) :: starEach [e2] X.env := by rfl) (hpl : (backTo pos (starEach [e2] X.env)).any (·.1) = false := by rfl) :
    PI X (.Tuple elts kk tpos) (.Call (.Name "zip" p) [e, e2] [] pos) (iZipG X.K ta) := by
  refine ⟨fun pins s σ H R I h => ?_⟩
  refine Call_ (ld_blt I hg hm PyProof.Rows.boot_zip (PyProof.Rows.callWith_type1 (thn (ha.run pos pins s σ H _ I h) fun us s1 ⟨vs, H1, I1, r1, q1⟩ => ?_) hs hpl))
  obtain ⟨V1, V2, xs, ys, k1, k2, ex, sx, sy, q⟩ := q1
  subst ex
  cases r1 with
  | cons r rr =>
    cases rr with
    | cons r' rr =>
      cases rr
      have fresh5 : ∀ c, c ∈ [s1.heap.objs.size + 4, s1.heap.objs.size + 2, s1.heap.objs.size + 3, s1.heap.objs.size, s1.heap.objs.size + 1] → FpOk X pins H1 c := fun c hcm => by
        have e' : c = s1.heap.objs.size + 4 ∨ c = s1.heap.objs.size + 2 ∨ c = s1.heap.objs.size + 3 ∨ c = s1.heap.objs.size ∨ c = s1.heap.objs.size + 1 := by simpa using hcm
        have hle : s1.heap.objs.size ≤ c := by
          rcases e' with z | z | z | z | z
          · rw [z]; exact Nat.le_add_right _ _
          · rw [z]; exact Nat.le_add_right _ _
          · rw [z]; exact Nat.le_add_right _ _
          · rw [z]; exact Nat.le_refl _
          · rw [z]; exact Nat.le_add_right _ _
        exact I1.fpOk hle (I1.hok.fresh hle)
      obtain ⟨o1, P1, B1, b1, a1, l1⟩ := zbegin I1 sx r
      obtain ⟨o2, P2, B2, b2, a2, l2⟩ := zbegin I1 sy r'
      refine zip_begins2 B1 B2 b1 b2 fun h' hz hTI hTO g1 g2 hsz hk => wpAny_pyIter_zip hz ?_
      have I2 : Inv X pins σ H1 { s1 with heap := h' } := I1.kept (t' := s1.toks) hk
      exact ⟨s1.heap.objs.size + 4, [s1.heap.objs.size + 4, s1.heap.objs.size + 2, s1.heap.objs.size + 3, s1.heap.objs.size, s1.heap.objs.size + 1], _, _, H1, rfl, I2, turn_zipG (zsep l1 l2), ⟨Nat.zero_le _, hz, hTI, ⟨_, _, hTO⟩, a1 _ _ g1 (Nat.le_refl _), a2 _ _ g2 (Nat.le_add_right _ _)⟩, fresh5, q⟩
end
/-! the core's -/
section
variable {X : Cx} {cm : String → Addr} {W : WX} {K : PySem.W.Frag} {H : Hp} {h : Wh} {p pos : Pos} {a b : Expr}
def zOf (x : Cv) (h : CH) : Option (List Cv) := match x with
  | .str z => some (signs z)
  | .tup xs => some xs
  | .lv xs => some xs
  | .fz xs => some xs
  | .ref a => (match h a with | some (.lst xs) => some xs | _ => none)
  | _ => none
def kOf (x : Cv) : ZK := match x with | .str _ => .s | .tup _ => .t | _ => .l
theorem signs_rel (z : Str) : RelCs K cm H h (signs z) (z.cps.toList.map fun c => L2.V.str ⟨#[c]⟩) := by
  unfold signs
  generalize z.cps.toList = l
  induction l with
  | nil => exact .nil
  | cons c l ih => exact .cons (.str _) ih
theorem zOf_ok {x : Cv} {V : L2.V} {xs : List Cv} (S : Rst K cm H h) (r : RelC K cm H h x V) (e : zOf x h.c = some xs) : ∃ Vs, ZSrc K H V Vs (kOf x) ∧ RelCs K cm H h xs Vs := by
  cases r with
  | str z => cases e; exact ⟨_, ⟨z, rfl, rfl⟩, signs_rel z⟩
  | tup e1 d r => cases e; exact ⟨_, ⟨_, rfl, e1⟩, r⟩
  | lv e1 n r => cases e; exact ⟨_, ⟨_, rfl, .inl (.inl e1)⟩, r⟩
  | fz e1 r => cases e; exact ⟨_, ⟨_, rfl, e1.sq⟩, r⟩
  | ref a =>
    unfold zOf at e
    dsimp only at e
    split at e
    · next ys ey =>
      cases e
      obtain ⟨Vs, e1, r1⟩ := S.obj _ _ ey
      exact ⟨_, ⟨_, rfl, .inl (.inl e1)⟩, r1⟩
    · cases e
  | non => cases e
  | bl _ => cases e
  | int _ => cases e
  | ov _ _ _ => cases e
def zipC (xs ys : List Cv) : List Cv := List.zipWith (fun x y => Cv.tup [x, y]) xs ys
def cZip (cs : CTs) : CI := fun env h q e => cs env h (fun vs h1 => match vs with
  | [x, y] => ∃ xs ys, zOf x h1 = some xs ∧ zOf y h1 = some ys ∧ q (zipC xs ys) (fun g => zOf x g = some xs ∧ zOf y g = some ys) h1
  | _ => False) e
theorem yi_zip {x y : Cv} {V1 V2 : L2.V} {xs ys : List Cv} (S : Rst K cm H h) (r1 : RelC K cm H h x V1) (r2 : RelC K cm H h y V2) :
    YI K cm (ItzG K V1 (kOf x) V2 (kOf y) (min xs.length ys.length)) (zipC xs ys) (fun g => zOf x g = some xs ∧ zOf y g = some ys) H h := fun i H1 h1 l S1 g => by
  obtain ⟨Us, u1, u2⟩ := zOf_ok S1 (r1.mono S l) g.1
  obtain ⟨Ws, w1, w2⟩ := zOf_ok S1 (r2.mono S l) g.2
  refine ⟨fun hi => ⟨Us, Ws, u1, w1, by rw [← u2.length, ← w2.length], by unfold zipC at hi; rw [List.length_zipWith] at hi; exact hi⟩, fun v hv => ?_⟩
  unfold zipC at hv
  rw [List.getElem?_zipWith] at hv
  cases ex : xs[i]? with
  | none => rw [ex] at hv; simp at hv
  | some x0 =>
    cases ey : ys[i]? with
    | none => rw [ex, ey] at hv; simp at hv
    | some y0 =>
      rw [ex, ey] at hv
      cases hv
      obtain ⟨V, eV, rV⟩ := u2.get ex
      obtain ⟨U, eU, rU⟩ := w2.get ey
      refine ⟨⟨Us, Ws, V, U, u1, w1, by rw [← u2.length, ← w2.length], eV, eU⟩, ?_⟩
      rintro Z H2 ⟨T, od, x', y', z1, n, zd, z2, z3, z4⟩
      subst z1 z2
      have q1 := z3 Us u1
      have q2 := z4 Ws w1
      rw [eV] at q1
      rw [eU] at q2
      cases q1
      cases q2
      exact ⟨Le.plain S1 n, S1.plain n, .tup (.inl (.inr ⟨_, upd_same⟩)) (.inl ⟨_, _, upd_same, zd⟩) (.cons (rV.mono S1 (Le.plain S1 n)) (.cons (rU.mono S1 (Le.plain S1 n)) .nil))⟩
theorem ci_zip {ca : CTs} {elts : List Expr} {kk : Nat} {tpos : Pos} (hg : Gl X "zip") (hm : X.mg "zip" = none) (ha : PA X [a, b] (aOf X.K cm W ca))
    (hs : starEach [a, b] X.env = (false, eval a X.env) :: starEach [b] X.env := by rfl) (hpl : (backTo pos (starEach [b] X.env)).any (·.1) = false := by rfl) :
    PI X (.Tuple elts kk tpos) (.Call (.Name "zip" p) [a, b] [] pos) (iOf X.K cm W (cZip ca)) := weakI (fun σ H R ⟨h, env, q, e, S, RE, hc, k, kx⟩ =>
  ⟨h, env, _, e, S, RE, hc, fun H1 h1 xs Vs l S1 r c1 => by
    dsimp only at c1
    split at c1
    · obtain ⟨v, u, rfl, r1, r2⟩ := r.two
      obtain ⟨xs, ys, ex, ey, c2⟩ := c1
      obtain ⟨Us, u1, u2⟩ := zOf_ok S1 r1 ex
      obtain ⟨Ws, w1, w2⟩ := zOf_ok S1 r2 ey
      refine ⟨_, _, Us, Ws, _, _, rfl, u1, w1, ?_⟩
      rw [← u2.length, ← w2.length]
      exact k _ _ _ _ _ l S1 (yi_zip S1 r1 r2) c2
    · exact c1.elim, kx⟩) (pi_zipG hg hm ha hs hpl)
end
end Co
end
section
/-! Core31: [..] * n as a live list. -/
namespace Co
open PySem PySem.Spec PyProof.Rows L2
def gMulL : CG := fun x y h q => match x, y with
  | .lv xs, .int k => 0 ≤ k ∧ k < 1000000 ∧ xs.length * k.toNat ≤ 1000000 ∧ ∀ p, h p = none → q (.ref p) (cup h p (.lst (List.replicate k.toNat xs).flatten))
  | _, _ => False
section
variable {K : PySem.W.Frag} {cm : String → Addr} {H : Hp} {h : Wh}
theorem relCs_rep {xs : List Cv} {Vs : List V} (r : RelCs K cm H h xs Vs) : ∀ n, RelCs K cm H h (List.replicate n xs).flatten (List.replicate n Vs).flatten
  | 0 => .nil
  | n + 1 => by
    rw [List.replicate_succ, List.replicate_succ, List.flatten_cons, List.flatten_cons]
    exact r.append (relCs_rep r n)
theorem oc_mulL : OpC K cm rRep gMulL := fun H h x y V U q Q S r1 r2 c k => by
  cases r1 <;> first | exact c.elim | skip
  next e n r =>
    cases r2 <;> first | exact c.elim | skip
    refine ⟨_, _, _, rfl, rfl, e, by have := c.1; omega, by have := c.2.1; omega, ?_, newLst S (relCs_rep r _) c.2.2.2 k⟩
    rw [← r.length]
    exact Nat.le_trans c.2.2.1 (by decide)
end
end Co
end
section
namespace Lw
open PySem L2 Co
/-- _law_asks -/
def m_law_asks_2 : CS :=
  sSeq (sAsg (cLst (cNil)) (gNm 3)) (sSeq (sAsg (cOp2 gMulL (cLv (cCons (cC (.int 0)) (cNil))) (cCall gLen (cCons (cVar 2) (cNil)))) (gNm 6)) (sSeq (sFor (cRng2 (cCons (cC (.int 3)) (cCons (cCall gMin2 (cCons (cCall gLen (cCons (cVar 0) (cNil))) (cCons (cC (.int 63)) (cNil)))) (cNil)))) (gNm 5) (sSeq (sAsg (cCallD 4 d_law_digits (cCons (cVar 0) (cCons (cVar 5) (cCons (cC (.int 1080)) (cCons (cC (.int 24)) (cNil)))))) (gNm 7)) (sSeq (sAsg (cOp2 gMod (cOp2 gFdiv (cOp2 gIx (cVar 7) (cC (.int 22))) (cC (.int 12))) (cCall gLen (cCons (cVar 2) (cNil)))) (gNm 4)) (sSeq (sAsgT (cOp2 gAdd (cOp2 gAdd (cOp2 gIx (cVar 6) (cVar 4)) (cC (.int 1))) (cOp2 gMod (cOp2 gIx (cVar 7) (cC (.int 23))) (cC (.int 3)))) (gSb gSetL (cVar 6) (cVar 4))) (sExpr (cLM gAppend (cVar 3) (cCons (cTup (cCons (cOp2 gIx (cVar 2) (cVar 4)) (cCons (cOp2 gIx (cVar 6) (cVar 4)) (cCons (cCallD 2 d_law_work_2 (cCons (cVar 7) (cCons (cVar 1) (cNil)))) (cNil))))) (cNil)))))))) (sRetF (cVar 3))))
abbrev d_law_asks_2 : CD := dBody 8 m_law_asks_2
theorem u_law_asks_2 (a0 a1 a2 : Cv) (h : CH) (q : Cv → CH → Prop) (e : XQ) : d_law_asks_2 [a0, a1, a2] h q e = m_law_asks_2 [some a0, some a1, some a2, none, none, none, none, none] h ⟨fun _ h1 => q .non h1, q, fun _ _ => False, fun _ _ => False, fun x _ h1 => e x h1⟩ := rfl
/-- _law_done -/
def m_law_done_2 : CS :=
  sRet (cLc [2, 3, 4] (cIt (cVar 1)) (gTp 3 (gsCons (gNm 2) (gsCons (gNm 3) (gsCons (gNm 4) (gsNil))))) (cYes) (cMethD "Table" "does" 4 d_Table_does (cVar 0) (cCons (cVar 2) (cCons (cVar 3) (cCons (cVar 4) (cNil))))))
abbrev d_law_done_2 : CD := dBody 5 m_law_done_2
theorem u_law_done_2 (a0 a1 : Cv) (h : CH) (q : Cv → CH → Prop) (e : XQ) : d_law_done_2 [a0, a1] h q e = m_law_done_2 [some a0, some a1, none, none, none] h ⟨fun _ h1 => q .non h1, q, fun _ _ => False, fun _ _ => False, fun x _ h1 => e x h1⟩ := rfl
/-- _law_doubled -/
def m_law_doubled : CS :=
  sSeq (sAsg (cLst (cNil)) (gNm 2)) (sSeq (sFor (cRng1 (cCons (cCall gLen (cCons (cVar 1) (cNil))) (cNil))) (gNm 3) (sSeq (sExpr (cLM gAppend (cVar 2) (cCons (cVar 3) (cNil)))) (sSeq (sAsg (cCallD 4 d_law_digits (cCons (cVar 0) (cCons (cOp2 gAdd (cC (.int 3)) (cVar 3)) (cCons (cC (.int 1080)) (cCons (cC (.int 24)) (cNil)))))) (gNm 4)) (sExpr (cLM gAppend (cVar 2) (cCons (cOp2 gMod (cOp2 gIx (cVar 4) (cC (.int 21))) (cOp2 gAdd (cVar 3) (cC (.int 1)))) (cNil))))))) (sRet (cOp2 gAdd (cVar 2) (cLstRg (cCall gLen (cCons (cVar 1) (cNil)))))))
abbrev d_law_doubled : CD := dBody 5 m_law_doubled
theorem u_law_doubled (a0 a1 : Cv) (h : CH) (q : Cv → CH → Prop) (e : XQ) : d_law_doubled [a0, a1] h q e = m_law_doubled [some a0, some a1, none, none, none] h ⟨fun _ h1 => q .non h1, q, fun _ _ => False, fun _ _ => False, fun x _ h1 => e x h1⟩ := rfl
/-- _law_right -/
def m_law_right_8 : CS :=
  sSeq (sAsg (cDNew) (gNm 10)) (sSeq (sAsg (cDNew) (gNm 8)) (sSeq (sFor (cZip (cCons (cVar 1) (cCons (cVar 2) (cNil)))) (gTp 2 (gsCons (gNm 7) (gsCons (gNm 6) (gsNil)))) (sSeq (sAsgT (cOp2 gIx (cVar 0) (cVar 7)) (gTp 3 (gsCons (gNm 4) (gsCons (gNm 9) (gsCons (gNm 11) (gsNil)))))) (sSeq (sAsg (cTup (cCons (cC (.str (PySem.Str.ofString "old"))) (cCons (cC .non) (cNil)))) (gNm 5)) (sSeq (sIf (cTest (cOp2 gDNotIn (cVar 7) (cVar 10))) (sAsg (cOp2 gIx (cVar 3) (cVar 7)) (gNm 5)) (sIf (cTest (cOp2 gEq (cOp2 gDGet (cVar 8) (cVar 4)) (cVar 9))) (sAsg (cTup (cCons (cC (.str (PySem.Str.ofString "again"))) (cCons (cOp2 gIx (cOp2 gIx (cVar 3) (cVar 7)) (cC (.int 1))) (cNil)))) (gNm 5)) (sNext))) (sSeq (sDPutC (cVar 10) (cVar 7) (cC (.bl true))) (sSeq (sDPutC (cVar 8) (cVar 4) (cCall gMax2 (cCons (cVar 9) (cCons (cDGet2 (cVar 8) (cVar 4) (cC (.int 0))) (cNil))))) (sIf (cNot (cTt (cCallD 2 d_law_same_2 (cCons (cVar 6) (cCons (cVar 5) (cNil)))))) (sRet (cC (.bl false))) (sNext)))))))) (sRet (cC (.bl true)))))
abbrev d_law_right_8 : CD := dBody 12 m_law_right_8
theorem u_law_right_8 (a0 a1 a2 a3 : Cv) (h : CH) (q : Cv → CH → Prop) (e : XQ) : d_law_right_8 [a0, a1, a2, a3] h q e = m_law_right_8 [some a0, some a1, some a2, some a3, none, none, none, none, none, none, none, none] h ⟨fun _ h1 => q .non h1, q, fun _ _ => False, fun _ _ => False, fun x _ h1 => e x h1⟩ := rfl
/-- law -/
def m_law_k05 : CS :=
  sSeq (sAsg (cCallD 3 d_law_names_3 (cCons (cVar 0) (cCons (cC (.int 0)) (cCons (cOp2 gAdd (cC (.int 1)) (cOp2 gMod (cCallD 2 d_law_cell_at (cCons (cVar 0) (cCons (cC (.int 1)) (cNil)))) (cC (.int 8)))) (cNil))))) (gNm 7)) (sSeq (sAsg (cCallD 3 d_law_names_3 (cCons (cVar 0) (cCons (cC (.int 2)) (cCons (cOp2 gAdd (cC (.int 1)) (cOp2 gMod (cOp2 gFdiv (cCallD 2 d_law_cell_at (cCons (cVar 0) (cCons (cC (.int 1)) (cNil)))) (cC (.int 8))) (cC (.int 5)))) (cNil))))) (gNm 3)) (sSeq (sAsg (cCallD 3 d_law_asks_2 (cCons (cVar 0) (cCons (cVar 7) (cCons (cVar 3) (cNil))))) (gNm 4)) (sSeq (sAsg (cMakeD "Table" 3 d_Table___init__ (cCons (cTup (cNil)) (cCons (cTup (cNil)) (cNil)))) (gNm 11)) (sSeq (sAsg (cCallD 2 d_law_done_2 (cCons (cVar 11) (cCons (cVar 4) (cNil)))) (gNm 1)) (sSeq (sIf (cTest (cOp2 gNe (cLc [14] (cIt (cVar 1)) (gNm 14) (cTest (cOp2 gNe (cOp2 gIx (cVar 14) (cC (.int 0))) (cC (.str (PySem.Str.ofString "done"))))) (cVar 14)) (cLv (cNil)))) (sRet (cC (.bl false))) (sNext)) (sSeq (sAsg (cCallD 2 d_law_doubled (cCons (cVar 0) (cCons (cVar 4) (cNil)))) (gNm 9)) (sSeq (sAsg (cMakeD "Table" 3 d_Table___init__ (cCons (cTup (cNil)) (cCons (cTup (cNil)) (cNil)))) (gNm 10)) (sSeq (sAsg (cCallD 2 d_law_done_2 (cCons (cVar 10) (cCons (cLc [13] (cIt (cVar 9)) (gNm 13) (cYes) (cOp2 gIx (cVar 4) (cVar 13))) (cNil)))) (gNm 12)) (sSeq (sIf (cOr (cNot (cTt (cCallD 4 d_law_right_8 (cCons (cVar 4) (cCons (cVar 9) (cCons (cVar 12) (cCons (cVar 1) (cNil)))))))) (cNot (cTt (cCallD 2 d_law_same_2 (cCons (cMethD "Table" "told" 1 d_Table_told (cVar 10) cNil) (cCons (cMethD "Table" "told" 1 d_Table_told (cVar 11) cNil) (cNil))))))) (sRet (cC (.bl false))) (sNext)) (sSeq (sAsg (cMakeD "Table" 3 d_Table___init__ (cCons (cTup (cNil)) (cCons (cTup (cNil)) (cNil)))) (gNm 5)) (sSeq (sExpr (cCallD 2 d_law_done_2 (cCons (cVar 5) (cCons (cSl gSlice (cVar 4) cNoPart (cPart (cOp2 gFdiv (cCall gLen (cCons (cVar 4) (cNil))) (cC (.int 2))))) (cNil))))) (sSeq (sAsgT (cMethD "Table" "told" 1 d_Table_told (cVar 5) cNil) (gTp 2 (gsCons (gNm 6) (gsCons (gNm 2) (gsNil))))) (sSeq (sAsg (cMakeD "Table" 3 d_Table___init__ (cCons (cVar 6) (cCons (cVar 2) (cNil)))) (gNm 8)) (sSeq (sIf (cTest (cOp2 gNe (cCallD 2 d_law_done_2 (cCons (cVar 8) (cCons (cSl gSlice (cVar 4) (cPart (cOp2 gFdiv (cCall gLen (cCons (cVar 4) (cNil))) (cC (.int 2)))) cNoPart) (cNil)))) (cSl gSlice (cVar 1) (cPart (cOp2 gFdiv (cCall gLen (cCons (cVar 4) (cNil))) (cC (.int 2)))) cNoPart))) (sRet (cC (.bl false))) (sNext)) (sRet (cCallD 2 d_law_same_2 (cCons (cMethD "Table" "told" 1 d_Table_told (cVar 8) cNil) (cCons (cMethD "Table" "told" 1 d_Table_told (cVar 11) cNil) (cNil)))))))))))))))))))
abbrev d_law_k05 : CD := dBody 15 m_law_k05
theorem u_law_k05 (a0 : Cv) (h : CH) (q : Cv → CH → Prop) (e : XQ) : d_law_k05 [a0] h q e = m_law_k05 [some a0, none, none, none, none, none, none, none, none, none, none, none, none, none, none] h ⟨fun _ h1 => q .non h1, q, fun _ _ => False, fun _ _ => False, fun x _ h1 => e x h1⟩ := rfl
end Lw
end
section
open PySem L2 Co
namespace Lw
/-! ### dicts of numbers -/
theorem dval_put (d : List (Key × Cv)) (k u : Key) (v : Cv) : dval (dput d k v) u = if u = k then some v else dval d u := by
  have hmap : ∀ l : List (Key × Cv), dval (l.map fun p => if p.1 = k then (p.1, v) else p) u = if u = k then (dval l u).map (fun _ => v) else dval l u := by
    intro l
    induction l with
    | nil => simp [dval]
    | cons p l ih =>
      unfold dval at ih ⊢
      rw [List.map_cons, List.find?_cons, List.find?_cons]
      by_cases h : p.1 = k
      · rw [if_pos h]
        by_cases h2 : p.1 = u
        · simp [h2, h2 ▸ h]
        · have h3 : ¬ u = k := fun z => h2 (h.trans z.symm)
          rw [if_neg h3] at ih ⊢
          dsimp only
          rw [decide_eq_false h2]
          exact ih
      · rw [if_neg h]
        by_cases h2 : p.1 = u
        · have h3 : ¬ u = k := fun z => h (h2.trans z)
          rw [decide_eq_true h2, if_neg h3]
        · rw [decide_eq_false h2]
          exact ih
  have hany : ∀ l : List (Key × Cv), (l.any fun p => decide (p.1 = k)) = (dval l k).isSome := by
    intro l
    induction l with
    | nil => rfl
    | cons p l ih =>
      unfold dval at ih ⊢
      rw [List.any_cons, List.find?_cons, ih]
      by_cases h : p.1 = k
      · rw [decide_eq_true h]; rfl
      · rw [decide_eq_false h]; rfl
  have happ : ∀ (l : List (Key × Cv)), dval (l ++ [(k, v)]) u = (dval l u).or (if u = k then some v else none) := by
    intro l
    unfold dval
    rw [List.find?_append, List.find?_cons, List.find?_nil]
    by_cases h : k = u
    · subst h
      rw [decide_eq_true rfl]
      cases List.find? (fun kv => decide (kv.1 = k)) l <;> simp
    · have h' : ¬ u = k := fun z => h z.symm
      rw [decide_eq_false h]
      cases List.find? (fun kv => decide (kv.1 = u)) l <;> simp [h']
  unfold dput
  rw [hany]
  cases h : dval d k with
  | some w =>
    rw [if_pos (by rfl), hmap]
    by_cases h2 : u = k
    · subst h2; simp [h]
    · simp [h2]
  | none =>
    rw [if_neg (by simp), happ]
    by_cases h2 : u = k
    · subst h2; simp [h]
    · simp [h2]
end Lw
end
section
open PySem L2 Co Lw
local macro_rules | `(tactic| walk_at "run") => `(tactic| try simp only [sSeq, sIf, sRet, sRetN, sAsg, sAsgT, sExpr, sNext, sFor, sAug, gNm, gTp, gsCons, gsNil, cVar, cC, cOp2, cOp1, cTest, cTt, cTru, cNot, cAnd, cOr, cNotV, cAndV, cOrV, cIfE, cCall, cCons, cNil, cTup, cLv, cCallD, cChain, cIt, cWalk, cRng1, cRng2, cRng3, cLc, cYes, cIsi, cSl, cPart, cNoPart, cTM, cLM, cLst, cdel_cup, cup_same, cup_cup, gAppend, gPop, sRetF, gMod, gFdiv, gAdd, gI, gIc, gMul, gNeg, gCmp, gEq, gNe, gIsN, gNotN, isN, gIx, gSlice, gLen, gTuple, gList, gInt, gAbs, gMax2, gMin2, gAllAny, gJoin, asQ, asF, asL, isLst, cdel, tyC, isB, cwipe, List.set_cons_zero, List.set_cons_succ, List.getElem?_cons_zero, List.getElem?_cons_succ, List.length_cons, List.length_nil, if_true, if_false, Bool.false_eq_true, true_and, and_true, reduceCtorEq, Nat.reduceAdd, Nat.reduceLeDiff, beq_self_eq_true, Bool.not_true, Bool.not_false, Bool.and_true, Bool.true_and, Bool.or_true, Bool.or_false, Bool.false_or, Bool.and_false, Bool.false_and, Bool.true_or, gSb, gSetL, atI_0, atI_1, atI_2, atI_3, atI_4, atI_5, ixN_20, ixN_21, ixN_10, ixN_30, ixN_31, ixN_32, gSorted, gListL, gRev, gSortedSet, gLenSet, sBrk, sCont, gPow, gInB, Nat.zero_add])
local macro_rules | `(tactic| walk_at "runh") => `(tactic| try simp only [sSeq, sIf, sRet, sRetN, sAsg, sAsgT, sExpr, sNext, sFor, sAug, gNm, gTp, gsCons, gsNil, cVar, cC, cOp2, cOp1, cTest, cTt, cTru, cNot, cAnd, cOr, cNotV, cAndV, cOrV, cIfE, cCall, cCons, cNil, cTup, cLv, cCallD, cChain, cIt, cWalk, cRng1, cRng2, cRng3, cLc, cYes, cIsi, cSl, cPart, cNoPart, cTM, cLM, cLst, cdel_cup, cup_same, cup_cup, gAppend, gPop, sRetF, gMod, gFdiv, gAdd, gI, gIc, gMul, gNeg, gCmp, gEq, gNe, gIsN, gNotN, isN, gIx, gSlice, gLen, gTuple, gList, gInt, gAbs, gMax2, gMin2, gAllAny, gJoin, asQ, asF, asL, isLst, cdel, tyC, isB, cwipe, List.set_cons_zero, List.set_cons_succ, List.getElem?_cons_zero, List.getElem?_cons_succ, List.length_cons, List.length_nil, if_true, if_false, Bool.false_eq_true, true_and, and_true, reduceCtorEq, Nat.reduceAdd, Nat.reduceLeDiff, beq_self_eq_true, Bool.not_true, Bool.not_false, Bool.and_true, Bool.true_and, Bool.or_true, Bool.or_false, Bool.false_or, Bool.and_false, Bool.false_and, Bool.true_or, gSb, gSetL, atI_0, atI_1, atI_2, atI_3, atI_4, atI_5, ixN_20, ixN_21, ixN_10, ixN_30, ixN_31, ixN_32, gSorted, gListL, gRev, gSortedSet, gLenSet, sBrk, sCont, gPow, gInB, Nat.zero_add, *])
local macro_rules | `(tactic| walk_at "w") => `(tactic| try simp only [kBl_bl, kSm_s, kLs_s, kOb_s, w_var0, w_var1, w_var2, w_var3, w_var4, w_var5, w_var6, w_var7, w_var8, w_var9, w_var10, w_var11, w_var12, w_var13, w_var14, w_var15, w_var16, w_var17, w_var18, w_var19, w_var20, w_var21, w_var22, w_var23, w_var24, w_var25, w_var26, w_var27, w_var28, w_var29, w_var30, w_var31, w_c, w_op2, w_op1, w_test, w_tt, w_and, w_or, w_not, w_andv, w_orv, w_notv, w_ife, w_chain, w_tru_non, w_tru_bl, w_tru_int, w_tru_str, w_tru_tup, w_tru_lv, w_tru_fz, w_nil, w_cons, w_tup, w_lv, w_lst, w_call, w_calld, w_sl, w_nopart, kInt_i, w_part, w_lm, w_tm, w_strex, w_islst, w_isi, w_isi_non_bool, w_isi_non_int, w_isi_non_str, w_isi_non_tuple, w_isi_non_list, w_isi_bl_bool, w_isi_bl_int, w_isi_bl_str, w_isi_bl_tuple, w_isi_bl_list, w_isi_int_bool, w_isi_int_int, w_isi_int_str, w_isi_int_tuple, w_isi_int_list, w_isi_str_bool, w_isi_str_int, w_isi_str_str, w_isi_str_tuple, w_isi_str_list, w_isi_tup_bool, w_isi_tup_int, w_isi_tup_str, w_isi_tup_tuple, w_isi_tup_list, w_isi_lv_bool, w_isi_lv_int, w_isi_lv_str, w_isi_lv_tuple, w_isi_lv_list, w_isi_fz_bool, w_isi_fz_int, w_isi_fz_str, w_isi_fz_tuple, w_isi_fz_list, w_gI, w_gIc, w_add_i, w_add_s, w_add_t, w_add_l, w_mul_i, w_mul_s, w_neg, w_cmp_i, w_cmp_s, w_gEq_non_non, w_gNe_non_non, w_gEq_non_bl, w_gNe_non_bl, w_gEq_non_int, w_gNe_non_int, w_gEq_non_str, w_gNe_non_str, w_gEq_non_tup, w_gNe_non_tup, w_gEq_non_lv, w_gNe_non_lv, w_gEq_non_fz, w_gNe_non_fz, w_gEq_bl_non, w_gNe_bl_non, w_gEq_bl_bl, w_gNe_bl_bl, w_gEq_bl_int, w_gNe_bl_int, w_gEq_bl_str, w_gNe_bl_str, w_gEq_bl_tup, w_gNe_bl_tup, w_gEq_bl_lv, w_gNe_bl_lv, w_gEq_bl_fz, w_gNe_bl_fz, w_gEq_int_non, w_gNe_int_non, w_gEq_int_bl, w_gNe_int_bl, w_gEq_int_int, w_gNe_int_int, w_gEq_int_str, w_gNe_int_str, w_gEq_int_tup, w_gNe_int_tup, w_gEq_int_lv, w_gNe_int_lv, w_gEq_int_fz, w_gNe_int_fz, w_gEq_str_non, w_gNe_str_non, w_gEq_str_bl, w_gNe_str_bl, w_gEq_str_int, w_gNe_str_int, w_gEq_str_str, w_gNe_str_str, w_gEq_str_tup, w_gNe_str_tup, w_gEq_str_lv, w_gNe_str_lv, w_gEq_str_fz, w_gNe_str_fz, w_gEq_tup_non, w_gNe_tup_non, w_gEq_tup_bl, w_gNe_tup_bl, w_gEq_tup_int, w_gNe_tup_int, w_gEq_tup_str, w_gNe_tup_str, w_gEq_tup_tup, w_gNe_tup_tup, w_gEq_tup_lv, w_gNe_tup_lv, w_gEq_tup_fz, w_gNe_tup_fz, w_gEq_lv_non, w_gNe_lv_non, w_gEq_lv_bl, w_gNe_lv_bl, w_gEq_lv_int, w_gNe_lv_int, w_gEq_lv_str, w_gNe_lv_str, w_gEq_lv_tup, w_gNe_lv_tup, w_gEq_lv_lv, w_gNe_lv_lv, w_gEq_lv_fz, w_gNe_lv_fz, w_gEq_fz_non, w_gNe_fz_non, w_gEq_fz_bl, w_gNe_fz_bl, w_gEq_fz_int, w_gNe_fz_int, w_gEq_fz_str, w_gNe_fz_str, w_gEq_fz_tup, w_gNe_fz_tup, w_gEq_fz_lv, w_gNe_fz_lv, w_gEq_fz_fz, w_gNe_fz_fz, w_isn, w_notn, isN_non, isN_bl, isN_int, isN_str, isN_tup, isN_lv, isN_fz, isN_ref, isN_ov, w_ix_tup, w_ix_lv, w_ix_fz, w_ix_str, w_ix_ref, w_slice_tup, w_slice_lv, w_slice_fz, w_slice_str, w_slice_ref, w_len_tup, w_tuple_tup, w_list_tup, w_listl_tup, w_len_lv, w_tuple_lv, w_list_lv, w_listl_lv, w_len_fz, w_tuple_fz, w_list_fz, w_listl_fz, w_gTuple_ref, w_gList_ref, w_gListL_ref, w_len_str, kLen_l, kLen_d, w_len_ref, w_int_i, w_int_b, w_str_i, w_abs, w_max2, w_min2, w_rev_t, w_rev_l, w_append, w_pop, w_setl, w_next, w_brk, w_cont, w_seq, w_expr, w_ret, w_retn, w_if, kRetF_r, w_retf, w_asg, w_asgt, w_gnm, w_gtp, w_gsnil, w_gscons, w_gsb, w_aug0, w_aug1, w_aug2, w_aug3, w_aug4, w_aug5, w_aug6, w_aug7, w_aug8, w_aug9, w_aug10, w_aug11, w_aug12, w_aug13, w_aug14, w_aug15, w_aug16, w_aug17, w_aug18, w_aug19, w_aug20, w_aug21, w_aug22, w_aug23, w_aug24, w_aug25, w_aug26, w_aug27, w_aug28, w_aug29, w_aug30, w_aug31, w_for, w_it, w_walk_tup, w_walk_lv, w_walk_fz, w_walk_str, kWk_l, kWk_k, w_walk_ref, kI1_i, kI2_i, kI3_i, w_rng1, w_rng2, w_rng3, w_lc, w_lcl, w_yes, w_fld, w_obj_ref, w_obj_ov, w_methd, w_maked, w_makev, w_fldc, kRf_r, w_raise, w_try, kEx_t, kEx_f, kEx_n, kDc_s, kDr_s, kDr_l, w_dget1, w_dget2, w_dpop, w_din, w_dnotin, w_dict_ref, w_dict_tup, w_listd, w_slock, w_clock, w_iso, w_maxl_lv, w_pop0, w_clear, w_split, w_starts, w_isit, kKy_s, kKy_i, w_dnew, w_dget, w_dput, w_up, kTx_s, w_tryas, kXc_s, kIs_hd, kIs_tl, w_isx, w_isx_r, w_lq, w_islq, cwipe, cup_same, cup_cup, List.set_cons_zero, List.set_cons_succ, List.length_cons, List.length_nil, if_true, if_false, Bool.false_eq_true, true_and, and_true, reduceCtorEq, Nat.reduceAdd, Nat.reduceLeDiff, beq_self_eq_true, Bool.not_true, Bool.not_false, Bool.and_true, Bool.true_and, Bool.or_true, Bool.or_false, Bool.false_or, Bool.and_false, Bool.false_and, Bool.true_or, Nat.zero_add, atI_0, atI_1, atI_2, atI_3, atI_4, atI_5, ixN_20, ixN_21, ixN_10, ixN_30, ixN_31, ixN_32, cput, List.lookup_cons, List.lookup_nil])
local macro_rules | `(tactic| walk_at "s") => `(tactic| try simp only [kBl_bl, kSm_s, kLs_s, kOb_s, w_var0, w_var1, w_var2, w_var3, w_var4, w_var5, w_var6, w_var7, w_var8, w_var9, w_var10, w_var11, w_var12, w_var13, w_var14, w_var15, w_var16, w_var17, w_var18, w_var19, w_var20, w_var21, w_var22, w_var23, w_var24, w_var25, w_var26, w_var27, w_var28, w_var29, w_var30, w_var31, w_c, w_op2, w_op1, w_test, w_tt, w_and, w_or, w_not, w_andv, w_orv, w_notv, w_ife, w_chain, w_tru_non, w_tru_bl, w_tru_int, w_tru_str, w_tru_tup, w_tru_lv, w_tru_fz, w_nil, w_cons, w_tup, w_lv, w_lst, w_call, w_calld, w_sl, w_nopart, kInt_i, w_part, w_lm, w_tm, w_strex, w_islst, w_isi, w_isi_non_bool, w_isi_non_int, w_isi_non_str, w_isi_non_tuple, w_isi_non_list, w_isi_bl_bool, w_isi_bl_int, w_isi_bl_str, w_isi_bl_tuple, w_isi_bl_list, w_isi_int_bool, w_isi_int_int, w_isi_int_str, w_isi_int_tuple, w_isi_int_list, w_isi_str_bool, w_isi_str_int, w_isi_str_str, w_isi_str_tuple, w_isi_str_list, w_isi_tup_bool, w_isi_tup_int, w_isi_tup_str, w_isi_tup_tuple, w_isi_tup_list, w_isi_lv_bool, w_isi_lv_int, w_isi_lv_str, w_isi_lv_tuple, w_isi_lv_list, w_isi_fz_bool, w_isi_fz_int, w_isi_fz_str, w_isi_fz_tuple, w_isi_fz_list, w_gI, w_gIc, w_add_i, w_add_s, w_add_t, w_add_l, w_mul_i, w_mul_s, w_neg, w_cmp_i, w_cmp_s, w_gEq_non_non, w_gNe_non_non, w_gEq_non_bl, w_gNe_non_bl, w_gEq_non_int, w_gNe_non_int, w_gEq_non_str, w_gNe_non_str, w_gEq_non_tup, w_gNe_non_tup, w_gEq_non_lv, w_gNe_non_lv, w_gEq_non_fz, w_gNe_non_fz, w_gEq_bl_non, w_gNe_bl_non, w_gEq_bl_bl, w_gNe_bl_bl, w_gEq_bl_int, w_gNe_bl_int, w_gEq_bl_str, w_gNe_bl_str, w_gEq_bl_tup, w_gNe_bl_tup, w_gEq_bl_lv, w_gNe_bl_lv, w_gEq_bl_fz, w_gNe_bl_fz, w_gEq_int_non, w_gNe_int_non, w_gEq_int_bl, w_gNe_int_bl, w_gEq_int_int, w_gNe_int_int, w_gEq_int_str, w_gNe_int_str, w_gEq_int_tup, w_gNe_int_tup, w_gEq_int_lv, w_gNe_int_lv, w_gEq_int_fz, w_gNe_int_fz, w_gEq_str_non, w_gNe_str_non, w_gEq_str_bl, w_gNe_str_bl, w_gEq_str_int, w_gNe_str_int, w_gEq_str_str, w_gNe_str_str, w_gEq_str_tup, w_gNe_str_tup, w_gEq_str_lv, w_gNe_str_lv, w_gEq_str_fz, w_gNe_str_fz, w_gEq_tup_non, w_gNe_tup_non, w_gEq_tup_bl, w_gNe_tup_bl, w_gEq_tup_int, w_gNe_tup_int, w_gEq_tup_str, w_gNe_tup_str, w_gEq_tup_tup, w_gNe_tup_tup, w_gEq_tup_lv, w_gNe_tup_lv, w_gEq_tup_fz, w_gNe_tup_fz, w_gEq_lv_non, w_gNe_lv_non, w_gEq_lv_bl, w_gNe_lv_bl, w_gEq_lv_int, w_gNe_lv_int, w_gEq_lv_str, w_gNe_lv_str, w_gEq_lv_tup, w_gNe_lv_tup, w_gEq_lv_lv, w_gNe_lv_lv, w_gEq_lv_fz, w_gNe_lv_fz, w_gEq_fz_non, w_gNe_fz_non, w_gEq_fz_bl, w_gNe_fz_bl, w_gEq_fz_int, w_gNe_fz_int, w_gEq_fz_str, w_gNe_fz_str, w_gEq_fz_tup, w_gNe_fz_tup, w_gEq_fz_lv, w_gNe_fz_lv, w_gEq_fz_fz, w_gNe_fz_fz, w_isn, w_notn, isN_non, isN_bl, isN_int, isN_str, isN_tup, isN_lv, isN_fz, isN_ref, isN_ov, w_ix_tup, w_ix_lv, w_ix_fz, w_ix_str, w_ix_ref, w_slice_tup, w_slice_lv, w_slice_fz, w_slice_str, w_slice_ref, w_len_tup, w_tuple_tup, w_list_tup, w_listl_tup, w_len_lv, w_tuple_lv, w_list_lv, w_listl_lv, w_len_fz, w_tuple_fz, w_list_fz, w_listl_fz, w_gTuple_ref, w_gList_ref, w_gListL_ref, w_len_str, kLen_l, kLen_d, w_len_ref, w_int_i, w_int_b, w_str_i, w_abs, w_max2, w_min2, w_rev_t, w_rev_l, w_append, w_pop, w_setl, w_next, w_brk, w_cont, w_expr, w_ret, w_retn, w_if, kRetF_r, w_retf, w_asg, w_asgt, w_gnm, w_gtp, w_gsnil, w_gscons, w_gsb, w_aug0, w_aug1, w_aug2, w_aug3, w_aug4, w_aug5, w_aug6, w_aug7, w_aug8, w_aug9, w_aug10, w_aug11, w_aug12, w_aug13, w_aug14, w_aug15, w_aug16, w_aug17, w_aug18, w_aug19, w_aug20, w_aug21, w_aug22, w_aug23, w_aug24, w_aug25, w_aug26, w_aug27, w_aug28, w_aug29, w_aug30, w_aug31, w_for, w_it, w_walk_tup, w_walk_lv, w_walk_fz, w_walk_str, kWk_l, kWk_k, w_walk_ref, kI1_i, kI2_i, kI3_i, w_rng1, w_rng2, w_rng3, w_lc, w_lcl, w_yes, w_fld, w_obj_ref, w_obj_ov, w_methd, w_maked, w_makev, w_fldc, kRf_r, w_raise, w_try, kEx_t, kEx_f, kEx_n, kDc_s, kDr_s, kDr_l, w_dget1, w_dget2, w_dpop, w_din, w_dnotin, w_dict_ref, w_dict_tup, w_listd, w_slock, w_clock, w_iso, w_maxl_lv, w_pop0, w_clear, w_split, w_starts, w_isit, kKy_s, kKy_i, w_dnew, w_dget, w_dput, w_up, kTx_s, w_tryas, kXc_s, kIs_hd, kIs_tl, w_isx, w_isx_r, w_lq, w_islq, cwipe, cup_same, cup_cup, List.set_cons_zero, List.set_cons_succ, List.length_cons, List.length_nil, if_true, if_false, Bool.false_eq_true, true_and, and_true, reduceCtorEq, Nat.reduceAdd, Nat.reduceLeDiff, beq_self_eq_true, Bool.not_true, Bool.not_false, Bool.and_true, Bool.true_and, Bool.or_true, Bool.or_false, Bool.false_or, Bool.and_false, Bool.false_and, Bool.true_or, Nat.zero_add, atI_0, atI_1, atI_2, atI_3, atI_4, atI_5, ixN_20, ixN_21, ixN_10, ixN_30, ixN_31, ixN_32, cput, List.lookup_cons, List.lookup_nil])
local macro_rules | `(tactic| walk_at "t") => `(tactic| try simp only [kBl_bl, kSm_s, kLs_s, kOb_s, w_var0, w_var1, w_var2, w_var3, w_var4, w_var5, w_var6, w_var7, w_var8, w_var9, w_var10, w_var11, w_var12, w_var13, w_var14, w_var15, w_var16, w_var17, w_var18, w_var19, w_var20, w_var21, w_var22, w_var23, w_var24, w_var25, w_var26, w_var27, w_var28, w_var29, w_var30, w_var31, w_c, w_op2, w_op1, w_test, w_tt, w_and, w_or, w_not, w_andv, w_orv, w_notv, w_ife, w_chain, w_tru_non, w_tru_bl, w_tru_int, w_tru_str, w_tru_tup, w_tru_lv, w_tru_fz, w_nil, w_cons, w_tup, w_lv, w_lst, w_call, w_calld, w_sl, w_nopart, kInt_i, w_part, w_lm, w_tm, w_strex, w_islst, w_isi, w_isi_non_bool, w_isi_non_int, w_isi_non_str, w_isi_non_tuple, w_isi_non_list, w_isi_bl_bool, w_isi_bl_int, w_isi_bl_str, w_isi_bl_tuple, w_isi_bl_list, w_isi_int_bool, w_isi_int_int, w_isi_int_str, w_isi_int_tuple, w_isi_int_list, w_isi_str_bool, w_isi_str_int, w_isi_str_str, w_isi_str_tuple, w_isi_str_list, w_isi_tup_bool, w_isi_tup_int, w_isi_tup_str, w_isi_tup_tuple, w_isi_tup_list, w_isi_lv_bool, w_isi_lv_int, w_isi_lv_str, w_isi_lv_tuple, w_isi_lv_list, w_isi_fz_bool, w_isi_fz_int, w_isi_fz_str, w_isi_fz_tuple, w_isi_fz_list, w_gI, w_gIc, w_add_i, w_add_s, w_add_t, w_add_l, w_mul_i, w_mul_s, w_neg, w_cmp_i, w_cmp_s, w_gEq_non_non, w_gNe_non_non, w_gEq_non_bl, w_gNe_non_bl, w_gEq_non_int, w_gNe_non_int, w_gEq_non_str, w_gNe_non_str, w_gEq_non_tup, w_gNe_non_tup, w_gEq_non_lv, w_gNe_non_lv, w_gEq_non_fz, w_gNe_non_fz, w_gEq_bl_non, w_gNe_bl_non, w_gEq_bl_bl, w_gNe_bl_bl, w_gEq_bl_int, w_gNe_bl_int, w_gEq_bl_str, w_gNe_bl_str, w_gEq_bl_tup, w_gNe_bl_tup, w_gEq_bl_lv, w_gNe_bl_lv, w_gEq_bl_fz, w_gNe_bl_fz, w_gEq_int_non, w_gNe_int_non, w_gEq_int_bl, w_gNe_int_bl, w_gEq_int_int, w_gNe_int_int, w_gEq_int_str, w_gNe_int_str, w_gEq_int_tup, w_gNe_int_tup, w_gEq_int_lv, w_gNe_int_lv, w_gEq_int_fz, w_gNe_int_fz, w_gEq_str_non, w_gNe_str_non, w_gEq_str_bl, w_gNe_str_bl, w_gEq_str_int, w_gNe_str_int, w_gEq_str_str, w_gNe_str_str, w_gEq_str_tup, w_gNe_str_tup, w_gEq_str_lv, w_gNe_str_lv, w_gEq_str_fz, w_gNe_str_fz, w_gEq_tup_non, w_gNe_tup_non, w_gEq_tup_bl, w_gNe_tup_bl, w_gEq_tup_int, w_gNe_tup_int, w_gEq_tup_str, w_gNe_tup_str, w_gEq_tup_tup, w_gNe_tup_tup, w_gEq_tup_lv, w_gNe_tup_lv, w_gEq_tup_fz, w_gNe_tup_fz, w_gEq_lv_non, w_gNe_lv_non, w_gEq_lv_bl, w_gNe_lv_bl, w_gEq_lv_int, w_gNe_lv_int, w_gEq_lv_str, w_gNe_lv_str, w_gEq_lv_tup, w_gNe_lv_tup, w_gEq_lv_lv, w_gNe_lv_lv, w_gEq_lv_fz, w_gNe_lv_fz, w_gEq_fz_non, w_gNe_fz_non, w_gEq_fz_bl, w_gNe_fz_bl, w_gEq_fz_int, w_gNe_fz_int, w_gEq_fz_str, w_gNe_fz_str, w_gEq_fz_tup, w_gNe_fz_tup, w_gEq_fz_lv, w_gNe_fz_lv, w_gEq_fz_fz, w_gNe_fz_fz, w_isn, w_notn, isN_non, isN_bl, isN_int, isN_str, isN_tup, isN_lv, isN_fz, isN_ref, isN_ov, w_ix_tup, w_ix_lv, w_ix_fz, w_ix_str, w_ix_ref, w_slice_tup, w_slice_lv, w_slice_fz, w_slice_str, w_slice_ref, w_len_tup, w_tuple_tup, w_list_tup, w_listl_tup, w_len_lv, w_tuple_lv, w_list_lv, w_listl_lv, w_len_fz, w_tuple_fz, w_list_fz, w_listl_fz, w_gTuple_ref, w_gList_ref, w_gListL_ref, w_len_str, kLen_l, kLen_d, w_len_ref, w_int_i, w_int_b, w_str_i, w_abs, w_max2, w_min2, w_rev_t, w_rev_l, w_append, w_pop, w_setl, w_next, w_brk, w_cont, w_expr, w_ret, w_retn, w_if, kRetF_r, w_retf, w_asg, w_asgt, w_gnm, w_gtp, w_gsnil, w_gscons, w_gsb, w_aug0, w_aug1, w_aug2, w_aug3, w_aug4, w_aug5, w_aug6, w_aug7, w_aug8, w_aug9, w_aug10, w_aug11, w_aug12, w_aug13, w_aug14, w_aug15, w_aug16, w_aug17, w_aug18, w_aug19, w_aug20, w_aug21, w_aug22, w_aug23, w_aug24, w_aug25, w_aug26, w_aug27, w_aug28, w_aug29, w_aug30, w_aug31, w_for, w_it, w_walk_tup, w_walk_lv, w_walk_fz, w_walk_str, kWk_l, kWk_k, w_walk_ref, kI1_i, kI2_i, kI3_i, w_rng1, w_rng2, w_rng3, w_lc, w_lcl, w_yes, w_fld, w_obj_ref, w_obj_ov, w_methd, w_maked, w_makev, w_fldc, kRf_r, w_raise, w_try, kEx_t, kEx_f, kEx_n, kDc_s, kDr_s, kDr_l, w_dget1, w_dget2, w_dpop, w_din, w_dnotin, w_dict_ref, w_dict_tup, w_listd, w_slock, w_clock, w_iso, w_maxl_lv, w_pop0, w_clear, w_split, w_starts, w_isit, kKy_s, kKy_i, w_dnew, w_dget, w_dput, w_up, kTx_s, w_tryas, kXc_s, kIs_hd, kIs_tl, w_isx, w_isx_r, w_lq, w_islq, cwipe, cup_same, cup_cup, List.set_cons_zero, List.set_cons_succ, List.length_cons, List.length_nil, if_true, if_false, Bool.false_eq_true, true_and, and_true, reduceCtorEq, Nat.reduceAdd, Nat.reduceLeDiff, beq_self_eq_true, Bool.not_true, Bool.not_false, Bool.and_true, Bool.true_and, Bool.or_true, Bool.or_false, Bool.false_or, Bool.and_false, Bool.false_and, Bool.true_or, Nat.zero_add, atI_0, atI_1, atI_2, atI_3, atI_4, atI_5, ixN_20, ixN_21, ixN_10, ixN_30, ixN_31, ixN_32, cput, List.lookup_cons, List.lookup_nil, cutG_map, cutS_T, T_len, List.length_map, T_app, List.length_append, decide_true, decide_false, ofs_eq, ofs_beq, String.reduceEq, String.reduceBEq])
local macro_rules | `(tactic| walk_at "h") => `(tactic| try simp only [kBl_bl, kSm_s, kLs_s, kOb_s, w_var0, w_var1, w_var2, w_var3, w_var4, w_var5, w_var6, w_var7, w_var8, w_var9, w_var10, w_var11, w_var12, w_var13, w_var14, w_var15, w_var16, w_var17, w_var18, w_var19, w_var20, w_var21, w_var22, w_var23, w_var24, w_var25, w_var26, w_var27, w_var28, w_var29, w_var30, w_var31, w_c, w_op2, w_op1, w_test, w_tt, w_and, w_or, w_not, w_andv, w_orv, w_notv, w_ife, w_chain, w_tru_non, w_tru_bl, w_tru_int, w_tru_str, w_tru_tup, w_tru_lv, w_tru_fz, w_nil, w_cons, w_tup, w_lv, w_lst, w_call, w_calld, w_sl, w_nopart, kInt_i, w_part, w_lm, w_tm, w_strex, w_islst, w_isi, w_isi_non_bool, w_isi_non_int, w_isi_non_str, w_isi_non_tuple, w_isi_non_list, w_isi_bl_bool, w_isi_bl_int, w_isi_bl_str, w_isi_bl_tuple, w_isi_bl_list, w_isi_int_bool, w_isi_int_int, w_isi_int_str, w_isi_int_tuple, w_isi_int_list, w_isi_str_bool, w_isi_str_int, w_isi_str_str, w_isi_str_tuple, w_isi_str_list, w_isi_tup_bool, w_isi_tup_int, w_isi_tup_str, w_isi_tup_tuple, w_isi_tup_list, w_isi_lv_bool, w_isi_lv_int, w_isi_lv_str, w_isi_lv_tuple, w_isi_lv_list, w_isi_fz_bool, w_isi_fz_int, w_isi_fz_str, w_isi_fz_tuple, w_isi_fz_list, w_gI, w_gIc, w_add_i, w_add_s, w_add_t, w_add_l, w_mul_i, w_mul_s, w_neg, w_cmp_i, w_cmp_s, w_gEq_non_non, w_gNe_non_non, w_gEq_non_bl, w_gNe_non_bl, w_gEq_non_int, w_gNe_non_int, w_gEq_non_str, w_gNe_non_str, w_gEq_non_tup, w_gNe_non_tup, w_gEq_non_lv, w_gNe_non_lv, w_gEq_non_fz, w_gNe_non_fz, w_gEq_bl_non, w_gNe_bl_non, w_gEq_bl_bl, w_gNe_bl_bl, w_gEq_bl_int, w_gNe_bl_int, w_gEq_bl_str, w_gNe_bl_str, w_gEq_bl_tup, w_gNe_bl_tup, w_gEq_bl_lv, w_gNe_bl_lv, w_gEq_bl_fz, w_gNe_bl_fz, w_gEq_int_non, w_gNe_int_non, w_gEq_int_bl, w_gNe_int_bl, w_gEq_int_int, w_gNe_int_int, w_gEq_int_str, w_gNe_int_str, w_gEq_int_tup, w_gNe_int_tup, w_gEq_int_lv, w_gNe_int_lv, w_gEq_int_fz, w_gNe_int_fz, w_gEq_str_non, w_gNe_str_non, w_gEq_str_bl, w_gNe_str_bl, w_gEq_str_int, w_gNe_str_int, w_gEq_str_str, w_gNe_str_str, w_gEq_str_tup, w_gNe_str_tup, w_gEq_str_lv, w_gNe_str_lv, w_gEq_str_fz, w_gNe_str_fz, w_gEq_tup_non, w_gNe_tup_non, w_gEq_tup_bl, w_gNe_tup_bl, w_gEq_tup_int, w_gNe_tup_int, w_gEq_tup_str, w_gNe_tup_str, w_gEq_tup_tup, w_gNe_tup_tup, w_gEq_tup_lv, w_gNe_tup_lv, w_gEq_tup_fz, w_gNe_tup_fz, w_gEq_lv_non, w_gNe_lv_non, w_gEq_lv_bl, w_gNe_lv_bl, w_gEq_lv_int, w_gNe_lv_int, w_gEq_lv_str, w_gNe_lv_str, w_gEq_lv_tup, w_gNe_lv_tup, w_gEq_lv_lv, w_gNe_lv_lv, w_gEq_lv_fz, w_gNe_lv_fz, w_gEq_fz_non, w_gNe_fz_non, w_gEq_fz_bl, w_gNe_fz_bl, w_gEq_fz_int, w_gNe_fz_int, w_gEq_fz_str, w_gNe_fz_str, w_gEq_fz_tup, w_gNe_fz_tup, w_gEq_fz_lv, w_gNe_fz_lv, w_gEq_fz_fz, w_gNe_fz_fz, w_isn, w_notn, isN_non, isN_bl, isN_int, isN_str, isN_tup, isN_lv, isN_fz, isN_ref, isN_ov, w_ix_tup, w_ix_lv, w_ix_fz, w_ix_str, w_ix_ref, w_slice_tup, w_slice_lv, w_slice_fz, w_slice_str, w_slice_ref, w_len_tup, w_tuple_tup, w_list_tup, w_listl_tup, w_len_lv, w_tuple_lv, w_list_lv, w_listl_lv, w_len_fz, w_tuple_fz, w_list_fz, w_listl_fz, w_gTuple_ref, w_gList_ref, w_gListL_ref, w_len_str, kLen_l, kLen_d, w_len_ref, w_int_i, w_int_b, w_str_i, w_abs, w_max2, w_min2, w_rev_t, w_rev_l, w_append, w_pop, w_setl, w_next, w_brk, w_cont, w_expr, w_ret, w_retn, w_if, kRetF_r, w_retf, w_asg, w_asgt, w_gnm, w_gtp, w_gsnil, w_gscons, w_gsb, w_aug0, w_aug1, w_aug2, w_aug3, w_aug4, w_aug5, w_aug6, w_aug7, w_aug8, w_aug9, w_aug10, w_aug11, w_aug12, w_aug13, w_aug14, w_aug15, w_aug16, w_aug17, w_aug18, w_aug19, w_aug20, w_aug21, w_aug22, w_aug23, w_aug24, w_aug25, w_aug26, w_aug27, w_aug28, w_aug29, w_aug30, w_aug31, w_for, w_it, w_walk_tup, w_walk_lv, w_walk_fz, w_walk_str, kWk_l, kWk_k, w_walk_ref, kI1_i, kI2_i, kI3_i, w_rng1, w_rng2, w_rng3, w_lc, w_lcl, w_yes, w_fld, w_obj_ref, w_obj_ov, w_methd, w_maked, w_makev, w_fldc, kRf_r, w_raise, w_try, kEx_t, kEx_f, kEx_n, kDc_s, kDr_s, kDr_l, w_dget1, w_dget2, w_dpop, w_din, w_dnotin, w_dict_ref, w_dict_tup, w_listd, w_slock, w_clock, w_iso, w_maxl_lv, w_pop0, w_clear, w_split, w_starts, w_isit, kKy_s, kKy_i, w_dnew, w_dget, w_dput, w_up, kTx_s, w_tryas, kXc_s, kIs_hd, kIs_tl, w_isx, w_isx_r, w_lq, w_islq, cwipe, cup_same, cup_cup, List.set_cons_zero, List.set_cons_succ, List.length_cons, List.length_nil, if_true, if_false, Bool.false_eq_true, true_and, and_true, reduceCtorEq, Nat.reduceAdd, Nat.reduceLeDiff, beq_self_eq_true, Bool.not_true, Bool.not_false, Bool.and_true, Bool.true_and, Bool.or_true, Bool.or_false, Bool.false_or, Bool.and_false, Bool.false_and, Bool.true_or, Nat.zero_add, atI_0, atI_1, atI_2, atI_3, atI_4, atI_5, ixN_20, ixN_21, ixN_10, ixN_30, ixN_31, ixN_32, cput, List.lookup_cons, List.lookup_nil, cutG_map, cutS_T, T_len, List.length_map, T_app, List.length_append, decide_true, decide_false, ofs_eq, ofs_beq, String.reduceEq, String.reduceBEq, *])
local macro_rules | `(tactic| walk_at "o") => `(tactic| (refine seq_step ?_; walk_at "s"))
local macro_rules | `(tactic| walk_at "sd") => `(tactic| first | decide | omega | exact .inl (.inl ⟨by omega, by omega⟩) | exact .inl (.inr ⟨by omega, by omega⟩) | exact cdivw (by omega) (by omega) | (rw [sizeLine_eq]; omega) | exact okd_int _ | exact okd_bl _ | exact okd_non | exact ⟨by omega, by omega⟩)
local macro_rules | `(tactic| walk_at "g") => `(tactic| (walk_at "t"; repeat ((with_reducible refine And.intro ?_ ?_); (next => walk_at "sd"); walk_at "t")))
local macro_rules | `(tactic| walk_at "og") => `(tactic| (refine seq_step ?_; walk_at "g"))
local macro_rules | `(tactic| walk_at "gh") => `(tactic| (walk_at "h"; repeat ((with_reducible refine And.intro ?_ ?_); (next => walk_at "sd"); walk_at "h")))
local macro_rules | `(tactic| walk_at "ogh") => `(tactic| (refine seq_step ?_; walk_at "gh"))
open PySem L2 Co Lw
namespace Lw
/-! the drawing from one cell's digits: a live list of two numbers -/
def Rok (r : Addr) (h : CH) : Prop := ∃ a b : Int, h r = some (.lst [.int a, .int b]) ∧ 0 ≤ a ∧ 0 ≤ b ∧ b < 2 ^ 31
def Fr (r : Addr) (h h' : CH) : Prop := ∀ a, a ≠ r → h a ≠ none → h' a = h a
theorem Fr.refl {r : Addr} {h : CH} : Fr r h h := fun _ _ _ => rfl
theorem Fr.trans {r : Addr} {h h1 h2 : CH} (x : Fr r h h1) (y : Fr r h1 h2) : Fr r h h2 := fun a n e => by
  have := x a n e
  rw [← this]
  exact y a n (by rw [this]; exact e)
theorem Fr.new {r p : Addr} {h : CH} {o : Cob} (n : h p = none) : Fr r h (cup h p o) := fun a _ e => cup_ne fun z => e (z ▸ n)
theorem Fr.write {r : Addr} {h : CH} {o : Cob} : Fr r h (cup h r o) := fun a n _ => cup_ne n
theorem Fr.at {r p : Addr} {h h' : CH} {o : Cob} (f : Fr r h h') (n : p ≠ r) (e : h p = some o) : h' p = some o := by rw [f p n (by rw [e]; simp), e]
/-- writing what was new since -/
theorem Fr.upd {r p : Addr} {h h' : CH} {o : Cob} (f : Fr r h h') (n : h p = none) : Fr r h (cup h' p o) := fun a m e => by
  have : a ≠ p := fun z => e (z ▸ n)
  rw [cup_ne this]; exact f a m e
theorem Rok.ne {r p : Addr} {h : CH} (R : Rok r h) (n : h p = none) : p ≠ r := fun e => by
  obtain ⟨a, b, e1, _⟩ := R
  rw [← e, n] at e1
  cases e1
theorem Rok.cup {r p : Addr} {h : CH} {o : Cob} (R : Rok r h) (n : p ≠ r) : Rok r (cup h p o) := by
  obtain ⟨a, b, e1, r1⟩ := R
  exact ⟨a, b, by rw [cup_ne (Ne.symm n)]; exact e1, r1⟩
theorem p_take {r : Addr} {base : Int} {h q e} (R : Rok r h) (b0 : 0 < base) (b1 : base < 2 ^ 30) (k : ∀ v h', 0 ≤ v → v < base → Rok r h' → Fr r h h' → q (.int v) h') : d_law_take [.ref r, .int base] h q e := by
  obtain ⟨a, b, hr, a0, c0, c1⟩ := R
  rw [u_law_take]; unfold m_law_take
  walk_at "run"
  simp only [hr]
  walk_at "run"
  obtain ⟨m0, m1⟩ := emod_bd (b * 48271 + 7919) (b := 2147483629) (by decide)
  obtain ⟨n0, n1⟩ := emod_bd (((b * 48271 + 7919) % 2147483629) * 69621 + 101) (b := 2147483587) (by decide)
  split
  · obtain ⟨v0, v1⟩ := emod_bd ((((b * 48271 + 7919) % 2147483629) * 69621 + 101) % 2147483587 / 7) b0
    exact ⟨mul_ok c0 (by omega), by decide, mul_ok m0 (by omega), by decide, cdivw (by decide) (by decide), b0, k _ _ v0 v1 ⟨_, _, cup_same, by omega, n0, by omega⟩ .write⟩
  · obtain ⟨v0, v1⟩ := emod_bd a b0
    exact ⟨b0, cdivw b0 (by omega), k _ _ v0 v1 ⟨_, _, cup_same, Int.ediv_nonneg a0 (by omega), c0, c1⟩ .write⟩
theorem p_rest {c : Int} {h q e} (k : ∀ r h', Rok r h' → h r = none → Fr r h h' → q (.ref r) h') : d_law_rest [.int c] h q e := by
  rw [u_law_rest]; unfold m_law_rest
  walk_at "run"
  obtain ⟨m0, m1⟩ := emod_bd c (b := 2147483587) (by decide)
  refine ⟨⟨by decide, by decide, by decide⟩, ?_⟩
  by_cases z : (10 : Int) ^ (18 : Int).toNat ≤ c
  · simp only [z, decide_true, if_true]
    have : (10 : Int) ^ (18 : Int).toNat = 1000000000000000000 := by decide
    exact ⟨by decide, fun r hr => k r _ ⟨_, _, cup_same, by omega, by omega, by omega⟩ hr (.new hr)⟩
  · simp only [z, decide_false, Bool.false_eq_true, if_false]
    exact ⟨by decide, fun r hr => k r _ ⟨_, _, cup_same, by omega, by omega, by omega⟩ hr (.new hr)⟩
/-! names -/
def lw (l : List Nat) : Prop := ∀ c ∈ l, 97 ≤ c ∧ c ≤ 122
def Nm (s : Str) : Prop := 1 ≤ s.length ∧ s.length ≤ 8 ∧ lw s.cps.toList
def L26 : List Nat := (List.range 26).map (· + 97)
theorem L26_str : Str.ofString "abcdefghijklmnopqrstuvwxyz" = T L26 := by decide +kernel
theorem L26_len : L26.length = 26 := rfl
theorem L26_lw : lw L26 := fun c hc => by
  obtain ⟨i, hi, rfl⟩ := List.mem_map.mp hc
  have := List.mem_range.mp hi
  omega
theorem L26_nd : L26.Nodup := by decide
theorem lw_asc {s : Str} (h : lw s.cps.toList) : asc s := fun c hc => by have := h c hc; omega
theorem Nm.asc {s : Str} (h : Nm s) : asc s := lw_asc h.2.2
theorem ix26 {v : Int} {h : CH} {k1 : Cv → CH → Prop} (v0 : 0 ≤ v) (v1 : v < 26) (k : ∀ c, c ∈ L26 → k1 (.str (T [c])) h) : gIx (.str (T L26)) (.int v) h k1 := by
  obtain ⟨c, hc, e⟩ := atI_ex (xs := L26) v0 (by rw [L26_len]; omega)
  have e' : L2.atI (T L26).cps.toList v = some c := e
  walk_at "run"
  simp only [e']
  exact ⟨by rw [T_len, L26_len, sizeLine_eq]; decide, k c hc⟩
/-- a word of drawn letters -/
theorem word_lc {r : Addr} {g : CTg} {ce : CT} {env : CEnv} {lo : Int} {n : Nat} {h : CH} {q : List Cv → CH → Prop}
    (hs : ∀ (i : Int) h1 k1, (d_law_take [.ref r, .int 26] h1 (fun v h2 => gIx (.str (T L26)) v h2 k1) fun _ _ => False) → g (.int i) env h1 (fun env1 h2 => ce env1 h2 k1 fun _ _ => False) fun _ _ => False)
    (R : Rok r h) (k : ∀ cs h', cs.length = n → lw cs → Rok r h' → Fr r h h' → q ((cs.map fun c => [c]).map fun x => .str (T x)) h') : cLcGo g cYes ce (fun _ => True) env (intsR lo n) [] h q := by
  refine cLcGo_ind (fun xs acc h' => Rok r h' ∧ Fr r h h' ∧ ∃ cs m j, acc = (cs.map fun c => [c]).map (fun x => .str (T x)) ∧ lw cs ∧ cs.length + m = n ∧ xs = intsR j m) (fun _ _ _ _ => trivial) ?_ ?_ _ _ _ ⟨R, .refl, [], n, lo, rfl, fun _ z => (by cases z), by simp, rfl⟩
  · rintro x xs _ h' K ⟨R', F', cs, m, j, rfl, hl, hn, hx⟩ hK
    cases m with
    | zero => cases hx
    | succ m =>
      rw [intsR_cons] at hx
      cases hx
      walk_at "run"
      refine hs _ _ _ (p_take R' (by decide) (by decide) fun v h2 v0 v1 R2 F2 => ix26 v0 v1 fun c hc => hK _ _ ⟨R2, F'.trans F2, cs ++ [c], m, _, by simp, fun d hd => ?_, by simp; omega, rfl⟩)
      rcases List.mem_append.mp hd with z | z
      · exact hl d z
      · rw [List.mem_singleton.mp z]; exact L26_lw c hc
  · rintro _ h' ⟨R', F', cs, m, j, rfl, hl, hn, hx⟩
    cases m with
    | zero => exact k cs h' (by omega) hl R' F'
    | succ m => rw [intsR_cons] at hx; cases hx
theorem flat_ones : ∀ cs : List Nat, (cs.map fun c => [c]).flatten = cs
  | [] => rfl
  | c :: cs => by rw [List.map_cons, List.flatten_cons, flat_ones cs]; rfl
/-- .. put together -/
def ones (cs : List Nat) : List Str := (cs.map fun c => [c]).map T
theorem ones_eq (cs : List Nat) : some ((cs.map fun c => [c]).map fun x => Cv.str (T x)) = some ((ones cs).map Cv.str) := by unfold ones; rw [List.map_map, List.map_map, List.map_map]; rfl
theorem empty_T : Str.ofString "" = T [] := by decide
theorem ones_sum {cs : List Nat} (hn : cs.length ≤ 1000) : ((ones cs).map (·.length)).sum + (ones cs).length * (Str.ofString "").length ≤ 16777216 := by
  rw [empty_T, T_len]
  unfold ones
  simp
  have : (cs.map ((fun x : Str => x.length) ∘ T ∘ fun c => [c])).sum = cs.length := by
    clear hn
    induction cs with
    | nil => rfl
    | cons c cs ih => rw [List.map_cons, List.sum_cons, ih]; simp [T_len]; omega
  rw [this]; omega
theorem ones_join (cs : List Nat) : Txt.join (Str.ofString "") (ones cs) = T cs := by unfold ones; rw [empty_T, join_nil, flat_ones]
end Lw
open PySem L2 Co Lw
namespace Lw
/-- a statement that ends, or leaves all as it is -/
theorem seq_same {c d : CS} {env : CEnv} {h : CH} {R : CEnds} (h1 : ∀ K : CEnv → CH → Prop, K env h → c env h { R with nx := K }) (h2 : d env h R) : sSeq c d env h R := h1 _ h2
theorem ix_map {α : Type} {f : α → Cv} {xs : List α} {i : Int} {k : Cv → Prop} (h0 : 0 ≤ i) (h1 : i < xs.length) (hk : ∀ x ∈ xs, k (f x)) : kSm (L2.atI (xs.map f) i) k := by
  obtain ⟨x, hx, e⟩ := atI_map (f := f) h0 h1
  rw [e]
  exact hk x hx
theorem ix_dig {ds : List Int} {b i : Int} {k : Cv → Prop} (hd : ∀ d ∈ ds, 0 ≤ d ∧ d < b) (h0 : 0 ≤ i) (h1 : i < ds.length) (hk : ∀ d, 0 ≤ d → d < b → k (.int d)) : kSm (L2.atI (ds.map .int) i) k :=
  ix_map h0 h1 fun x hx => hk x (hd x hx).1 (hd x hx).2
theorem ix_at {α : Type} {f : α → Cv} {ds : List α} {i : Int} {d : α} {k : Cv → Prop} (h0 : 0 ≤ i) (h1 : i < ds.length) (hk : k (f (ds.getD i.toNat d))) : kSm (L2.atI (ds.map f) i) k := by
  unfold L2.atI L2.ixN
  rw [if_pos h0, if_pos (by rw [List.length_map]; exact h1)]
  have hi : i.toNat < ds.length := by omega
  simp only [Option.bind_some, List.getElem?_map, List.getElem?_eq_getElem hi, Option.map_some]
  rw [List.getD_eq_getElem?_getD, List.getElem?_eq_getElem hi] at hk
  exact hk
theorem getD_mem {α : Type} {l : List α} {n : Nat} {d : α} (h : n < l.length) : l.getD n d ∈ l := by
  rw [List.getD_eq_getElem?_getD, List.getElem?_eq_getElem h]
  exact List.getElem_mem h
/-- a comprehension over a range -/
theorem cLc_range {α : Type} {g : CTg} {ce : CT} {G : CH → Prop} {env : CEnv} {h : CH} {q : List Cv → CH → Prop} {lo : Int} {n : Nat} (f : Nat → α) (c : α → Cv) (hG : G h)
    (hs : ∀ i, i < n → ∀ (k1 : Cv → CH → Prop), k1 (c (f i)) h → g (.int (lo + i)) env h (fun env1 h1 => ce env1 h1 k1 fun _ _ => False) fun _ _ => False) (k : q (((List.range n).map f).map c) h) : cLcGo g cYes ce G env (intsR lo n) [] h q := by
  refine cLcGo_map (fun x => match x with | .int j => c (f (j - lo).toNat) | _ => .non) hG _ ?_ ?_
  · intro x hx k1 hk
    unfold intsR at hx
    obtain ⟨i, hi, rfl⟩ := List.mem_map.mp hx
    have hk' : k1 (c (f (lo + (i : Int) - lo).toNat)) h := hk
    rw [show (lo + (i : Int) - lo).toNat = i by omega] at hk'
    exact hs i (List.mem_range.mp hi) k1 hk'
  · unfold intsR
    rw [List.map_map] at k ⊢
    have e : ((fun x => match x with | Cv.int j => c (f (j - lo).toNat) | _ => Cv.non) ∘ fun (i : Nat) => Cv.int (lo + i)) = c ∘ f := by
      funext i
      show c (f (lo + (i : Int) - lo).toNat) = c (f i)
      rw [show (lo + (i : Int) - lo).toNat = i by omega]
    rw [e]
    exact k
/-- a comprehension with a test -/
theorem cLc_if {α β : Type} {g : CTg} {tt : CB} {ce : CT} {G : CH → Prop} {env : CEnv} {h : CH} {q : List Cv → CH → Prop} (c : α → Cv) (p : α → Bool) (f : α → β) (d : β → Cv) (hG : G h) (as : List α)
    (hs : ∀ a ∈ as, ∀ (k1 : Cv → CH → Prop) (k2 : CH → Prop), (if p a = true then k1 (d (f a)) h else k2 h) →
      g (c a) env h (fun env1 h1 => tt env1 h1 (fun b h2 => if b = true then ce env1 h2 k1 fun _ _ => False else k2 h2) fun _ _ => False) fun _ _ => False)
    (k : q (((as.filter p).map f).map d) h) : cLcGo g tt ce G env (as.map c) [] h q := by
  have go : ∀ (as : List α) (acc : List Cv), (∀ a ∈ as, ∀ (k1 : Cv → CH → Prop) (k2 : CH → Prop), (if p a = true then k1 (d (f a)) h else k2 h) →
      g (c a) env h (fun env1 h1 => tt env1 h1 (fun b h2 => if b = true then ce env1 h2 k1 fun _ _ => False else k2 h2) fun _ _ => False) fun _ _ => False) →
      q (acc ++ ((as.filter p).map f).map d) h → cLcGo g tt ce G env (as.map c) acc h q := by
    intro as
    induction as with
    | nil => intro acc _ k; exact ⟨hG, by simpa using k⟩
    | cons a as ih =>
      intro acc hs k
      refine ⟨hG, hs a (List.mem_cons_self ..) (fun y h3 => cLcGo g tt ce G env (as.map c) (acc ++ [y]) h3 q) (fun h3 => cLcGo g tt ce G env (as.map c) acc h3 q) ?_⟩
      have ih' := fun acc => ih acc (fun z hz => hs z (List.mem_cons_of_mem _ hz))
      rw [List.filter_cons] at k
      by_cases hp : p a = true
      · rw [if_pos hp] at k ⊢
        exact ih' _ (by simpa using k)
      · rw [if_neg hp] at k ⊢
        exact ih' _ k
  exact go as [] hs (by simpa using k)
theorem ceq_nil (xs : List Cv) : ceq (.lv xs) (.lv []) = xs.isEmpty := by rw [ceq_ll]; cases xs <;> rfl
theorem ceq_tnil (xs : List Cv) : ceq (.tup xs) (.tup []) = xs.isEmpty := by rw [ceq_tt]; cases xs <;> rfl
theorem okd_lv {xs : List Cv} (h1 : ∀ x ∈ xs, cdat x = true) (h2 : ∀ x ∈ xs, cdep x ≤ 50) : okd (.lv xs) := okd_of (by rw [cdat]; exact cdats_of h1) (by rw [cdep]; have := cdeps_le h2; omega)
theorem okd_tup {xs : List Cv} (h1 : ∀ x ∈ xs, cdat x = true) (h2 : ∀ x ∈ xs, cdep x ≤ 50) : okd (.tup xs) := okd_of (by rw [cdat]; exact cdats_of h1) (by rw [cdep]; have := cdeps_le h2; omega)
theorem cdat_str {s : Str} (h : asc s) : cdat (.str s) = true := strOk_of h
theorem cdat_lit (s : String) (h : (Str.ofString s).cps.toList.all (fun c => decide (c < 128)) = true := by decide +kernel) : cdat (.str (Str.ofString s)) = true := cdat_str (asc_lit h)
theorem nodup_range_map {α : Type} {f : Nat → α} {n : Nat} (inj : ∀ i j, i < n → j < n → f i = f j → i = j) : ((List.range n).map f).Nodup := by
  unfold List.Nodup
  rw [List.pairwise_map]
  refine List.Pairwise.imp_of_mem (fun {a b} ha hb hab => ?_) (List.nodup_range (n := n))
  exact fun e => hab (inj a b (List.mem_range.mp ha) (List.mem_range.mp hb) e)
/-- a comprehension of which each item is as told -/
theorem cLc_each {g : CTg} {ce : CT} {G : CH → Prop} {env : CEnv} {h : CH} {q : List Cv → CH → Prop} (P : Cv → Prop) (hG : G h) :
    ∀ (xs acc : List Cv), (∀ x ∈ xs, ∀ (k1 : Cv → CH → Prop), (∀ y, P y → k1 y h) → g x env h (fun env1 h1 => ce env1 h1 k1 fun _ _ => False) fun _ _ => False) →
      (∀ ys, ys.length = xs.length → (∀ y ∈ ys, P y) → q (acc ++ ys) h) → cLcGo g cYes ce G env xs acc h q
  | [], acc, _, k => ⟨hG, by simpa using k [] rfl fun _ z => by cases z⟩
  | x :: xs, acc, hs, k => by
    refine ⟨hG, ?_⟩
    have := hs x (List.mem_cons_self ..) (fun y h3 => cLcGo g cYes ce G env xs (acc ++ [y]) h3 q) fun y hy =>
      cLc_each P hG xs (acc ++ [y]) (fun z hz => hs z (List.mem_cons_of_mem _ hz)) fun ys hl hp => by
        have := k (y :: ys) (by simp [hl]) fun z hz => by
          rcases List.mem_cons.mp hz with rfl | hz
          · exact hy
          · exact hp z hz
        simpa using this
    exact this
theorem typed {α : Type} {f : α → Cv} {P : α → Prop} : ∀ {ys : List Cv}, (∀ y ∈ ys, ∃ s, y = f s ∧ P s) → ∃ ss : List α, ys = ss.map f ∧ ∀ s ∈ ss, P s
  | [], _ => ⟨[], rfl, fun _ z => by cases z⟩
  | y :: ys, h => by
    obtain ⟨s, rfl, hs⟩ := h y (List.mem_cons_self ..)
    obtain ⟨ss, rfl, hh⟩ := typed fun z hz => h z (List.mem_cons_of_mem _ hz)
    exact ⟨s :: ss, rfl, fun z hz => by
      rcases List.mem_cons.mp hz with rfl | hz
      · exact hs
      · exact hh z hz⟩
/-- .. typed -/
theorem cLc_typed {α : Type} {g : CTg} {ce : CT} {G : CH → Prop} {env : CEnv} {h : CH} {q : List Cv → CH → Prop} (f : α → Cv) (P : α → Prop) (hG : G h) (xs : List Cv)
    (hs : ∀ x ∈ xs, ∀ (k1 : Cv → CH → Prop), (∀ s, P s → k1 (f s) h) → g x env h (fun env1 h1 => ce env1 h1 k1 fun _ _ => False) fun _ _ => False)
    (k : ∀ ss : List α, ss.length = xs.length → (∀ s ∈ ss, P s) → q (ss.map f) h) : cLcGo g cYes ce G env xs [] h q :=
  cLc_each (fun y => ∃ s, y = f s ∧ P s) hG xs [] (fun x hx k1 hk => hs x hx k1 fun s hp => hk _ ⟨s, rfl, hp⟩) fun ys hl hp => by
    obtain ⟨ss, rfl, h2⟩ := typed hp
    rw [List.nil_append]
    exact k ss (by simpa using hl) h2
/-- a letter -/
def let26 (d : Int) : Nat := 97 + (d % 26).toNat
theorem let26_lw (d : Int) : 97 ≤ let26 d ∧ let26 d ≤ 122 := by unfold let26; omega
theorem at26 (d : Int) : L2.atI (T L26).cps.toList (d % 26) = some (let26 d) := by
  have h0 : (0 : Int) ≤ d % 26 := by omega
  have h1 : d % 26 < 26 := by omega
  obtain ⟨hi, e⟩ := atI_get' (xs := L26) h0 (by rw [L26_len]; omega)
  have e' : L2.atI (T L26).cps.toList (d % 26) = some L26[(d % 26).toNat] := e
  rw [e']
  have e2 : L26[(d % 26).toNat]? = some (let26 d) := by
    unfold L26 let26
    rw [List.getElem?_map, List.getElem?_range (by omega)]
    simp; omega
  rw [← e2]
  exact (List.getElem?_eq_getElem hi).symm
theorem ix_let {d : Int} {h : CH} {k1 : Cv → CH → Prop} (k : k1 (.str (T [let26 d])) h) : gIx (.str (T L26)) (.int (d % 26)) h k1 := by
  walk_at "s"
  simp only [at26, kSm_s]
  exact ⟨by rw [T_len, L26_len, sizeLine_eq]; decide, k⟩
theorem ix_let' {d : Int} {k : Nat → Prop} (hk : k (let26 d)) : kSm (L2.atI (T L26).cps.toList (d % 26)) k := by rw [at26]; exact hk
theorem gjoin_strs {ss : List Str} {a : Str} {h : CH} {k : Cv → CH → Prop} (hs : (ss.map (·.length)).sum + ss.length * a.length ≤ 16777216) (hk : k (.str (Txt.join a ss)) h) : gJoin (.str a) [.lv (ss.map .str)] h k := ⟨ss, rfl, hs, hk⟩
/-- single signs put together -/
theorem gjoin_ones {cs : List Nat} {h : CH} {k : Cv → CH → Prop} (hn : cs.length ≤ 1000) (hk : k (.str (T cs)) h) : gJoin (.str (Str.ofString "")) [.lv ((cs.map fun c => [c]).map fun x => Cv.str (T x))] h k := by
  have e : ((cs.map fun c => [c]).map fun x => Cv.str (T x)) = (ones cs).map Cv.str := by unfold ones; rw [List.map_map, List.map_map, List.map_map]; rfl
  rw [e]
  refine gjoin_strs (ones_sum hn) ?_
  rw [ones_join]
  exact hk
theorem intsR_mem {lo : Int} {n : Nat} {x : Cv} (h : x ∈ intsR lo n) : ∃ i : Nat, i < n ∧ x = .int (lo + i) := by
  unfold intsR at h
  obtain ⟨i, hi, rfl⟩ := List.mem_map.mp h
  exact ⟨i, List.mem_range.mp hi, rfl⟩
theorem intsR_len (lo : Int) (n : Nat) : (intsR lo n).length = n := by unfold intsR; simp
end Lw
open PySem L2 Co Lw
namespace Lw
theorem p_other {x : Int} {h q e} (k : ∀ v : Int, 0 ≤ v → v < 2147483629 → q (.int v) h) (h0 : 0 ≤ x) (h1 : x < 2 ^ 33) : d_law_other [.int x] h q e := by
  rw [u_law_other]; unfold m_law_other
  walk_at "run"
  obtain ⟨a, b⟩ := emod_bd (x * x + 69621 * x + 5) (b := 2147483629) (by decide)
  exact ⟨mul_ok h0 (by omega), mul_ok (by decide) (by decide), by decide, k _ a b⟩
theorem p_next {x : Int} {h q e} (k : ∀ v : Int, 0 ≤ v → v < 2147483647 → q (.int v) h) (h0 : 0 ≤ x) (h1 : x < 2 ^ 33) : d_law_next [.int x] h q e := by
  rw [u_law_next]; unfold m_law_next
  walk_at "run"
  obtain ⟨a, b⟩ := emod_bd (x * x + 48271 * x + 11) (b := 2147483647) (by decide)
  exact ⟨mul_ok h0 (by omega), mul_ok (by decide) (by decide), by decide, k _ a b⟩
theorem p_cell {ns : List Int} {x : Int} {h q e} (k : ∀ v : Int, q (.int v) h) (h0 : 0 ≤ x) : d_law_cell_at [.fz (ns.map .int), .int x] h q e := by
  rw [u_law_cell_at]; unfold m_law_cell_at
  walk_at "run"
  rw [List.length_map]
  by_cases h1 : x < ns.length
  · obtain ⟨v, _, ev⟩ := atI_map (f := Cv.int) h0 h1
    simp only [h1, decide_true, if_true, ev]
    exact k v
  · simp only [h1, decide_false, Bool.false_eq_true, if_false]
    exact k 0
theorem p_number {ns : List Int} {x : Int} {h q e} (k : ∀ v : Int, q (.int v) h) (h0 : 0 ≤ x) (h1 : x < 100) : d_law_number [.fz (ns.map .int), .int x] h q e := by
  rw [u_law_number]; unfold m_law_number
  walk_at "run"
  refine p_cell (fun v => ?_) h0
  walk_at "run"
  refine ⟨by decide, ?_⟩
  split
  · exact ⟨cdivw (by decide) (by decide), k _⟩
  · refine ⟨mul_ok (by decide) (by decide), mul_ok (by omega) (by omega), by decide, ?_⟩
    obtain ⟨a, b⟩ := emod_bd (v + 69621 * x * x) (b := 2147483647) (by decide)
    exact p_next (fun u u0 u1 => p_other (fun w _ _ => k w) u0 (by omega)) a (by omega)
theorem p_digits {ns : List Int} {x b m : Int} {h q e} (k : ∀ ds : List Int, (ds.length : Int) = m → (∀ d ∈ ds, 0 ≤ d ∧ d < b) → q (.lv (ds.map .int)) h) (h0 : 0 ≤ x) (h1 : x < 100) (b0 : 0 < b) (b1 : b < 2 ^ 30) (m0 : 0 ≤ m) (m1 : m < 1000) :
    d_law_digits [.fz (ns.map .int), .int x, .int b, .int m] h q e := by
  rw [u_law_digits]; unfold m_law_digits
  walk_at "run"
  refine p_number (fun v => ?_) h0 h1
  walk_at "run"
  intro p hp
  refine ⟨mul_ok (by decide) (by decide), by decide, p_cell (fun w => ?_) h0⟩
  walk_at "run"
  obtain ⟨xa, xb⟩ := emod_bd (v + 7919 * x) (b := 2147483647) (by decide)
  refine ⟨by decide, ?_⟩
  split
  all_goals
    refine ⟨⟨by omega, by omega⟩, cLoop_range (fun i env g => ∃ (acc : List Int) (l y : Int) (j : Option Cv), env = [some (Cv.fz (ns.map .int)), some (Cv.int x), some (Cv.int b), some (Cv.int m), some (.ref p), j, some (.int l), some (.int y)] ∧
      g = cup h p (.lst (acc.map .int)) ∧ acc.length = i ∧ (∀ d ∈ acc, 0 ≤ d ∧ d < b) ∧ 0 ≤ y ∧ y < 2147483647) ?_ ?_ _ _ ⟨[], _, _, _, rfl, rfl, rfl, fun _ z => (by cases z), xa, xb⟩⟩
    · rintro i _ _ K hi ⟨acc, l, y, j, rfl, rfl, hl, hd, y0, y1⟩ hK
      walk_at "run"
      refine p_next (fun u u0 u1 => p_other (fun w w0 w1 => ?_) u0 (by omega)) (by omega) (by omega)
      walk_at "run"
      have hm : i < 1000 := by omega
      have fin : ∀ z : Int, 0 < b ∧ (acc.length ≤ 1000000 ∧ CDivW l b ∧ K [some (Cv.fz (ns.map .int)), some (Cv.int x), some (Cv.int b), some (Cv.int m), some (.ref p), some (.int (0 + (i : Int))), some (.int (l / b)), some (.int w)] (cup h p (.lst ((acc ++ [z % b]).map .int)))) := fun z => by
        obtain ⟨z0, z1⟩ := emod_bd z b0
        refine ⟨b0, by omega, cdivw b0 (by omega), hK _ _ ⟨acc ++ [z % b], _, _, _, rfl, rfl, by simp [hl], fun d hd' => ?_, w0, by omega⟩⟩
        rcases List.mem_append.mp hd' with q | q
        · exact hd d q
        · have : d = z % b := by simpa using q
          rw [this]
          exact ⟨z0, z1⟩
      by_cases hz : (0 : Int) < l
      · simp only [hz, decide_true, if_true]
        simpa [L2.atI, L2.ixN] using fin l
      · simp only [hz, decide_false, if_false]
        simpa [L2.atI, L2.ixN] using fin w
    · rintro _ _ ⟨acc, l, y, j, rfl, rfl, hl, hd, y0, y1⟩
      walk_at "run"
      have e : cdel (cup h p (.lst (acc.map .int))) p = h := cdel_cup hp
      rw [e]
      exact k acc (by omega) hd

end Lw
open PySem L2 Co Lw
namespace Lw
/-! ### association lists by texts -/
section
variable {α β : Type} {l : List (Str × α)} {s u : Str} {v : α}
def aget (l : List (Str × α)) (s : Str) : Option α := (l.find? fun p => decide (p.1 = s)).map (·.2)
def aput (l : List (Str × α)) (s : Str) (v : α) : List (Str × α) :=
  if (l.any fun p => decide (p.1 = s)) = true then l.map (fun p => if p.1 = s then (p.1, v) else p) else l ++ [(s, v)]
def adrop (l : List (Str × α)) (s : Str) : List (Str × α) := l.filter fun p => decide (p.1 ≠ s)
def dK (f : α → Cv) (l : List (Str × α)) : List (Key × Cv) := l.map fun p => (.inr p.1, f p.2)
theorem dK_nil (f : α → Cv) : dK f [] = [] := rfl
theorem dK_len (f : α → Cv) : (dK f l).length = l.length := by unfold dK; simp
theorem inr_eq {a b : Str} : ((Sum.inr a : Key) = Sum.inr b) ↔ a = b := ⟨fun h => by cases h; rfl, fun h => by rw [h]⟩
theorem dval_dK (f : α → Cv) : ∀ (l : List (Str × α)) (s : Str), dval (dK f l) (.inr s) = (aget l s).map f
  | [], _ => rfl
  | p :: l, s => by
    unfold dval aget dK
    rw [List.map_cons, List.find?_cons, List.find?_cons]
    by_cases h : p.1 = s
    · rw [decide_eq_true (inr_eq.mpr h), decide_eq_true h]; rfl
    · rw [decide_eq_false (fun z => h (inr_eq.mp z)), decide_eq_false h]
      exact dval_dK f l s
theorem any_dK (f : α → Cv) (s : Str) : ∀ l : List (Str × α), ((dK f l).any fun p => decide (p.1 = .inr s)) = l.any fun p => decide (p.1 = s)
  | [] => rfl
  | p :: l => by
    have ih := any_dK f s l
    unfold dK at ih ⊢
    rw [List.map_cons, List.any_cons, List.any_cons, ih]
    congr 1
    exact decide_eq_decide.mpr inr_eq
theorem dput_dK (f : α → Cv) (l : List (Str × α)) (s : Str) (v : α) : dput (dK f l) (.inr s) (f v) = dK f (aput l s v) := by
  unfold dput aput
  rw [any_dK]
  split
  · unfold dK
    rw [List.map_map, List.map_map]
    apply List.map_congr_left
    intro p _
    simp only [Function.comp]
    by_cases h : p.1 = s
    · rw [if_pos (inr_eq.mpr h), if_pos h]
    · rw [if_neg (fun z => h (inr_eq.mp z)), if_neg h]
  · unfold dK; rw [List.map_append]; rfl
theorem ddrop_dK (f : α → Cv) (s : Str) : ∀ l : List (Str × α), ddrop (dK f l) (.inr s) = dK f (adrop l s)
  | [] => rfl
  | p :: l => by
    have ih := ddrop_dK f s l
    unfold ddrop dK adrop at ih ⊢
    rw [List.map_cons, List.filter_cons, List.filter_cons, ih]
    by_cases h : p.1 = s
    · rw [if_neg (by simp [h]), if_neg (by simp [h])]
    · rw [if_pos (by simp [h]), if_pos (by simp [h]), List.map_cons]
theorem aget_nil : aget ([] : List (Str × α)) s = none := rfl
theorem aget_cons (p : Str × α) (l : List (Str × α)) : aget (p :: l) s = if p.1 = s then some p.2 else aget l s := by
  unfold aget
  rw [List.find?_cons]
  by_cases h : p.1 = s
  · rw [decide_eq_true h, if_pos h]; rfl
  · rw [decide_eq_false h, if_neg h]
theorem any_aget (s : Str) : ∀ l : List (Str × α), (l.any fun p => decide (p.1 = s)) = (aget l s).isSome
  | [] => rfl
  | p :: l => by
    rw [List.any_cons, aget_cons, any_aget s l]
    by_cases h : p.1 = s
    · rw [if_pos h, decide_eq_true h]; rfl
    · rw [if_neg h, decide_eq_false h]; rfl
theorem aget_map (s u : Str) (v : α) : ∀ l : List (Str × α), aget (l.map fun p => if p.1 = s then (p.1, v) else p) u = if u = s then (aget l u).map (fun _ => v) else aget l u
  | [] => by simp [aget]
  | p :: l => by
    have ih := aget_map s u v l
    rw [List.map_cons, aget_cons, aget_cons, ih]
    by_cases h : p.1 = s
    · rw [if_pos h]
      by_cases h2 : u = s
      · simp [h, h2]
      · have : ¬ (s = u) := fun z => h2 z.symm
        simp [h, h2, this]
    · rw [if_neg h]
      by_cases h2 : u = s
      · subst h2; simp [h]
      · simp [h2]
theorem aget_app (u : Str) : ∀ (l m : List (Str × α)), aget (l ++ m) u = (aget l u).or (aget m u)
  | [], m => by simp [aget]
  | p :: l, m => by
    rw [List.cons_append, aget_cons, aget_cons, aget_app u l m]
    split <;> simp
theorem aget_put (l : List (Str × α)) (s u : Str) (v : α) : aget (aput l s v) u = if u = s then some v else aget l u := by
  unfold aput
  rw [any_aget]
  cases h : aget l s with
  | some w =>
    rw [if_pos (by rfl), aget_map]
    by_cases h2 : u = s
    · subst h2; simp [h]
    · simp [h2]
  | none =>
    rw [if_neg (by simp), aget_app, aget_cons, aget_nil]
    by_cases h2 : u = s
    · subst h2; simp [h]
    · have : ¬ s = u := fun z => h2 z.symm
      simp [h2, this]
theorem aget_drop (s u : Str) : ∀ l : List (Str × α), aget (adrop l s) u = if u = s then none else aget l u
  | [] => by simp [aget, adrop]
  | p :: l => by
    have ih := aget_drop s u l
    unfold adrop at ih ⊢
    rw [List.filter_cons]
    by_cases h : p.1 = s
    · rw [if_neg (by simp [h]), ih, aget_cons]
      by_cases h2 : u = s
      · simp [h2]
      · have : ¬ s = u := fun z => h2 z.symm
        simp [h, h2, this]
    · rw [if_pos (by simp [h]), aget_cons, aget_cons, ih]
      by_cases h2 : u = s
      · subst h2; simp [h]
      · simp [h2]
theorem aput_len (l : List (Str × α)) (s : Str) (v : α) : (aput l s v).length ≤ l.length + 1 := by
  unfold aput
  split
  · rw [List.length_map]; omega
  · rw [List.length_append]; simp
theorem adrop_len (l : List (Str × α)) (s : Str) : (adrop l s).length ≤ l.length := List.length_filter_le _ _
theorem adrop_none (h : aget l s = none) : adrop l s = l := by
  unfold adrop
  rw [List.filter_eq_self]
  intro p hp
  have := any_aget s l
  rw [h] at this
  have h2 := List.any_eq_false.mp this p hp
  simpa using h2
end
/-! ### works, tables -/
inductive Wk where
  | put (k : Str) (v : Int) | add (k : Str) (v : Int) | drop (k : Str)
def Wk.key : Wk → Str
  | .put k _ => k | .add k _ => k | .drop k => k
def sP : Str := Str.ofString "put"
def sA : Str := Str.ofString "add"
def sD : Str := Str.ofString "drop"
def Wk.c : Wk → Cv
  | .put k v => .tup [.str (Str.ofString "put"), .str k, .int v]
  | .add k v => .tup [.str (Str.ofString "add"), .str k, .int v]
  | .drop k => .tup [.str (Str.ofString "drop"), .str k]
/-- what is held behind -/
def Wk.held (l : List (Str × Int)) : Wk → List (Str × Int)
  | .put k v => aput l k v
  | .add k v => aput l k ((aget l k).getD 0 + v)
  | .drop k => adrop l k
/-- what is answered -/
def Wk.ans (l : List (Str × Int)) : Wk → Option Int
  | .put k _ => aget l k
  | .add k v => some ((aget l k).getD 0 + v)
  | .drop k => aget l k
def optC : Option Int → Cv
  | none => .non
  | some i => .int i
theorem optC_map (o : Option Int) : (o.map Cv.int).getD .non = optC o := by cases o <;> rfl
theorem lit_ne : Str.ofString "put" ≠ Str.ofString "add" ∧ Str.ofString "put" ≠ Str.ofString "drop" ∧ Str.ofString "add" ≠ Str.ofString "put" ∧ Str.ofString "add" ≠ Str.ofString "drop" ∧ Str.ofString "drop" ≠ Str.ofString "put" ∧ Str.ofString "drop" ≠ Str.ofString "add" := by decide +kernel
theorem held_len (l : List (Str × Int)) (w : Wk) : (w.held l).length ≤ l.length + 1 := by
  cases w with
  | put k v => exact aput_len ..
  | add k v => exact aput_len ..
  | drop k => exact Nat.le_succ_of_le (adrop_len ..)
end Lw
open PySem L2 Co Lw
namespace Lw
theorem lets_lw (ds : List Int) : lw (ds.map let26) := fun c hc => by
  obtain ⟨d, _, rfl⟩ := List.mem_map.mp hc
  exact let26_lw d
theorem word_of {ds : List Int} {env : CEnv} {h : CH} {q : List Cv → CH → Prop} {g : CTg} {ce : CT}
    (hs : ∀ d k1, k1 (.str (T [let26 d])) h → g (.int d) env h (fun env1 h1 => ce env1 h1 k1 fun _ _ => False) fun _ _ => False)
    (k : q (((ds.map let26).map fun c => [c]).map fun x => Cv.str (T x)) h) : cLcGo g cYes ce (fun _ => True) env (ds.map .int) [] h q := by
  refine cLcGo_map (fun c => match c with | .int d => .str (T [let26 d]) | _ => .non) trivial _ ?_ ?_
  · intro x hx k1 hk
    obtain ⟨d, _, rfl⟩ := List.mem_map.mp hx
    exact hs d k1 hk
  · rw [List.map_map, List.map_map] at k
    rw [List.map_map]
    exact k
theorem Nm_T {cs : List Nat} (h : lw cs) (h1 : 1 ≤ cs.length) (h8 : cs.length ≤ 8) : Nm (T cs) := ⟨h1, h8, h⟩
theorem lw_app {a b : List Nat} (ha : lw a) (hb : lw b) : lw (a ++ b) := fun c hc => (List.mem_append.mp hc).elim (ha c) (hb c)
theorem lw_cut {a : List Nat} {l u : Option Int} (ha : lw a) : lw (cutG a l u) := fun c hc => ha c (cutG_mem hc)
theorem cutG_to' {α : Type} (xs : List α) {j : Int} (hj : 0 ≤ j) : cutG xs none (some j) = xs.take j.toNat := by
  have := cutG_nn xs (i := 0) (Int.le_refl 0) hj
  simpa [cutG, HT.sIx] using this
theorem cutG_from' {α : Type} (xs : List α) {j : Int} (hj : 0 ≤ j) : cutG xs (some j) none = xs.drop j.toNat := by
  unfold cutG HT.sIx
  simp only [show ¬ (j < 0) by omega, if_false]
  by_cases h : j.toNat ≤ xs.length
  · rw [Nat.min_eq_left h, List.take_of_length_le (by rw [List.length_drop]; omega)]
  · rw [Nat.min_eq_right (by omega), List.drop_of_length_le (Nat.le_refl _), List.drop_of_length_le (by omega)]
    simp
theorem len10 (ds : List Int) (hl : (ds.length : Int) = 10) {i j : Int} (h0 : 0 ≤ i) (h1 : i ≤ j) (h2 : j ≤ 10) : (cutG ds (some i) (some j)).length = (j - i).toNat := by
  rw [cutG_nn _ h0 (by omega), List.length_take, List.length_drop]
  omega
theorem rep_flat (c : Nat) : ∀ n : Nat, (List.replicate n [c]).flatten = List.replicate n c
  | 0 => rfl
  | n + 1 => by rw [List.replicate_succ, List.flatten_cons, rep_flat c n, List.replicate_succ]; rfl
theorem p_names3 {ns : List Int} {x m : Int} {h q e} (k : ∀ ss : List Str, (ss.length : Int) = m → (∀ s ∈ ss, Nm s) → ss.Nodup → q (.lv (ss.map .str)) h) (h0 : 0 ≤ x) (h1 : x < 100) (m0 : 0 ≤ m) (m1 : m < 26) :
    d_law_names_3 [.fz (ns.map .int), .int x, .int m] h q e := by
  rw [u_law_names_3]; unfold m_law_names_3
  walk_at "og"
  refine seq_step ?_
  walk_at "g"
  refine p_digits (fun ds hl hd => ?_) h0 h1 (by decide) (by decide) (by decide) (by decide)
  rw [L26_str]
  have hl' : ds.length = 10 := by omega
  have dd : ∀ n, n < 10 → 0 ≤ ds.getD n 0 ∧ ds.getD n 0 < 208 := fun n hn => hd _ (getD_mem (by omega))
  walk_at "og"
  refine ix_at (d := 0) (by omega) (by omega) ?_
  obtain ⟨a0, a1⟩ := dd 0 (by omega)
  generalize ds.getD (0 : Int).toNat 0 = d0 at a0 a1
  walk_at "g"
  have l2 : (cutG ds (some 2) (some (2 + (1 + d0 % 8)))).length = (1 + d0 % 8).toNat := by rw [len10 ds hl (by omega) (by omega) (by omega)]; congr 1; omega
  walk_at "og"
  refine word_of (fun d k1 hk => ?_) ?_
  · walk_at "g"
    exact ix_let' hk
  refine gjoin_ones (by rw [List.length_map, l2]; omega) ?_
  have lb : ((cutG ds (some 2) (some (2 + (1 + d0 % 8)))).map let26).length = (1 + d0 % 8).toNat := by rw [List.length_map, l2]
  generalize hbb : (cutG ds (some 2) (some (2 + (1 + d0 % 8)))).map let26 = bb at lb
  have wb : lw bb := hbb ▸ lets_lw _
  have rng : (((List.range m.toNat).length : Nat) : Int) = m := by rw [List.length_range]; omega
  have rng2 : ((intsR 0 m.toNat).length : Int) = m := by rw [intsR_len]; omega
  have fin : ∀ f : Nat → Str, (∀ i, i < m.toNat → Nm (f i)) → (∀ i j, i < m.toNat → j < m.toNat → f i = f j → i = j) → q (.lv (((List.range m.toNat).map f).map .str)) h := fun f hf inj =>
    k _ (by rw [List.length_map]; exact rng) (fun s hs => by
      obtain ⟨i, hi, rfl⟩ := List.mem_map.mp hs
      exact hf i (List.mem_range.mp hi)) (nodup_range_map inj)
  refine seq_same (fun K hK => ?_) ?_
  · walk_at "g"
    refine ix_dig hd (by omega) (by omega) fun d1 b0 b1 => ?_
    walk_at "g"
    split
    · split
      · have l3 : (cutG ds (some 2) (some 10)).length = 8 := by rw [len10 ds hl (by omega) (by omega) (by omega)]; rfl
        refine seq_step ?_
        walk_at "g"
        refine word_of (fun d k1 hk => ?_) ?_
        · walk_at "g"
          exact ix_let' hk
        refine gjoin_ones (by rw [List.length_map, l3]; omega) ?_
        walk_at "g"
        rename_i m9
        have m9 : m < 9 := of_decide_eq_true m9
        refine cLc_range (fun i => T (cutG ((cutG ds (some 2) (some 10)).map let26) none (some (0 + (i : Int) + 1)))) Cv.str trivial (fun i hi k1 hk => ?_) (fin _ (fun i hi => ?_) fun i j hi hj hij => ?_)
        · walk_at "g"
          rw [← cutG_map]
          exact hk
        · refine Nm_T (lw_cut (lets_lw _)) ?_ ?_
          · rw [cutG_to' _ (by omega), List.length_take, List.length_map, l3]; omega
          · rw [cutG_to' _ (by omega), List.length_take, List.length_map, l3]; omega
        · have := congrArg List.length (T_inj.mp hij)
          rw [cutG_to' _ (by omega), cutG_to' _ (by omega), List.length_take, List.length_take, List.length_map, l3] at this
          omega
      · exact hK
    · exact hK
  refine seq_same (fun K hK => ?_) ?_
  · walk_at "g"
    refine ix_dig hd (by omega) (by omega) fun d1 b0 b1 => ?_
    walk_at "g"
    split
    · walk_at "g"
      refine cLc_range (fun i => T (List.replicate (1 + (ds.getD (3 + (0 + (i : Int)) % 7).toNat 0 + (0 + (i : Int))) % 8).toNat (let26 (ds.getD (2 : Int).toNat 0 + 5 * (0 + (i : Int)))))) Cv.str trivial (fun i hi k1 hk => ?_) (fin _ (fun i hi => ?_) fun i j hi hj hij => ?_)
      · walk_at "g"
        refine ix_at (d := 0) (by omega) (by omega) ?_
        walk_at "g"
        refine ix_let' ?_
        walk_at "g"
        refine ix_at (d := 0) (by omega) (by omega) ?_
        walk_at "g"
        refine ⟨by show 1 * _ ≤ _; omega, by omega, ?_⟩
        have e2 : ∀ c, (⟨#[c]⟩ : Str) = T [c] := fun c => rfl
        rw [e2, txMul_T, rep_flat]
        exact hk
      · refine Nm_T (fun c hc => ?_) (by rw [List.length_replicate]; omega) (by rw [List.length_replicate]; omega)
        rw [List.eq_of_mem_replicate hc]
        exact let26_lw _
      · have e1 := congrArg (fun l => l.getD 0 0) (T_inj.mp hij)
        have hd : ∀ (n c : Nat), 1 ≤ n → (List.replicate n c).getD 0 0 = c := fun n c hn => by cases n with | zero => omega | succ n => rfl
        rw [hd _ _ (by omega), hd _ _ (by omega)] at e1
        unfold let26 at e1
        omega
    · exact hK
  walk_at "og"
  refine ix_dig hd (by omega) (by omega) fun d1 b0 b1 => ?_
  obtain ⟨w0, w1⟩ := emod_bd (d1 / 4) (b := 1 + d0 % 8) (by omega)
  walk_at "g"
  generalize d1 / 4 % (1 + d0 % 8) = at' at w0 w1
  have e1 : (cutG bb none (some at')).length = at'.toNat := by rw [cutG_to' _ w0, List.length_take]; omega
  have e2 : (cutG bb (some (at' + 1)) none).length = bb.length - (at' + 1).toNat := by rw [cutG_from' _ (by omega), List.length_drop]
  refine cLc_range (fun i => T (cutG bb none (some at') ++ [let26 (ds.getD (2 + at').toNat 0 + (0 + (i : Int)))] ++ cutG bb (some (at' + 1)) none)) Cv.str trivial (fun i hi k1 hk => ?_) (fin _ (fun i hi => ?_) fun i j hi hj hij => ?_)
  · walk_at "g"
    refine ix_at (d := 0) (by omega) (by omega) ?_
    walk_at "g"
    refine ix_let' ?_
    have e2 : ∀ c, (⟨#[c]⟩ : Str) = T [c] := fun c => rfl
    rw [e2]
    walk_at "g"
    exact hk
  · refine Nm_T (lw_app (lw_app (lw_cut wb) fun c hc => ?_) (lw_cut wb)) ?_ ?_
    · rw [List.mem_singleton.mp hc]; exact let26_lw _
    · rw [List.length_append, List.length_append, e1, e2, List.length_singleton]; omega
    · rw [List.length_append, List.length_append, e1, e2, List.length_singleton]; omega
  · have e3 := T_inj.mp hij
    rw [List.append_assoc, List.append_assoc, List.append_cancel_left_eq, List.singleton_append, List.singleton_append] at e3
    have e4 := (List.cons.inj e3).1
    unfold let26 at e4
    omega
theorem pow1000 (n : Nat) : (1000 : Int) ^ (n + 1) = 1000 ^ n * 1000 := Int.pow_succ ..
theorem p1000_le : ∀ {n : Nat}, n ≤ 20 → (1000 : Int) ^ n ≤ 10 ^ 60 := by decide
theorem ix_mem {α : Type} {xs : List α} {i : Int} {k : α → Prop} (h0 : 0 ≤ i) (h1 : i < xs.length) (hk : ∀ x ∈ xs, k x) : kSm (L2.atI xs i) k := by
  obtain ⟨v, hv, e⟩ := atI_ex h0 h1
  rw [e]
  exact hk v hv
/-- a number of at most sixty figures -/
def W60 (v : Int) : Prop := -(10 ^ 60) < v ∧ v < 10 ^ 60
theorem p_wide {ds : List Int} {b : Int} {h q e} (hl : 21 ≤ ds.length) (hd : ∀ d ∈ ds, 0 ≤ d ∧ d < b) (k : ∀ v, W60 v → q (.int v) h) : d_law_wide [.lv (ds.map .int)] h q e := by
  rw [u_law_wide]; unfold m_law_wide
  walk_at "og"
  refine ix_dig hd (by omega) (by omega) fun d0 a0 a1 => ?_
  walk_at "g"
  refine seq_cut (fun env g => ∃ j v, env = [some (.lv (ds.map .int)), j, some (.int v)] ∧ g = h ∧ W60 v) (fun K hK => ?_) ?_
  · walk_at "g"
    refine ix_dig hd (by omega) (by omega) fun d1 b0 b1 => ?_
    walk_at "g"
    split
    · refine seq_step ?_
      walk_at "g"
      refine seq_cut (fun env g => ∃ j v, env = [some (.lv (ds.map .int)), j, some (.int v)] ∧ g = h ∧ 0 ≤ v ∧ v < 10 ^ 60) (fun K2 hK2 => ?_) ?_
      · walk_at "g"
        refine ix_dig hd (by omega) (by omega) fun d2 c0 c1 => ?_
        walk_at "g"
        have hc : (cutG ds (some 1) (some (2 + d2 / 27 % 20))).length ≤ 20 := by
          rw [cutG_nn _ (by omega) (by omega), List.length_take]
          omega
        refine cLoop_map Cv.int (fun xs env g => ∃ j v, env = [some (.lv (ds.map .int)), j, some (.int v)] ∧ g = h ∧ 0 ≤ v ∧ ∃ m : Nat, m + xs.length ≤ 20 ∧ v < 1000 ^ m) (fun _ _ _ _ => trivial) ?_ ?_ _ _ _ ⟨none, 0, rfl, rfl, by omega, 0, by omega, by decide⟩
        · rintro d xs _ _ K3 ⟨j, v, rfl, rfl, v0, m, hm, v1⟩ hK3
          walk_at "g"
          refine hK3 _ _ ⟨_, _, rfl, rfl, by omega, m + 1, by rw [List.length_cons] at hm; omega, ?_⟩
          rw [pow1000]
          omega
        · rintro _ _ ⟨j, v, rfl, rfl, v0, m, hm, v1⟩
          exact hK2 _ _ ⟨j, v, rfl, rfl, v0, by have := p1000_le (n := m) (by omega); omega⟩
      · rintro _ _ ⟨j, v, rfl, rfl, v0, v1⟩
        walk_at "g"
        refine ix_dig hd (by omega) (by omega) fun d2 c0 c1 => ?_
        walk_at "g"
        split
        · exact hK _ _ ⟨_, _, rfl, rfl, by unfold W60; omega⟩
        · exact hK _ _ ⟨_, _, rfl, rfl, by unfold W60; omega⟩
    · exact hK _ _ ⟨_, _, rfl, rfl, by unfold W60; omega⟩
  · rintro _ _ ⟨j, v, rfl, rfl, hv⟩
    walk_at "g"
    exact k v hv
def Wk.ok (ss : List Str) (w : Wk) : Prop := w.key ∈ ss ∧ match w with | .put _ v => W60 v | .add _ v => W60 v | .drop _ => True
theorem p_work2 {ds : List Int} {ss : List Str} {b : Int} {h q e} (hl : 24 ≤ ds.length) (hd : ∀ d ∈ ds, 0 ≤ d ∧ d < b) (hs : 1 ≤ ss.length) (k : ∀ w : Wk, w.ok ss → q w.c h) : d_law_work_2 [.lv (ds.map .int), .lv (ss.map .str)] h q e := by
  rw [u_law_work_2]; unfold m_law_work_2
  walk_at "og"
  refine ix_dig hd (by omega) (by omega) fun d0 a0 a1 => ?_
  obtain ⟨w0, w1⟩ := emod_bd d0 (b := ((ss.length : Nat) : Int)) (by omega)
  walk_at "g"
  refine ix_map (by omega) (by omega) fun key hkey => ?_
  walk_at "g"
  walk_at "og"
  refine p_wide (b := b) ?_ (fun d hd' => hd d (cutG_mem hd')) fun v hv => ?_
  · rw [cutG_from' _ (by omega), List.length_drop]; omega
  walk_at "g"
  refine ix_dig hd (by omega) (by omega) fun d1 b0 b1 => ?_
  walk_at "g"
  refine ix_mem (by omega) (by simp; omega) fun x hx => ?_
  simp only [List.mem_cons, List.not_mem_nil, or_false] at hx
  rcases hx with rfl | rfl | rfl
  · exact k (.put key v) ⟨hkey, hv⟩
  · exact k (.add key v) ⟨hkey, hv⟩
  · exact k (.drop key) ⟨hkey, trivial⟩
end Lw
open PySem L2 Co Lw
namespace Lw
/-! ### a dict of numbers, kept here -/
def fI : Int → Cv := Cv.int
/-- an asker's last ask -/
def fA (p : Int × Option Int) : Cv := .tup [.int p.1, optC p.2]
theorem isN_optC (o : Option Int) : isN (optC o) = o.isNone := by cases o <;> rfl
structure Tab where
  held : List (Str × Int)
  asked : List (Str × (Int × Option Int))
/-- a table at t, its dicts at a, b -/
structure TabAt (h : CH) (t a b : Addr) (x : Tab) : Prop where
  ta : t ≠ a
  tb : t ≠ b
  ab : a ≠ b
  t : h t = some (.ins "Table" [("held", .ref a), ("asked", .ref b)])
  a : h a = some (.dct (dK fI x.held))
  b : h b = some (.dct (dK fA x.asked))
/-- the heap with that table there -/
def tabH (h : CH) (a b : Addr) (x : Tab) : CH := cup (cup h a (.dct (dK fI x.held))) b (.dct (dK fA x.asked))
theorem TabAt.is {h : CH} {t a b : Addr} {x : Tab} (T : TabAt h t a b x) : tabH h a b x = h := by
  unfold tabH
  rw [cup_id T.a, cup_id T.b]
theorem cup_comm {h : CH} {a b : Addr} {o u : Cob} (n : a ≠ b) : cup (cup h a o) b u = cup (cup h b u) a o := by
  funext c
  unfold cup
  by_cases h1 : c = a
  · by_cases h2 : c = b
    · exact absurd (h1.symm.trans h2) n
    · rw [if_neg h2, if_pos h1, if_pos h1]
  · by_cases h2 : c = b
    · rw [if_pos h2, if_neg h1, if_pos h2]
    · rw [if_neg h2, if_neg h1, if_neg h1, if_neg h2]
theorem TabAt.put {h : CH} {t a b : Addr} {x : Tab} (T : TabAt h t a b x) (y : Tab) : TabAt (tabH h a b y) t a b y :=
  ⟨T.ta, T.tb, T.ab, by unfold tabH; rw [cup_ne T.tb, cup_ne T.ta]; exact T.t, by unfold tabH; rw [cup_ne T.ab, cup_same], by unfold tabH; rw [cup_same]⟩
theorem TabAt.heldH {h : CH} {t a b : Addr} {x : Tab} (T : TabAt h t a b x) (l : List (Str × Int)) : cup h a (.dct (dK fI l)) = tabH h a b ⟨l, x.asked⟩ := by
  unfold tabH
  rw [cup_comm T.ab, cup_id T.b]
theorem TabAt.askedH {h : CH} {t a b : Addr} {x : Tab} (T : TabAt h t a b x) (l : List (Str × (Int × Option Int))) : cup h b (.dct (dK fA l)) = tabH h a b ⟨x.held, l⟩ := by
  unfold tabH
  rw [cup_id T.a]
theorem tabH_tabH {h : CH} {a b : Addr} {x y : Tab} : tabH (tabH h a b x) a b y = tabH h a b y := by
  unfold tabH
  funext c
  unfold cup
  by_cases h2 : c = b
  · rw [if_pos h2, if_pos h2]
  · rw [if_neg h2, if_neg h2]
    by_cases h1 : c = a
    · rw [if_pos h1, if_pos h1, if_neg h2]
    · rw [if_neg h1, if_neg h1, if_neg h2, if_neg h1]
theorem dval_I (l : List (Str × Int)) (s : Str) : dval (dK fI l) (.inr s) = (aget l s).map fI := dval_dK fI l s
theorem getD_I (o : Option Int) : (o.map fI).getD .non = optC o := by cases o <;> rfl
theorem getD_I0 (o : Option Int) : (o.map fI).getD (.int 0) = .int (o.getD 0) := by cases o <;> rfl
theorem p_works {h : CH} {t a b : Addr} {x : Tab} {w : Wk} {q e} (T : TabAt h t a b x) (hl : x.held.length < 1000000) (k : q (optC (w.ans x.held)) (tabH h a b ⟨w.held x.held, x.asked⟩)) : d_Table_works [.ref t, w.c] h q e := by
  have ht := T.t
  have ha := T.a
  have c1 : ∀ (g : CH) o, cup g a o t = g t := fun g o => cup_ne T.ta
  have hl' : (dK fI x.held).length < 1000000 := by rw [dK_len]; exact hl
  rw [← T.heldH] at k
  rw [u_Table_works]; unfold m_Table_works
  cases w with
  | put key v =>
    unfold Wk.c
    walk_at "ogh"
    walk_at "ogh"
    walk_at "ogh"
    walk_at "ogh"
    rw [dval_I, getD_I, show (Cv.int v) = fI v from rfl, dput_dK]
    exact k
  | add key v =>
    unfold Wk.c
    walk_at "ogh"
    walk_at "ogh"
    walk_at "ogh"
    refine seq_step ?_
    walk_at "gh"
    simp only [dval_I, getD_I0]
    walk_at "gh"
    rw [show (Cv.int ((aget x.held key).getD 0 + v)) = fI ((aget x.held key).getD 0 + v) from rfl, dput_dK]
    refine ⟨fI ((aget x.held key).getD 0 + v), ?_, k⟩
    rw [dval_I, aget_put, if_pos rfl]
    rfl
  | drop key =>
    unfold Wk.c
    walk_at "ogh"
    walk_at "ogh"
    walk_at "ogh"
    simp only [dval_I, getD_I]
    simp only [Wk.ans, Wk.held] at k
    cases e : aget x.held key with
    | none =>
      rw [if_neg (by simp)]
      rw [adrop_none e, cup_id ha, e] at k
      exact k
    | some v =>
      rw [if_pos (by simp)]
      refine ⟨_, rfl, ?_⟩
      rw [ddrop_dK]
      rw [e] at k
      exact k
/-- what is due, kept in a dict here -/
theorem p_due2 {h : CH} {p : Addr} {l : List (Str × Int)} {w : Wk} {q e} (hp : h p = some (.dct (dK fI l))) (hl : l.length < 1000000) (k : q (optC (w.ans l)) (cup h p (.dct (dK fI (w.held l))))) : d_law_due_2 [.ref p, w.c] h q e := by
  have hl' : (dK fI l).length < 1000000 := by rw [dK_len]; exact hl
  rw [u_law_due_2]; unfold m_law_due_2
  cases w with
  | put key v =>
    unfold Wk.c
    walk_at "ogh"
    walk_at "ogh"
    rw [dval_I, getD_I, show (Cv.int v) = fI v from rfl, dput_dK]
    exact k
  | add key v =>
    unfold Wk.c
    walk_at "ogh"
    walk_at "ogh"
    refine seq_step ?_
    walk_at "gh"
    simp only [dval_I, getD_I0]
    walk_at "gh"
    rw [show (Cv.int ((aget l key).getD 0 + v)) = fI ((aget l key).getD 0 + v) from rfl, dput_dK]
    refine ⟨fI ((aget l key).getD 0 + v), ?_, k⟩
    rw [dval_I, aget_put, if_pos rfl]
    rfl
  | drop key =>
    unfold Wk.c
    walk_at "ogh"
    walk_at "ogh"
    simp only [dval_I, getD_I, isN_optC]
    simp only [Wk.ans, Wk.held] at k
    cases e : aget l key with
    | none =>
      simp only [Option.isNone_none, Bool.not_true, Bool.false_eq_true, if_false]
      rw [adrop_none e, cup_id hp, e] at k
      exact k
    | some v =>
      simp only [Option.isNone_some, Bool.not_false, if_true]
      refine ⟨_, rfl, ?_⟩
      rw [ddrop_dK]
      rw [e] at k
      exact k
def Tab.last (x : Tab) (who : Str) : Int × Option Int := (aget x.asked who).getD (0, none)
/-- an ask: the table behind -/
def Tab.does (x : Tab) (who : Str) (n : Int) (w : Wk) : Tab := if n ≤ (x.last who).1 then x else ⟨w.held x.held, aput x.asked who (n, w.ans x.held)⟩
/-- .. and what is told -/
def Tab.told (x : Tab) (who : Str) (n : Int) (w : Wk) : Cv :=
  if n < (x.last who).1 then .tup [.str (Str.ofString "old"), .non] else if n = (x.last who).1 then .tup [.str (Str.ofString "again"), optC (x.last who).2] else .tup [.str (Str.ofString "done"), optC (w.ans x.held)]
theorem dval_A (l : List (Str × (Int × Option Int))) (s : Str) : (dval (dK fA l) (.inr s)).getD (.tup [.int 0, .non]) = fA ((aget l s).getD (0, none)) := by
  rw [dval_dK]
  cases aget l s <;> rfl
/-- an ask -/
theorem p_does {h : CH} {t a b : Addr} {x : Tab} {w : Wk} {who : Str} {n : Int} {q e} (T : TabAt h t a b x) (hl : x.held.length < 1000000) (hl2 : x.asked.length < 1000000)
    (k : q (x.told who n w) (tabH h a b (x.does who n w))) : d_Table_does [.ref t, .str who, .int n, w.c] h q e := by
  have ht := T.t
  have hb := T.b
  have hl' : (dK fA x.asked).length < 1000000 := by rw [dK_len]; exact hl2
  rw [u_Table_does]; unfold m_Table_does
  have e1 := dval_A x.asked who
  refine seq_step ?_
  walk_at "gh"
  clear e1
  unfold Tab.told Tab.does at k
  unfold Tab.last at k
  generalize hlast : (aget x.asked who).getD (0, none) = last at k ⊢
  unfold fA
  walk_at "gh"
  by_cases f1 : n < last.1
  · rw [if_pos f1, if_pos (Int.le_of_lt f1), T.is] at k
    clear hlast hl'
    walk_at "ogh"
    try exact k
  rw [if_neg f1] at k
  by_cases f2 : n = last.1
  · rw [if_pos f2, if_pos (by omega), T.is] at k
    clear hlast hl'
    walk_at "og"
    rw [decide_eq_false f1]
    walk_at "g"
    walk_at "og"
    rw [decide_eq_true f2]
    walk_at "g"
    exact k
  rw [if_neg f2, if_neg (by omega)] at k
  clear hlast
  walk_at "og"
  rw [decide_eq_false f1]
  walk_at "g"
  walk_at "og"
  rw [decide_eq_false f2]
  walk_at "g"
  walk_at "ogh"
  refine p_works T hl ?_
  have T2 := T.put ⟨w.held x.held, x.asked⟩
  have ht2 := T2.t
  have hb2 := T2.b
  walk_at "ogh"
  rw [show (Cv.tup [.int n, optC (w.ans x.held)]) = fA (n, w.ans x.held) from rfl, dput_dK, T2.askedH, tabH_tabH]
  exact k
theorem p_holds {h : CH} {t a b : Addr} {x : Tab} {key : Str} {q e} (T : TabAt h t a b x) (k : q (optC (aget x.held key)) h) : d_Table_holds [.ref t, .str key] h q e := by
  have ht := T.t
  have ha := T.a
  rw [u_Table_holds]; unfold m_Table_holds
  walk_at "gh"
  rw [dval_I, getD_I]
  exact k
theorem p_last_of {h : CH} {t a b : Addr} {x : Tab} {who : Str} {q e} (T : TabAt h t a b x) (k : q (.int (x.last who).1) h) : d_Table_last_of [.ref t, .str who] h q e := by
  have ht := T.t
  have hb := T.b
  rw [u_Table_last_of]; unfold m_Table_last_of
  walk_at "gh"
  rw [dval_A]
  unfold fA
  walk_at "gh"
  exact k
/-- nothing there is changed -/
def Keep (h g : CH) : Prop := ∀ c o, h c = some o → g c = some o
theorem Keep.refl {h : CH} : Keep h h := fun _ _ e => e
theorem Keep.trans {h g k : CH} (x : Keep h g) (y : Keep g k) : Keep h k := fun c o e => y c o (x c o e)
theorem Keep.new {h : CH} {a : Addr} {o : Cob} (n : h a = none) : Keep h (cup h a o) := fun c u e => by rw [cup_ne]; exact e; intro z; rw [z, n] at e; cases e
theorem ne_none {h : CH} {a b : Addr} {o : Cob} (e : h a = some o) (n : h b = none) : a ≠ b := fun z => by rw [z, n] at e; cases e
theorem cup_none {h : CH} {a b : Addr} {o : Cob} (e : cup h a o b = none) : b ≠ a ∧ h b = none := by
  unfold cup at e
  split at e
  · cases e
  · next n => exact ⟨n, e⟩
theorem p_init0 {h : CH} {q e} (t : Addr) (ht : h t = none) (k : ∀ g a b, TabAt g t a b ⟨[], []⟩ → Keep h g → h a = none → h b = none → q .non g) : d_Table___init__ [.ref t, .tup [], .tup []] (cup h t (.ins "Table" [])) q e := by
  rw [u_Table___init__]; unfold m_Table___init__
  walk_at "og"
  simp only [kvsC, kSm_s]
  intro a ha
  obtain ⟨na, ha⟩ := cup_none ha
  simp only [cup_ne (Ne.symm na), cup_same]
  walk_at "g"
  walk_at "og"
  intro b hb
  obtain ⟨nbt, hb⟩ := cup_none hb
  obtain ⟨nba, hb⟩ := cup_none hb
  obtain ⟨_, hb⟩ := cup_none hb
  simp only [cup_ne (Ne.symm nbt), cup_same]
  walk_at "g"
  refine ⟨trivial, k _ a b ⟨Ne.symm na, Ne.symm nbt, Ne.symm nba, cup_same, ?_, ?_⟩ ?_ ha hb⟩
  · rw [cup_ne na, cup_ne (Ne.symm nba), cup_ne na, cup_same]; rfl
  · rw [cup_ne nbt, cup_same]; rfl
  · intro c o e
    have n1 := ne_none e ht
    have n2 := ne_none e ha
    have n3 := ne_none e hb
    rw [cup_ne n1, cup_ne n3, cup_ne n1, cup_ne n2, cup_ne n1]; exact e
theorem gEq_optC {o : Option Int} {h q} (k : q (.bl true) h) : gEq (optC o) (optC o) h q := by
  cases o with
  | none => unfold optC; walk_at "g"; exact k
  | some i => unfold optC; walk_at "g"; exact k
theorem TabAt.frame {h : CH} {t a b c : Addr} {x : Tab} {o : Cob} (T : TabAt h t a b x) (n1 : t ≠ c) (n2 : a ≠ c) (n3 : b ≠ c) : TabAt (cup h c o) t a b x :=
  ⟨T.ta, T.tb, T.ab, by rw [cup_ne n1]; exact T.t, by rw [cup_ne n2]; exact T.a, by rw [cup_ne n3]; exact T.b⟩
theorem TabAt.keep {h g : CH} {t a b : Addr} {x : Tab} (T : TabAt h t a b x) (k : Keep h g) : TabAt g t a b x := ⟨T.ta, T.tb, T.ab, k _ _ T.t, k _ _ T.a, k _ _ T.b⟩
theorem tabH_ne {h : CH} {a b c : Addr} {x : Tab} (n2 : c ≠ a) (n3 : c ≠ b) : tabH h a b x c = h c := by unfold tabH; rw [cup_ne n3, cup_ne n2]
end Lw
open PySem L2 Co Lw
namespace Lw
theorem ix_atC {xs : List Cv} {i : Int} {k : Cv → Prop} (h0 : 0 ≤ i) (h1 : i < xs.length) (hk : k (xs.getD i.toNat .non)) : kSm (L2.atI xs i) k := by
  have := ix_at (f := id) (ds := xs) (d := .non) (k := k) h0 h1 hk
  rwa [List.map_id] at this
/-- plain data, told alike -/
def sOk : Nat → Cv → Prop
  | _, .non => True
  | _, .int _ => True
  | _, .str _ => True
  | n + 1, .tup xs => xs.length ≤ 1000 ∧ ∀ x ∈ xs, sOk n x
  | _, _ => False
theorem gall_true {n : Nat} {h : CH} {q : Cv → CH → Prop} (k : q (.bl true) h) : gAll [.lv (((List.range n).map fun _ => true).map Cv.bl)] h q :=
  ⟨_, rfl, by
    have : (((List.range n).map fun _ => true).all id) = true := by simp
    show q (.bl ((((List.range n).map fun _ => true).all id))) h
    rw [this]; exact k⟩
theorem p_same2 : ∀ (n : Nat) {x : Cv} {h q e}, sOk n x → q (.bl true) h → dr_law_same_2 (n + 1) [x, x] h q e
  | n, x, h, q, e, hx, k => by
    rw [u_law_same_2]; unfold m_law_same_2
    cases x with
    | non => walk_at "og"; walk_at "og"; exact k
    | int i => walk_at "og"; walk_at "og"; walk_at "og"; walk_at "g"; exact k
    | str s => walk_at "og"; walk_at "og"; walk_at "og"; exact k
    | tup xs =>
      cases n with
      | zero => exact hx.elim
      | succ n =>
        obtain ⟨hl, hx⟩ := hx
        walk_at "og"
        walk_at "og"
        refine ⟨by rw [intsR_len]; omega, ?_⟩
        refine cLc_range (fun _ => true) Cv.bl trivial (fun i hi k1 hk => ?_) ?_
        · walk_at "g"
          refine ix_atC (by omega) (by omega) ?_
          refine ix_atC (by omega) (by omega) ?_
          walk_at "g"
          refine p_same2 n (hx _ (getD_mem (by omega))) hk
        · refine gall_true ?_
          exact k
    | bl _ => cases n <;> exact hx.elim
    | lv _ => cases n <;> exact hx.elim
    | fz _ => cases n <;> exact hx.elim
    | ov _ _ => cases n <;> exact hx.elim
    | ref _ => cases n <;> exact hx.elim
theorem sOk_opt (n : Nat) (o : Option Int) : sOk n (optC o) := by
  cases o <;> cases n <;> exact trivial
theorem p_same2_o {o : Option Int} {h q e} (k : q (.bl true) h) : d_law_same_2 [optC o, optC o] h q e := p_same2 7 (sOk_opt 7 o) k
theorem sOk_told (x : Tab) (who : Str) (n : Int) (w : Wk) : sOk 7 (x.told who n w) := by
  unfold Tab.told
  have one : ∀ (s : Str) (c : Cv), sOk 6 c → sOk 7 (.tup [.str s, c]) := fun s c hc => ⟨by simp, fun z hz => by
    simp only [List.mem_cons, List.not_mem_nil, or_false] at hz
    rcases hz with rfl | rfl
    · trivial
    · exact hc⟩
  split
  · exact one _ _ trivial
  · split
    · exact one _ _ (sOk_opt _ _)
    · exact one _ _ (sOk_opt _ _)
/-- an ask -/
structure Ak where
  who : Str
  n : Int
  w : Wk
def Ak.c (a : Ak) : Cv := .tup [.str a.who, .int a.n, a.w.c]
def Ak.ok (ks ws : List Str) (a : Ak) : Prop := a.who ∈ ws ∧ 1 ≤ a.n ∧ a.w.ok ks
/-- what is due of an ask, two dicts kept here -/
theorem p_ldoes {h : CH} {p r : Addr} {x : Tab} {a : Ak} {q e} (npr : p ≠ r) (hp : h p = some (.dct (dK fI x.held))) (hr : h r = some (.dct (dK fA x.asked))) (hl : x.held.length < 1000000) (hl2 : x.asked.length < 1000000)
    (k : q (x.told a.who a.n a.w) (tabH h p r (x.does a.who a.n a.w))) : d_law_does [.ref p, .ref r, a.c] h q e := by
  obtain ⟨who, n, w⟩ := a
  have hl' : (dK fA x.asked).length < 1000000 := by rw [dK_len]; exact hl2
  have is : tabH h p r x = h := by unfold tabH; rw [cup_id hp, cup_id hr]
  rw [u_law_does]; unfold m_law_does
  unfold Ak.c
  walk_at "og"
  refine seq_step ?_
  walk_at "g"
  simp only [hr, kDr_s]
  walk_at "g"
  rw [dval_A]
  dsimp only at k
  unfold Tab.told Tab.does at k
  unfold Tab.last at k
  generalize hlast : (aget x.asked who).getD (0, none) = last at k ⊢
  unfold fA
  by_cases f1 : n < last.1
  · rw [if_pos f1, if_pos (Int.le_of_lt f1), is] at k
    walk_at "og"
    rw [decide_eq_true f1]
    walk_at "g"
    exact k
  rw [if_neg f1] at k
  by_cases f2 : n = last.1
  · rw [if_pos f2, if_pos (by omega), is] at k
    walk_at "og"
    rw [decide_eq_false f1]
    walk_at "g"
    walk_at "og"
    rw [decide_eq_true f2]
    walk_at "g"
    exact k
  rw [if_neg f2, if_neg (by omega)] at k
  walk_at "og"
  rw [decide_eq_false f1]
  walk_at "g"
  walk_at "og"
  rw [decide_eq_false f2]
  walk_at "g"
  refine seq_step ?_
  walk_at "g"
  refine p_due2 hp hl ?_
  walk_at "g"
  rw [cup_ne npr.symm, hr]
  walk_at "g"
  rw [show (Cv.tup [.int n, optC (w.ans x.held)]) = fA (n, w.ans x.held) from rfl, dput_dK]
  refine ⟨fA (n, w.ans x.held), ?_, ?_⟩
  · rw [dval_dK, aget_put, if_pos rfl]; rfl
  unfold fA
  walk_at "g"
  exact k
theorem Wk.cdat {ks : List Str} {w : Wk} (hk : ∀ s ∈ ks, Nm s) (hw : w.ok ks) : cdat w.c = true ∧ cdep w.c ≤ 1 := by
  obtain ⟨h1, _⟩ := hw
  have a := cdat_str (hk _ h1).asc
  cases w with
  | put k v => exact ⟨by unfold Wk.c; rw [Co.cdat, cdats_all]; simp only [List.all_cons, List.all_nil, Bool.and_true]; rw [cdat_lit "put", show Co.cdat (.str k) = true from a]; rfl, by simp [Wk.c, cdep, cdeps]⟩
  | add k v => exact ⟨by unfold Wk.c; rw [Co.cdat, cdats_all]; simp only [List.all_cons, List.all_nil, Bool.and_true]; rw [cdat_lit "add", show Co.cdat (.str k) = true from a]; rfl, by simp [Wk.c, cdep, cdeps]⟩
  | drop k => exact ⟨by unfold Wk.c; rw [Co.cdat, cdats_all]; simp only [List.all_cons, List.all_nil, Bool.and_true]; rw [cdat_lit "drop", show Co.cdat (.str k) = true from a]; rfl, by simp [Wk.c, cdep, cdeps]⟩
theorem Ak.cdat {ks ws : List Str} {a : Ak} (hk : ∀ s ∈ ks, Nm s) (hw : ∀ s ∈ ws, Nm s) (ha : a.ok ks ws) : Co.cdat a.c = true ∧ cdep a.c ≤ 2 := by
  obtain ⟨h1, _, h3⟩ := ha
  obtain ⟨w1, w2⟩ := Wk.cdat hk h3
  refine ⟨?_, ?_⟩
  · unfold Ak.c
    rw [Co.cdat, cdats_all]
    simp only [List.all_cons, List.all_nil, Bool.and_true]
    rw [w1, cdat_str (hw _ h1).asc]
    rfl
  · unfold Ak.c
    simp only [cdep, cdeps]
    omega
theorem p_lask {h : CH} {ds : List Int} {b : Int} {ks ws : List Str} {p : Addr} {bs : List Ak} {q e} (hl : 24 ≤ ds.length) (hd : ∀ d ∈ ds, 0 ≤ d ∧ d < b) (hk : 1 ≤ ks.length) (hw : 1 ≤ ws.length) (nk : ∀ s ∈ ks, Nm s) (nw : ∀ s ∈ ws, Nm s) (hp : h p = some (.lst (bs.map Ak.c))) (hb : ∀ a ∈ bs, a.ok ks ws) (hbl : bs.length < 1000)
    {B : Int} (b0 : 0 ≤ B) (hB : ∀ a ∈ bs, a.n ≤ B) (k : ∀ a : Ak, a.ok ks ws → a.n ≤ B + 3 → q a.c h) : d_law_ask [.lv (ds.map .int), .lv (ks.map .str), .lv (ws.map .str), .ref p] h q e := by
  rw [u_law_ask]; unfold m_law_ask
  walk_at "og"
  refine ix_dig hd (by omega) (by omega) fun d0 a0 a1 => ?_
  obtain ⟨w0, w1⟩ := emod_bd (d0 / 12) (b := ((ws.length : Nat) : Int)) (by omega)
  walk_at "g"
  refine ix_map (by omega) (by omega) fun who hwho => ?_
  walk_at "g"
  refine seq_step ?_
  walk_at "g"
  rw [hp]
  walk_at "g"
  refine cLc_if Ak.c (fun a => decide (a.who = who)) Ak.n Cv.int hp bs (fun a ha k1 k2 hk12 => ?_) ?_
  · unfold Ak.c
    walk_at "g"
    exact hk12
  generalize hns : (bs.filter fun a => decide (a.who = who)).map Ak.n = ns
  have hnB : ∀ n ∈ ns, n ≤ B := fun n hn => by
    rw [← hns] at hn
    obtain ⟨a, ha, rfl⟩ := List.mem_map.mp hn
    exact hB a (List.mem_filter.mp ha).1
  have hn1 : ∀ n ∈ ns, 1 ≤ n := fun n hn => by
    rw [← hns] at hn
    obtain ⟨a, ha, rfl⟩ := List.mem_map.mp hn
    exact (hb a (List.mem_filter.mp ha).1).2.1
  have hnl : ns.length < 1000 := by
    rw [← hns, List.length_map]
    exact Nat.lt_of_le_of_lt (List.length_filter_le _ _) hbl
  walk_at "g"
  refine ⟨0 :: ns, rfl, by simp, fun m hm hmx => ?_⟩
  have m0 : 0 ≤ m := hmx 0 (List.mem_cons_self ..)
  have mB : m ≤ B := by
    rcases List.mem_cons.mp hm with rfl | hm
    · exact b0
    · exact hnB m hm
  walk_at "og"
  refine ix_dig hd (by omega) (by omega) fun d1 b0 b1 => ?_
  walk_at "g"
  refine seq_same (fun K hK => ?_) ?_
  · walk_at "g"
    refine ix_dig hd (by omega) (by omega) fun d2 c0 c1 => ?_
    walk_at "g"
    split
    · rw [w_nev_l hp rfl]
      have hok : okd (.lv (bs.map Ak.c)) := okd_lv (fun x hx => by obtain ⟨a, ha, rfl⟩ := List.mem_map.mp hx; exact (Ak.cdat nk nw (hb a ha)).1) (fun x hx => by obtain ⟨a, ha, rfl⟩ := List.mem_map.mp hx; have := (Ak.cdat nk nw (hb a ha)).2; omega)
      refine ⟨hok, rfl, ?_⟩
      rw [ceq_nil]
      walk_at "g"
      cases hbs : bs with
      | nil => exact hK
      | cons b1 br =>
        rw [← hbs]
        have hbl0 : 1 ≤ bs.length := by rw [hbs]; simp
        have : (bs.map Ak.c).isEmpty = false := by rw [hbs]; rfl
        rw [this]
        simp only [Bool.not_false, if_true]
        refine ix_dig hd (by omega) (by omega) fun d3 e0 e1 => ?_
        obtain ⟨u0, u1⟩ := emod_bd (d3 / 4) (b := ((bs.length : Nat) : Int)) (by omega)
        walk_at "g"
        rw [hp]
        walk_at "g"
        exact ix_map (by omega) (by omega) fun a ha => k a (hb a ha) (by have := hB a ha; omega)
    · exact hK
  refine seq_cut (fun env g => ∃ n, 1 ≤ n ∧ n ≤ B + 3 ∧ env = [some (.lv (ds.map .int)), some (.lv (ks.map .str)), some (.lv (ws.map .str)), some (.ref p), some (.str who), some (.int m), some (.int n), none, none] ∧ g = h) (fun K hK => ?_) ?_
  · walk_at "g"
    refine ix_dig hd (by omega) (by omega) fun d2 c0 c1 => ?_
    walk_at "g"
    split
    · walk_at "g"
      refine ix_dig hd (by omega) (by omega) fun d3 e0 e1 => ?_
      walk_at "g"
      exact hK _ _ ⟨_, by split <;> omega, by split <;> omega, rfl, rfl⟩
    · exact hK _ _ ⟨_, by omega, by omega, rfl, rfl⟩
  · rintro _ _ ⟨n, hn, hnn, rfl, rfl⟩
    walk_at "g"
    refine p_work2 hl hd hk fun w hw => ?_
    walk_at "g"
    exact k ⟨who, n, w⟩ ⟨hwho, hn, hw⟩ hnn
theorem p_lasksB {h : CH} {ns : List Int} {ks ws : List Str} {lo many : Int} {q e} (hn : ns.length ≤ 63) (l0 : 0 ≤ lo) (l1 : lo ≤ 100) (m0 : 0 ≤ many) (m1 : many ≤ 100) (hk : 1 ≤ ks.length) (hw : 1 ≤ ws.length) (nk : ∀ s ∈ ks, Nm s) (nw : ∀ s ∈ ws, Nm s)
    (k : ∀ bs : List Ak, (∀ a ∈ bs, a.ok ks ws) → bs.length ≤ 63 → (∀ a ∈ bs, a.n ≤ 200) → q (.lv (bs.map Ak.c)) h) : d_law_asks [.fz (ns.map .int), .int lo, .int many, .lv (ks.map .str), .lv (ws.map .str)] h q e := by
  rw [u_law_asks]; unfold m_law_asks
  walk_at "og"
  intro p hp
  refine seq_step ?_
  walk_at "g"
  refine cLoop_range (fun i env g => ∃ a6 bs, env = [some (.fz (ns.map .int)), some (.int lo), some (.int many), some (.lv (ks.map .str)), some (.lv (ws.map .str)), some (.ref p), a6] ∧ g = cup h p (.lst (bs.map Ak.c)) ∧ (∀ a ∈ bs, a.ok ks ws) ∧ bs.length = i ∧ ∀ a ∈ bs, a.n ≤ 3 * (i : Int)) ?_ ?_ _ _ ⟨none, [], rfl, rfl, fun _ z => (by cases z), rfl, fun _ z => (by cases z)⟩
  · rintro i _ _ K hi ⟨a6, bs, rfl, rfl, hb, hl, hB⟩ hK
    have hi63 : i < 63 ∧ lo + i < 100 := by
      split at hi <;> omega
    walk_at "g"
    refine p_digits (fun ds hd1 hd => ?_) (by omega) (by omega) (by decide) (by decide) (by decide) (by decide)
    walk_at "g"
    refine p_lask (b := 1080) (bs := bs) (by omega) hd hk hw nk nw cup_same hb (by omega) (B := 3 * (i : Int)) (by omega) hB fun a ha haB => ?_
    walk_at "g"
    have e1 : bs.map Ak.c ++ [a.c] = (bs ++ [a]).map Ak.c := by rw [List.map_append]; rfl
    rw [e1]
    refine hK _ _ ⟨_, bs ++ [a], rfl, rfl, fun z hz => ?_, by rw [List.length_append]; simp [hl], fun z hz => ?_⟩
    · rcases List.mem_append.mp hz with hz | hz
      · exact hb z hz
      · rw [List.mem_singleton.mp hz]; exact ha
    · rcases List.mem_append.mp hz with hz | hz
      · have := hB z hz; omega
      · rw [List.mem_singleton.mp hz]; omega
  · rintro _ _ ⟨a6, bs, rfl, rfl, hb, hl, hB⟩
    walk_at "g"
    rw [cdel_cup hp]
    have hl2 : bs.length ≤ 63 := by
      rw [hl]
      split <;> omega
    refine k bs hb hl2 fun a ha => ?_
    have := hB a ha
    rw [hl] at hl2
    omega
theorem p_lasks {h : CH} {ns : List Int} {ks ws : List Str} {lo many : Int} {q e} (hn : ns.length ≤ 63) (l0 : 0 ≤ lo) (l1 : lo ≤ 100) (m0 : 0 ≤ many) (m1 : many ≤ 100) (hk : 1 ≤ ks.length) (hw : 1 ≤ ws.length) (nk : ∀ s ∈ ks, Nm s) (nw : ∀ s ∈ ws, Nm s)
    (k : ∀ bs : List Ak, (∀ a ∈ bs, a.ok ks ws) → bs.length ≤ 63 → q (.lv (bs.map Ak.c)) h) : d_law_asks [.fz (ns.map .int), .int lo, .int many, .lv (ks.map .str), .lv (ws.map .str)] h q e :=
  p_lasksB hn l0 l1 m0 m1 hk hw nk nw fun bs hb hl _ => k bs hb hl
theorem does_len (x : Tab) (who : Str) (n : Int) (w : Wk) : (x.does who n w).held.length ≤ x.held.length + 1 ∧ (x.does who n w).asked.length ≤ x.asked.length + 1 := by
  unfold Tab.does
  split
  · exact ⟨Nat.le_succ _, Nat.le_succ _⟩
  · exact ⟨held_len _ _, aput_len _ _ _⟩
end Lw
open PySem L2 Co Lw
namespace Lw
/-! ### tables told -/
section
variable {α : Type} {l : List (Str × α)} {s : Str} {v : α}
/-- unlike keys -/
def Kn (l : List (Str × α)) : Prop := (l.map (·.1)).Nodup
theorem aget_mem : ∀ (l : List (Str × α)) (s : Str), s ∈ l.map (·.1) ↔ (aget l s).isSome = true
  | [], s => by simp [aget]
  | p :: l, s => by
    rw [List.map_cons, List.mem_cons, aget_cons, aget_mem l s]
    by_cases h : p.1 = s
    · simp [h]
    · have : ¬ s = p.1 := fun z => h z.symm
      simp [h, this]
theorem Kn.drop (h : Kn l) : Kn (adrop l s) := by
  unfold Kn adrop at *
  exact h.sublist (List.Sublist.map _ List.filter_sublist)
theorem Kn.put (h : Kn l) : Kn (aput l s v) := by
  unfold Kn aput at *
  split
  · rw [List.map_map]
    have : ((fun x : Str × α => x.1) ∘ fun p : Str × α => if p.1 = s then (p.1, v) else p) = fun x => x.1 := by
      funext p; simp only [Function.comp]; split <;> rfl
    rw [this]; exact h
  · next hn =>
    rw [List.map_append, List.nodup_append]
    refine ⟨h, by simp, fun a ha b hb e => ?_⟩
    rw [any_aget] at hn
    have e1 : b = s := by simpa using hb
    subst e1
    subst e
    exact hn ((aget_mem l _).mp ha)
def amerge (acc more : List (Str × α)) : List (Str × α) := more.foldl (fun a p => aput a p.1 p.2) acc
theorem amerge_kn : ∀ {more acc : List (Str × α)}, Kn acc → Kn (amerge acc more)
  | [], _, h => h
  | p :: more, acc, h => amerge_kn (more := more) h.put
theorem aput_new (h : aget l s = none) : aput l s v = l ++ [(s, v)] := by
  unfold aput
  rw [any_aget, h, if_neg (by simp)]
theorem amerge_new : ∀ {more acc : List (Str × α)}, Kn more → (∀ p ∈ more, aget acc p.1 = none) → amerge acc more = acc ++ more
  | [], acc, _, _ => by simp [amerge]
  | p :: more, acc, hk, hn => by
    show amerge (aput acc p.1 p.2) more = _
    have h0 := hn p (List.mem_cons_self ..)
    unfold Kn at hk
    rw [List.map_cons, List.nodup_cons] at hk
    rw [aput_new h0, amerge_new hk.2 fun q hq => ?_, List.append_assoc]
    · rfl
    · have h1 := hn q (List.mem_cons_of_mem _ hq)
      rw [aget_app, h1, aget_cons, aget_nil, if_neg (fun e => hk.1 (by rw [e]; exact List.mem_map.mpr ⟨q, hq, rfl⟩))]
      rfl
theorem amerge_id (hk : Kn l) : amerge [] l = l := by rw [amerge_new hk fun _ _ => aget_nil]; rfl
theorem dmerge_dK (f : α → Cv) : ∀ (more acc : List (Str × α)), dmerge (dK f acc) (dK f more) = dK f (amerge acc more)
  | [], acc => rfl
  | p :: more, acc => by
    show dmerge (dput (dK f acc) (.inr p.1) (f p.2)) (dK f more) = dK f (amerge (aput acc p.1 p.2) more)
    rw [dput_dK, dmerge_dK f more]
theorem aget_map2 {β : Type} (g : Str → β) : ∀ (ss : List Str) (s : Str), aget (ss.map fun u => (u, g u)) s = if s ∈ ss then some (g s) else none
  | [], s => by simp [aget]
  | u :: ss, s => by
    rw [List.map_cons, aget_cons, aget_map2 g ss s]
    by_cases h : u = s
    · subst h; simp
    · have : ¬ s = u := fun z => h z.symm
      simp [h, this]
end
structure Tab.Ok (x : Tab) : Prop where
  h : Kn x.held
  a : Kn x.asked
  hl : x.held.length < 64
  al : x.asked.length < 64
/-- as a table's told shows it -/
def pH (p : Str × Int) : Cv := .tup [.str p.1, .int p.2]
def pA (p : Str × (Int × Option Int)) : Cv := .tup [.str p.1, .int p.2.1, optC p.2.2]
/-- the same, rising -/
structure Tab.Told (x y : Tab) : Prop where
  h : Ris (y.held.map (·.1))
  a : Ris (y.asked.map (·.1))
  eh : ∀ s, aget y.held s = aget x.held s
  ea : ∀ s, aget y.asked s = aget x.asked s
def Tab.c (y : Tab) : Cv := .tup [.tup (y.held.map pH), .tup (y.asked.map pA)]
theorem kn_ext {α : Type} : ∀ {l m : List (Str × α)}, Kn l → l.map (·.1) = m.map (·.1) → (∀ s, aget l s = aget m s) → l = m
  | [], [], _, _, _ => rfl
  | [], _ :: _, _, e, _ => by cases e
  | _ :: _, [], _, e, _ => by cases e
  | p :: l, q :: m, hk, e, he => by
    unfold Kn at hk
    rw [List.map_cons, List.nodup_cons] at hk
    rw [List.map_cons, List.map_cons] at e
    obtain ⟨e1, e2⟩ := List.cons.inj e
    have h1 := he p.1
    rw [aget_cons, aget_cons, if_pos rfl, if_pos e1.symm] at h1
    have h2 : p = q := Prod.ext e1 (Option.some.inj h1)
    subst h2
    rw [kn_ext (l := l) (m := m) hk.2 e2 fun s => ?_]
    have h3 := he s
    rw [aget_cons, aget_cons] at h3
    by_cases z : p.1 = s
    · subst z
      have n1 : aget l p.1 = none := by
        cases z : aget l p.1 with
        | none => rfl
        | some w => exact (hk.1 ((aget_mem l _).mpr (by rw [z]; rfl))).elim
      have n2 : aget m p.1 = none := by
        cases z : aget m p.1 with
        | none => rfl
        | some w => exact (hk.1 (e2 ▸ (aget_mem m _).mpr (by rw [z]; rfl))).elim
      rw [n1, n2]
    · rw [if_neg z, if_neg z] at h3; exact h3
/-- the same for all who look -/
structure Tab.Eq (x y : Tab) : Prop where
  h : ∀ s, aget x.held s = aget y.held s
  a : ∀ s, aget x.asked s = aget y.asked s
theorem Tab.Eq.refl {x : Tab} : x.Eq x := ⟨fun _ => rfl, fun _ => rfl⟩
theorem Tab.Eq.symm {x y : Tab} (e : x.Eq y) : y.Eq x := ⟨fun s => (e.h s).symm, fun s => (e.a s).symm⟩
theorem Tab.Eq.trans {x y z : Tab} (e : x.Eq y) (f : y.Eq z) : x.Eq z := ⟨fun s => (e.h s).trans (f.h s), fun s => (e.a s).trans (f.a s)⟩
theorem Tab.Told.eq {x y : Tab} (t : x.Told y) : y.Eq x := ⟨t.eh, t.ea⟩
theorem Tab.Told.uniq {x x' y y' : Tab} (e : x.Eq x') (t : x.Told y) (t' : x'.Told y') : y = y' := by
  have hh : y.held = y'.held := by
    refine kn_ext t.h.nodup (ris_uniq t.h t'.h fun s => ?_) fun s => by rw [t.eh, t'.eh, e.h]
    rw [aget_mem, aget_mem, t.eh, t'.eh, e.h]
  have ha : y.asked = y'.asked := by
    refine kn_ext t.a.nodup (ris_uniq t.a t'.a fun s => ?_) fun s => by rw [t.ea, t'.ea, e.a]
    rw [aget_mem, aget_mem, t.ea, t'.ea, e.a]
  cases y; cases y'; cases hh; cases ha; rfl
theorem Tab.Eq.does {x y : Tab} (e : x.Eq y) (who : Str) (n : Int) (w : Wk) : (x.does who n w).Eq (y.does who n w) ∧ x.told who n w = y.told who n w := by
  have hl : x.last who = y.last who := by unfold Tab.last; rw [e.a]
  have ha : w.ans x.held = w.ans y.held := by cases w <;> simp only [Wk.ans, e.h]
  have hh : ∀ s, aget (w.held x.held) s = aget (w.held y.held) s := by
    intro s
    cases w with
    | put k v => simp only [Wk.held, aget_put, e.h]
    | add k v => simp only [Wk.held, aget_put, e.h]
    | drop k => simp only [Wk.held, aget_drop, e.h]
  constructor
  · unfold Tab.does
    rw [hl]
    split
    · exact e
    · exact ⟨hh, fun s => by dsimp only; rw [aget_put, aget_put, ha, e.a]⟩
  · unfold Tab.told
    rw [hl, ha]
theorem Wk.kn {l : List (Str × Int)} (w : Wk) (h : Kn l) : Kn (w.held l) := by cases w <;> first | exact h.put | exact h.drop
theorem Tab.Eq.len {x y : Tab} (e : x.Eq y) (hx : x.Ok) (hy : Kn y.held ∧ Kn y.asked) : y.Ok := by
  refine ⟨hy.1, hy.2, ?_, ?_⟩
  · have := nodup_le (xs := y.held.map (·.1)) (ys := x.held.map (·.1)) (show (y.held.map (·.1)).Nodup from hy.1) fun s hs => by rw [aget_mem] at hs ⊢; rw [e.h]; exact hs
    rw [List.length_map, List.length_map] at this
    have := hx.hl
    omega
  · have := nodup_le (xs := y.asked.map (·.1)) (ys := x.asked.map (·.1)) (show (y.asked.map (·.1)).Nodup from hy.2) fun s hs => by rw [aget_mem] at hs ⊢; rw [e.a]; exact hs
    rw [List.length_map, List.length_map] at this
    have := hx.al
    omega
theorem Tab.Told.ok {x y : Tab} (t : x.Told y) (hx : x.Ok) : y.Ok := t.eq.symm.len hx ⟨t.h.nodup, t.a.nodup⟩
/-- sorted(d): the keys, rising -/
theorem gsorted_dK {α : Type} {f : α → Cv} {l : List (Str × α)} {p : Addr} {h : CH} {q : Cv → CH → Prop} (hp : h p = some (.dct (dK f l))) (hk : Kn l) (hl : l.length < 64) (k : ∀ ys : List Str, Ris ys → (∀ s, s ∈ ys ↔ (aget l s).isSome = true) → q (.lv (ys.map .str)) h) : gSortedD [.ref p] h q := by
  rw [w_sortedd, hp, kDr_s]
  refine .inl ⟨l.map (·.1), by unfold dK; rw [List.map_map, List.map_map]; rfl, by rw [List.length_map]; exact hl, fun ys hp hs => ?_⟩
  exact k ys (ris_sorted hs (hp.nodup_iff.mpr hk)) fun s => by rw [hp.mem_iff, aget_mem]
/-- the two parts of what is told -/
theorem told_of {x : Tab} {ys zs : List Str} (hx : x.Ok) (r1 : Ris ys) (m1 : ∀ s, s ∈ ys ↔ (aget x.held s).isSome = true) (r2 : Ris zs) (m2 : ∀ s, s ∈ zs ↔ (aget x.asked s).isSome = true) :
    x.Told ⟨ys.map fun s => (s, (aget x.held s).getD 0), zs.map fun s => (s, x.last s)⟩ := by
  refine ⟨?_, ?_, fun s => ?_, fun s => ?_⟩
  · show Ris ((ys.map fun s => (s, (aget x.held s).getD 0)).map (·.1))
    rw [List.map_map, show ((fun x : Str × Int => x.1) ∘ fun s => (s, (aget x.held s).getD 0)) = id from rfl, List.map_id]; exact r1
  · show Ris ((zs.map fun s => (s, x.last s)).map (·.1))
    rw [List.map_map, show ((fun y : Str × (Int × Option Int) => y.1) ∘ fun s => (s, x.last s)) = id from rfl, List.map_id]; exact r2
  · dsimp only
    rw [aget_map2]
    have := m1 s
    cases e : aget x.held s with
    | none => rw [e] at this; rw [if_neg (by simp [this])]
    | some v => rw [e] at this; rw [if_pos (this.mpr rfl)]; rfl
  · dsimp only
    rw [aget_map2]
    have := m2 s
    unfold Tab.last
    cases e : aget x.asked s with
    | none => rw [e] at this; rw [if_neg (by simp [this])]
    | some v => rw [e] at this; rw [if_pos (this.mpr rfl)]; rfl
theorem dval_I' {l : List (Str × Int)} {s : Str} (h : (aget l s).isSome = true) : dval (dK fI l) (.inr s) = some (.int ((aget l s).getD 0)) := by
  rw [dval_I]
  cases e : aget l s with
  | none => rw [e] at h; cases h
  | some v => rfl
theorem dval_A' {x : Tab} {s : Str} (h : (aget x.asked s).isSome = true) : dval (dK fA x.asked) (.inr s) = some (fA (x.last s)) := by
  rw [dval_dK]
  unfold Tab.last
  cases e : aget x.asked s with
  | none => rw [e] at h; cases h
  | some v => rfl
theorem p_told {h : CH} {t a b : Addr} {x : Tab} {q e} (T : TabAt h t a b x) (hx : x.Ok) (k : ∀ y, x.Told y → q y.c h) : d_Table_told [.ref t] h q e := by
  have ht := T.t
  rw [u_Table_told]; unfold m_Table_told
  walk_at "og"
  rw [ht]
  walk_at "g"
  refine gsorted_dK T.b hx.a hx.al fun zs r2 m2 => ?_
  have lz : zs.length < 64 := by
    have := nodup_le (xs := zs) (ys := x.asked.map (·.1)) r2.nodup fun s hs => (aget_mem _ _).mpr ((m2 s).mp hs)
    rw [List.length_map] at this
    have := hx.al
    omega
  walk_at "g"
  refine cLcGo_map (fun c => match c with | .str s => pA (s, x.last s) | _ => .non) trivial _ (fun z hz k1 hk => ?_) ?_
  · obtain ⟨s, hs, rfl⟩ := List.mem_map.mp hz
    have hv := dval_A' ((m2 s).mp hs)
    walk_at "g"
    simp only [ht]
    walk_at "g"
    simp only [T.b]
    walk_at "g"
    refine ⟨_, hv, ?_⟩
    unfold fA
    walk_at "g"
    simp only [ht]
    walk_at "g"
    simp only [T.b]
    walk_at "g"
    refine ⟨_, hv, ?_⟩
    unfold fA
    walk_at "g"
    exact hk
  walk_at "g"
  rw [ht]
  walk_at "g"
  refine gsorted_dK T.a hx.h hx.hl fun ys r1 m1 => ?_
  have ly : ys.length < 64 := by
    have := nodup_le (xs := ys) (ys := x.held.map (·.1)) r1.nodup fun s hs => (aget_mem _ _).mpr ((m1 s).mp hs)
    rw [List.length_map] at this
    have := hx.hl
    omega
  walk_at "g"
  refine cLcGo_map (fun c => match c with | .str s => pH (s, (aget x.held s).getD 0) | _ => .non) trivial _ (fun z hz k1 hk => ?_) ?_
  · obtain ⟨s, hs, rfl⟩ := List.mem_map.mp hz
    have hv := dval_I' ((m1 s).mp hs)
    walk_at "g"
    simp only [ht]
    walk_at "g"
    simp only [T.a]
    walk_at "g"
    exact ⟨_, hv, hk⟩
  walk_at "g"
  have key := k _ (told_of hx r1 m1 r2 m2)
  unfold Tab.c at key
  rw [List.map_map, List.map_map] at key
  rw [List.map_map, List.map_map]
  exact key
/-- .. of dicts kept here -/
theorem p_ltold {h : CH} {p r : Addr} {x : Tab} {q e} (hp : h p = some (.dct (dK fI x.held))) (hr : h r = some (.dct (dK fA x.asked))) (hx : x.Ok) (k : ∀ y, x.Told y → q y.c h) : d_law_told_2 [.ref p, .ref r] h q e := by
  rw [u_law_told_2]; unfold m_law_told_2
  walk_at "og"
  refine gsorted_dK hp hx.h hx.hl fun ys r1 m1 => ?_
  have ly : ys.length < 64 := by
    have := nodup_le (xs := ys) (ys := x.held.map (·.1)) r1.nodup fun s hs => (aget_mem _ _).mpr ((m1 s).mp hs)
    rw [List.length_map] at this
    have := hx.hl
    omega
  walk_at "g"
  refine cLcGo_map (fun c => match c with | .str s => pH (s, (aget x.held s).getD 0) | _ => .non) trivial _ (fun z hz k1 hk => ?_) ?_
  · obtain ⟨s, hs, rfl⟩ := List.mem_map.mp hz
    have hv := dval_I' ((m1 s).mp hs)
    walk_at "g"
    simp only [hp]
    walk_at "g"
    exact ⟨_, hv, hk⟩
  walk_at "og"
  refine gsorted_dK hr hx.a hx.al fun zs r2 m2 => ?_
  have lz : zs.length < 64 := by
    have := nodup_le (xs := zs) (ys := x.asked.map (·.1)) r2.nodup fun s hs => (aget_mem _ _).mpr ((m2 s).mp hs)
    rw [List.length_map] at this
    have := hx.al
    omega
  walk_at "g"
  refine cLcGo_map (fun c => match c with | .str s => pA (s, x.last s) | _ => .non) trivial _ (fun z hz k1 hk => ?_) ?_
  · obtain ⟨s, hs, rfl⟩ := List.mem_map.mp hz
    have hv := dval_A' ((m2 s).mp hs)
    walk_at "g"
    simp only [hr]
    walk_at "g"
    refine ⟨_, hv, ?_⟩
    unfold fA
    walk_at "g"
    simp only [hr]
    walk_at "g"
    refine ⟨_, hv, ?_⟩
    unfold fA
    walk_at "g"
    exact hk
  walk_at "g"
  have key := k _ (told_of hx r1 m1 r2 m2)
  unfold Tab.c at key
  rw [List.map_map, List.map_map] at key
  rw [List.map_map, List.map_map]
  exact key
theorem kvsC_H : ∀ l : List (Str × Int), kvsC (l.map pH) = some (dK fI l)
  | [] => rfl
  | p :: l => by
    rw [List.map_cons]
    show (match keyC (.str p.1), kvsC (l.map pH) with | some z, some t => some ((z, Cv.int p.2) :: t) | _, _ => none) = _
    rw [kvsC_H l]
    rfl
/-- a table made of what is told -/
theorem p_init {h : CH} {q e} (t : Addr) (x : Tab) (hk : Kn x.held ∧ Kn x.asked) (hl : x.held.length < 1000 ∧ x.asked.length < 1000) (ht : h t = none) (k : ∀ g a b, TabAt g t a b x → Keep h g → h a = none → h b = none → q .non g) :
    d_Table___init__ [.ref t, .tup (x.held.map pH), .tup (x.asked.map pA)] (cup h t (.ins "Table" [])) q e := by
  rw [u_Table___init__]; unfold m_Table___init__
  walk_at "og"
  simp only [kvsC_H, kSm_s]
  intro a ha
  obtain ⟨na, ha⟩ := cup_none ha
  simp only [cup_ne (Ne.symm na), cup_same]
  walk_at "g"
  walk_at "og"
  intro b hb
  obtain ⟨nbt, hb⟩ := cup_none hb
  obtain ⟨nba, hb⟩ := cup_none hb
  obtain ⟨_, hb⟩ := cup_none hb
  simp only [cup_ne (Ne.symm nbt), cup_same]
  walk_at "g"
  rw [← dK_nil fI, dmerge_dK, amerge_id hk.1]
  have T0 : TabAt (cup (cup (cup (cup (cup h t (Cob.ins "Table" [])) a (Cob.dct (dK fI x.held))) t (Cob.ins "Table" [(Str.ofString "held", Cv.ref a)])) b (Cob.dct [])) t (Cob.ins "Table" [(Str.ofString "held", Cv.ref a), (Str.ofString "asked", Cv.ref b)])) t a b ⟨x.held, []⟩ :=
    ⟨Ne.symm na, Ne.symm nbt, Ne.symm nba, cup_same, by rw [cup_ne na, cup_ne (Ne.symm nba), cup_ne na, cup_same], by rw [cup_ne nbt, cup_same]; rfl⟩
  have K0 : Keep h (cup (cup (cup (cup (cup h t (Cob.ins "Table" [])) a (Cob.dct (dK fI x.held))) t (Cob.ins "Table" [(Str.ofString "held", Cv.ref a)])) b (Cob.dct [])) t (Cob.ins "Table" [(Str.ofString "held", Cv.ref a), (Str.ofString "asked", Cv.ref b)])) := by
    intro c o e
    have n1 := ne_none e ht
    have n2 := ne_none e ha
    have n3 := ne_none e hb
    rw [cup_ne n1, cup_ne n3, cup_ne n1, cup_ne n2, cup_ne n1]; exact e
  refine cLoop_map pA (fun xs env g => ∃ a3 a4 a5 done, env = [some (.ref t), some (.tup (x.held.map pH)), some (.tup (x.asked.map pA)), a3, a4, a5] ∧ x.asked = done ++ xs ∧ TabAt g t a b ⟨x.held, done⟩ ∧ Keep h g) (fun _ _ _ _ => trivial) ?_ ?_ _ _ _ ⟨_, _, _, [], rfl, rfl, T0, K0⟩
  · rintro p xs _ g K ⟨a3, a4, a5, done, rfl, hd, T, Kp⟩ hK
    have htg := T.t
    have hbg := T.b
    unfold pA
    walk_at "g"
    have hlen : (dK fA done).length < 1000000 := by
      rw [dK_len]
      have := congrArg List.length hd
      rw [List.length_append] at this
      omega
    rw [htg]
    walk_at "g"
    rw [hbg]
    walk_at "g"
    have hn : aget done p.1 = none := by
      have h1 := hk.2
      unfold Kn at h1
      rw [hd, List.map_append, List.map_cons, List.nodup_append] at h1
      cases z : aget done p.1 with
      | none => rfl
      | some w => exact (h1.2.2 p.1 ((aget_mem _ _).mpr (by rw [z]; rfl)) p.1 (List.mem_cons_self ..) rfl).elim
    rw [show (Cv.tup [.int p.2.1, optC p.2.2]) = fA p.2 from rfl, dput_dK, T.askedH, aput_new hn]
    refine hK _ _ ⟨_, _, _, done ++ [(p.1, p.2)], rfl, by rw [hd]; simp, T.put _, ?_⟩
    intro c o e
    have n2 := ne_none e ha
    have n3 := ne_none e hb
    rw [tabH_ne n2 n3]
    exact Kp c o e
  · rintro _ g ⟨a3, a4, a5, done, rfl, hd, T, Kp⟩
    rw [List.append_nil] at hd
    subst hd
    exact k _ a b T Kp ha hb
theorem p_twin {h : CH} {t a b : Addr} {x : Tab} {q e} (T : TabAt h t a b x) (hx : x.Ok) (k : ∀ g t2 a2 b2 y, x.Told y → TabAt g t2 a2 b2 y → Keep h g → h t2 = none → h a2 = none → h b2 = none → q (.ref t2) g) : d_Table_twin [.ref t] h q e := by
  have ht := T.t
  rw [u_Table_twin]; unfold m_Table_twin
  refine seq_step ?_
  walk_at "g"
  rw [ht]
  walk_at "g"
  refine p_told T hx fun y ty => ?_
  have hy := ty.ok hx
  unfold Tab.c
  walk_at "g"
  intro t2 ht2
  refine p_init t2 y ⟨hy.h, hy.a⟩ ⟨by have := hy.hl; omega, by have := hy.al; omega⟩ ht2 fun g a2 b2 T2 K2 na nb => ?_
  walk_at "g"
  exact k g t2 a2 b2 y ty T2 K2 ht2 na nb
end Lw
open PySem L2 Co Lw
namespace Lw
/-! ### what stands in the heap, at unlike places -/
structure Hs (g : CH) (L : List (Addr × Cob)) : Prop where
  n : (L.map (·.1)).Nodup
  e : ∀ p ∈ L, g p.1 = some p.2
theorem Hs.nil {g : CH} : Hs g [] := ⟨by simp, fun _ h => by cases h⟩
theorem Hs.new {g : CH} {L : List (Addr × Cob)} {a : Addr} {o : Cob} (H : Hs g L) (n : g a = none) : Hs (cup g a o) ((a, o) :: L) := by
  refine ⟨?_, fun p hp => ?_⟩
  · rw [List.map_cons, List.nodup_cons]
    refine ⟨fun h => ?_, H.n⟩
    obtain ⟨p, hp, e⟩ := List.mem_map.mp h
    have := H.e p hp
    rw [e, n] at this
    cases this
  · rcases List.mem_cons.mp hp with rfl | hp
    · exact cup_same
    · have := H.e p hp
      rw [cup_ne (ne_none this n)]
      exact this
abbrev Z3 := Addr × Addr × Addr
def tabL (z : Z3) (x : Tab) : List (Addr × Cob) := [(z.1, .ins "Table" [("held", .ref z.2.1), ("asked", .ref z.2.2)]), (z.2.1, .dct (dK fI x.held)), (z.2.2, .dct (dK fA x.asked))]
theorem Hs.newTab {g g' : CH} {L : List (Addr × Cob)} {t a b : Addr} {x : Tab} (H : Hs g L) (T : TabAt g' t a b x) (K : Keep g g') (nt : g t = none) (na : g a = none) (nb : g b = none) : Hs g' (tabL (t, a, b) x ++ L) := by
  have hn : ∀ c, g c = none → c ∉ L.map (·.1) := fun c n h => by
    obtain ⟨p, hp, e⟩ := List.mem_map.mp h
    have := H.e p hp
    rw [e, n] at this
    cases this
  refine ⟨?_, fun p hp => ?_⟩
  · rw [List.map_append, List.nodup_append]
    refine ⟨by simp [tabL, T.ta, T.tb, T.ab], H.n, fun c hc d hd e => ?_⟩
    subst e
    simp only [tabL, List.map_cons, List.map_nil, List.mem_cons, List.not_mem_nil, or_false] at hc
    rcases hc with rfl | rfl | rfl
    · exact hn _ nt hd
    · exact hn _ na hd
    · exact hn _ nb hd
  · rcases List.mem_append.mp hp with hp | hp
    · simp only [tabL, List.mem_cons, List.not_mem_nil, or_false] at hp
      rcases hp with rfl | rfl | rfl
      · exact T.t
      · exact T.a
      · exact T.b
    · exact K _ _ (H.e p hp)
theorem Hs.tab {g : CH} {A C : List (Addr × Cob)} {z : Z3} {x : Tab} (H : Hs g (A ++ (tabL z x ++ C))) : TabAt g z.1 z.2.1 z.2.2 x := by
  have h := H.n
  rw [List.map_append, List.nodup_append, List.map_append, List.nodup_append] at h
  have h1 := h.2.1.1
  simp only [tabL, List.map_cons, List.map_nil, List.nodup_cons, List.mem_cons, List.not_mem_nil, or_false, not_or] at h1
  have m : ∀ p, p ∈ tabL z x → g p.1 = some p.2 := fun p hp => H.e p (List.mem_append_right _ (List.mem_append_left _ hp))
  exact ⟨h1.1.1, h1.1.2, h1.2.1, m (z.1, .ins "Table" [("held", .ref z.2.1), ("asked", .ref z.2.2)]) (by simp [tabL]), m (z.2.1, .dct (dK fI x.held)) (by simp [tabL]), m (z.2.2, .dct (dK fA x.asked)) (by simp [tabL])⟩
theorem Hs.set {g : CH} {A C : List (Addr × Cob)} {a : Addr} {o u : Cob} (H : Hs g (A ++ ((a, o) :: C))) : Hs (cup g a u) (A ++ ((a, u) :: C)) := by
  have h := H.n
  refine ⟨by rw [List.map_append, List.map_cons] at h ⊢; exact h, fun p hp => ?_⟩
  rw [List.map_append, List.map_cons, List.nodup_append] at h
  rcases List.mem_append.mp hp with hp | hp
  · have ne : p.1 ≠ a := h.2.2 p.1 (List.mem_map.mpr ⟨p, hp, rfl⟩) a (List.mem_cons_self ..)
    rw [cup_ne ne]; exact H.e p (List.mem_append_left _ hp)
  · rcases List.mem_cons.mp hp with rfl | hp
    · exact cup_same
    · have ne : p.1 ≠ a := fun e => (List.nodup_cons.mp h.2.1).1 (e ▸ List.mem_map.mpr ⟨p, hp, rfl⟩)
      rw [cup_ne ne]; exact H.e p (List.mem_append_right _ (List.mem_cons_of_mem _ hp))
theorem Hs.put {g : CH} {A C : List (Addr × Cob)} {z : Z3} {x : Tab} (H : Hs g (A ++ (tabL z x ++ C))) (y : Tab) : Hs (tabH g z.2.1 z.2.2 y) (A ++ (tabL z y ++ C)) := by
  have h1 : Hs g ((A ++ [(z.1, .ins "Table" [("held", .ref z.2.1), ("asked", .ref z.2.2)])]) ++ ((z.2.1, .dct (dK fI x.held)) :: ((z.2.2, .dct (dK fA x.asked)) :: C))) := by
    rw [List.append_assoc]; exact H
  have h2 := h1.set (u := .dct (dK fI y.held))
  have h3 : Hs (cup g z.2.1 (.dct (dK fI y.held))) ((A ++ [(z.1, .ins "Table" [("held", .ref z.2.1), ("asked", .ref z.2.2)]), (z.2.1, .dct (dK fI y.held))]) ++ ((z.2.2, .dct (dK fA x.asked)) :: C)) := by
    rw [List.append_assoc]; rw [List.append_assoc] at h2; exact h2
  have h4 := h3.set (u := .dct (dK fA y.asked))
  rw [List.append_assoc] at h4
  exact h4
theorem Hs.at0 {g : CH} {A C : List (Addr × Cob)} {a : Addr} {o : Cob} (H : Hs g (A ++ ((a, o) :: C))) : g a = some o := H.e (a, o) (List.mem_append_right _ (List.mem_cons_self ..))
def dictL (r p : Addr) (x : Tab) : List (Addr × Cob) := [(r, .dct (dK fA x.asked)), (p, .dct (dK fI x.held))]
theorem Hs.putD {g : CH} {A C : List (Addr × Cob)} {r p : Addr} {x : Tab} (H : Hs g (A ++ (dictL r p x ++ C))) (y : Tab) : Hs (tabH g p r y) (A ++ (dictL r p y ++ C)) := by
  have h1 : Hs g ((A ++ [(r, .dct (dK fA x.asked))]) ++ ((p, .dct (dK fI x.held)) :: C)) := by rw [List.append_assoc]; exact H
  have h2 := h1.set (u := .dct (dK fI y.held))
  rw [List.append_assoc] at h2
  have h3 : Hs (cup g p (.dct (dK fI y.held))) (A ++ ((r, .dct (dK fA x.asked)) :: ((p, .dct (dK fI y.held)) :: C))) := h2
  exact h3.set (u := .dct (dK fA y.asked))
theorem Hs.dR {g : CH} {A C : List (Addr × Cob)} {r p : Addr} {x : Tab} (H : Hs g (A ++ (dictL r p x ++ C))) : g r = some (.dct (dK fA x.asked)) := H.e (r, .dct (dK fA x.asked)) (List.mem_append_right _ (List.mem_append_left _ (by simp [dictL])))
theorem Hs.dP {g : CH} {A C : List (Addr × Cob)} {r p : Addr} {x : Tab} (H : Hs g (A ++ (dictL r p x ++ C))) : g p = some (.dct (dK fI x.held)) := H.e (p, .dct (dK fI x.held)) (List.mem_append_right _ (List.mem_append_left _ (by simp [dictL])))
theorem Hs.dN {g : CH} {A C : List (Addr × Cob)} {r p : Addr} {x : Tab} (H : Hs g (A ++ (dictL r p x ++ C))) : p ≠ r := by
  have h := H.n
  rw [List.map_append, List.nodup_append, List.map_append, List.nodup_append] at h
  have h1 := h.2.1.1
  simp only [dictL, List.map_cons, List.map_nil, List.nodup_cons, List.mem_cons, List.not_mem_nil, or_false, not_or] at h1
  exact fun e => h1.1 e.symm
theorem Hs.drop {g : CH} {A L : List (Addr × Cob)} (H : Hs g (A ++ L)) : Hs g L := by
  have h := H.n
  rw [List.map_append, List.nodup_append] at h
  exact ⟨h.2.1, fun p hp => H.e p (List.mem_append_right _ hp)⟩
theorem Hs.tabM {g : CH} {L : List (Addr × Cob)} {z : Z3} {x : Tab} (H : Hs g L) (A C : List (Addr × Cob)) (e : L = A ++ (tabL z x ++ C)) : TabAt g z.1 z.2.1 z.2.2 x := by
  subst e; exact H.tab
theorem Hs.putM {g : CH} {L L' : List (Addr × Cob)} {z : Z3} {x y : Tab} (H : Hs g L) (A C : List (Addr × Cob)) (e : L = A ++ (tabL z x ++ C)) (e' : L' = A ++ (tabL z y ++ C)) : Hs (tabH g z.2.1 z.2.2 y) L' := by
  subst e e'; exact H.put y
theorem Hs.putDM {g : CH} {L L' : List (Addr × Cob)} {r p : Addr} {x y : Tab} (H : Hs g L) (A C : List (Addr × Cob)) (e : L = A ++ (dictL r p x ++ C)) (e' : L' = A ++ (dictL r p y ++ C)) : Hs (tabH g p r y) L' := by
  subst e e'; exact H.putD y
theorem Hs.dM {g : CH} {L : List (Addr × Cob)} {r p : Addr} {x : Tab} (H : Hs g L) (A C : List (Addr × Cob)) (e : L = A ++ (dictL r p x ++ C)) : p ≠ r ∧ g p = some (.dct (dK fI x.held)) ∧ g r = some (.dct (dK fA x.asked)) := by
  subst e; exact ⟨H.dN, H.dP, H.dR⟩
theorem sOk_tab {y : Tab} (h : y.Ok) : sOk 7 y.c := by
  refine ⟨by simp, fun z hz => ?_⟩
  simp only [List.mem_cons, List.not_mem_nil, or_false] at hz
  rcases hz with rfl | rfl
  · refine ⟨by rw [List.length_map]; have := h.hl; omega, fun c hc => ?_⟩
    obtain ⟨p, hp, rfl⟩ := List.mem_map.mp hc
    refine ⟨by simp, fun d hd => ?_⟩
    simp only [List.mem_cons, List.not_mem_nil, or_false] at hd
    rcases hd with rfl | rfl <;> trivial
  · refine ⟨by rw [List.length_map]; have := h.al; omega, fun c hc => ?_⟩
    obtain ⟨p, hp, rfl⟩ := List.mem_map.mp hc
    refine ⟨by simp, fun d hd => ?_⟩
    simp only [List.mem_cons, List.not_mem_nil, or_false] at hd
    rcases hd with rfl | rfl | rfl
    · trivial
    · trivial
    · exact sOk_opt _ _
theorem Tab.Ok.does {x : Tab} (hx : Kn x.held ∧ Kn x.asked) (who : Str) (n : Int) (w : Wk) : Kn (x.does who n w).held ∧ Kn (x.does who n w).asked := by
  unfold Tab.does
  split
  · exact hx
  · exact ⟨w.kn hx.1, hx.2.put⟩
end Lw
open PySem L2 Co Lw
namespace Lw
def Tab.ask (x : Tab) (a : Ak) : Tab := x.does a.who a.n a.w
def Tab.tel (x : Tab) (a : Ak) : Cv := x.told a.who a.n a.w
def runT : Tab → List Ak → Tab
  | x, [] => x
  | x, a :: bs => runT (x.ask a) bs
def answ : Tab → List Ak → List Cv
  | _, [] => []
  | x, a :: bs => x.tel a :: answ (x.ask a) bs
theorem runT_app : ∀ (x : Tab) (bs cs : List Ak), runT x (bs ++ cs) = runT (runT x bs) cs
  | _, [], _ => rfl
  | x, a :: bs, cs => runT_app (x.ask a) bs cs
theorem answ_app : ∀ (x : Tab) (bs cs : List Ak), answ x (bs ++ cs) = answ x bs ++ answ (runT x bs) cs
  | _, [], _ => rfl
  | x, a :: bs, cs => by
    rw [List.cons_append]
    show x.tel a :: answ (x.ask a) (bs ++ cs) = _
    rw [answ_app (x.ask a) bs cs]
    rfl
theorem answ_len : ∀ (x : Tab) (bs : List Ak), (answ x bs).length = bs.length
  | _, [] => rfl
  | x, a :: bs => by
    show (answ (x.ask a) bs).length + 1 = bs.length + 1
    rw [answ_len]
theorem Eq_run : ∀ {bs : List Ak} {x y : Tab}, x.Eq y → (runT x bs).Eq (runT y bs) ∧ answ x bs = answ y bs
  | [], _, _, e => ⟨e, rfl⟩
  | a :: bs, x, y, e => by
    obtain ⟨e1, e2⟩ := e.does a.who a.n a.w
    obtain ⟨e3, e4⟩ := Eq_run (bs := bs) e1
    refine ⟨e3, ?_⟩
    show x.tel a :: answ (x.ask a) bs = y.tel a :: answ (y.ask a) bs
    rw [show answ (x.ask a) bs = answ (y.ask a) bs from e4, show x.tel a = y.tel a from e2]
theorem run_len : ∀ (bs : List Ak) (x : Tab), (runT x bs).held.length ≤ x.held.length + bs.length ∧ (runT x bs).asked.length ≤ x.asked.length + bs.length
  | [], _ => ⟨Nat.le_refl _, Nat.le_refl _⟩
  | a :: bs, x => by
    obtain ⟨h1, h2⟩ := run_len bs (x.ask a)
    obtain ⟨h3, h4⟩ := does_len x a.who a.n a.w
    unfold Tab.ask at h1 h2
    rw [List.length_cons]
    exact ⟨Nat.le_trans h1 (by omega), Nat.le_trans h2 (by omega)⟩
theorem run_kn : ∀ (bs : List Ak) {x : Tab}, (Kn x.held ∧ Kn x.asked) → Kn (runT x bs).held ∧ Kn (runT x bs).asked
  | [], _, h => h
  | a :: bs, x, h => run_kn bs (Tab.Ok.does h a.who a.n a.w)
/-- a comprehension that changes the heap -/
theorem cLc_stC {α : Type} {g : CTg} {ce : CT} {env : CEnv} {q : List Cv → CH → Prop} (c : α → Cv) (I : List α → List Cv → CH → Prop)
    (step : ∀ x xs ys h K, I (x :: xs) ys h → (∀ y h1, I xs (ys ++ [y]) h1 → K y h1) → g (c x) env h (fun env1 h1 => ce env1 h1 K fun _ _ => False) fun _ _ => False) (fin : ∀ ys h, I [] ys h → q ys h) :
    ∀ xs ys h, I xs ys h → cLcGo g cYes ce (fun _ => True) env (xs.map c) ys h q
  | [], ys, h, i => ⟨trivial, fin ys h i⟩
  | x :: xs, ys, h, i => ⟨trivial, step x xs ys h (fun y h3 => cLcGo g cYes ce (fun _ => True) env (xs.map c) (ys ++ [y]) h3 q) i fun y h1 j => cLc_stC c I step fin xs (ys ++ [y]) h1 j⟩
/-- the same asks, each put to the table -/
theorem p_ldone {bs : List Ak} {x : Tab} {z : Z3} {A C : List (Addr × Cob)} {g : CH} {q e} (H : Hs g (A ++ (tabL z x ++ C))) (hl : x.held.length + bs.length < 1000) (hl2 : x.asked.length + bs.length < 1000)
    (k : ∀ g', Hs g' (A ++ (tabL z (runT x bs) ++ C)) → q (.lv (answ x bs)) g') : d_law_done_2 [.ref z.1, .lv (bs.map Ak.c)] g q e := by
  rw [u_law_done_2]; unfold m_law_done_2
  walk_at "g"
  refine cLc_stC Ak.c (fun xs ys g => ∃ done, done ++ xs = bs ∧ ys = answ x done ∧ Hs g (A ++ (tabL z (runT x done) ++ C))) ?_ ?_ bs [] g ⟨[], rfl, rfl, H⟩
  · rintro a xs ys g1 K ⟨done, hd, rfl, H1⟩ hK
    have T := H1.tab
    have ht := T.t
    obtain ⟨l1, l2⟩ := run_len done x
    have hdl : done.length + (xs.length + 1) = bs.length := by rw [← hd, List.length_append, List.length_cons]
    unfold Ak.c
    walk_at "g"
    rw [ht]
    walk_at "g"
    refine p_does T (by omega) (by omega) ?_
    have H' := Hs.put H1 ((runT x done).does a.who a.n a.w)
    refine hK _ _ ⟨done ++ [a], by rw [← hd]; simp, ?_, ?_⟩
    · rw [answ_app]; rfl
    · rw [runT_app]; exact H'
  · rintro ys g1 ⟨done, hd, rfl, H1⟩
    rw [List.append_nil] at hd
    subst hd
    exact k _ H1
/-! ### asks of rising numbers -/
section
variable (A : Nat → Ak)
def XT : Nat → Tab
  | 0 => ⟨[], []⟩
  | m + 1 => (XT m).ask (A m)
def rgA (i n : Nat) : List Ak := (List.range' i n).map A
theorem rgA_succ (i n : Nat) : rgA A i (n + 1) = A i :: rgA A (i + 1) n := by unfold rgA; rw [List.range'_succ]; rfl
theorem run_rg : ∀ n i, runT (XT A i) (rgA A i n) = XT A (i + n)
  | 0, _ => rfl
  | n + 1, i => by
    rw [rgA_succ]
    show runT (XT A (i + 1)) _ = _
    rw [run_rg n (i + 1)]
    congr 1; omega
theorem answ_rg : ∀ n i, answ (XT A i) (rgA A i n) = (List.range' i n).map fun k => (XT A k).tel (A k)
  | 0, _ => rfl
  | n + 1, i => by
    rw [rgA_succ, List.range'_succ, List.map_cons]
    show _ :: answ (XT A (i + 1)) _ = _
    rw [answ_rg n (i + 1)]
structure RsA (n : Nat) : Prop where
  r : ∀ i j, i < j → j < n → (A i).who = (A j).who → (A i).n < (A j).n
  o : ∀ i, i < n → 1 ≤ (A i).n
variable {A}
def ansA (A : Nat → Ak) (k : Nat) : Option Int := (A k).w.ans (XT A k).held
structure InvA (A : Nat → Ak) (m : Nat) (x : Tab) : Prop where
  p1 : ∀ k, k < m → (A k).n ≤ (x.last (A k).who).1 ∧ ((x.last (A k).who).1 = (A k).n → (x.last (A k).who).2 = ansA A k)
  p2 : ∀ who, x.last who = (0, none) ∨ ∃ k, k < m ∧ (A k).who = who ∧ (x.last who).1 = (A k).n
theorem last_does {x : Tab} {a : Ak} (h : (x.last a.who).1 < a.n) (who : Str) : (x.ask a).last who = if who = a.who then (a.n, a.w.ans x.held) else x.last who := by
  unfold Tab.ask Tab.does
  rw [if_neg (by omega)]
  unfold Tab.last
  dsimp only
  rw [aget_put]
  split <;> rfl
theorem InvA.lt {n m : Nat} (R : RsA A n) (hm : m < n) {x : Tab} (I : InvA A m x) : (x.last (A m).who).1 < (A m).n := by
  have h1 := R.o m hm
  rcases I.p2 (A m).who with e | ⟨k, hk, e1, e2⟩
  · rw [e]; dsimp only; omega
  · rw [e2]; exact R.r k m hk hm e1
theorem InvA.step {n m : Nat} (R : RsA A n) (hm : m < n) (I : InvA A m (XT A m)) : InvA A (m + 1) (XT A (m + 1)) := by
  have lt := I.lt R hm
  have L := last_does lt
  refine ⟨fun k hk => ?_, fun who => ?_⟩
  · show _ ≤ (((XT A m).ask (A m)).last _).1 ∧ ((((XT A m).ask (A m)).last _).1 = _ → (((XT A m).ask (A m)).last _).2 = _)
    rw [L]
    by_cases e : (A k).who = (A m).who
    · rw [if_pos e]
      rcases Nat.lt_succ_iff_lt_or_eq.mp hk with h | rfl
      · have := R.r k m h hm e
        exact ⟨by dsimp only; omega, fun z => by dsimp only at z; omega⟩
      · exact ⟨Int.le_refl _, fun _ => rfl⟩
    · rw [if_neg e]
      rcases Nat.lt_succ_iff_lt_or_eq.mp hk with h | rfl
      · exact I.p1 k h
      · exact (e rfl).elim
  · show ((XT A m).ask (A m)).last who = _ ∨ ∃ k, k < m + 1 ∧ _ ∧ (((XT A m).ask (A m)).last who).1 = _
    rw [L]
    by_cases e : who = (A m).who
    · rw [if_pos e]
      exact .inr ⟨m, Nat.lt_succ_self m, e.symm, rfl⟩
    · rw [if_neg e]
      rcases I.p2 who with h | ⟨k, hk, e1, e2⟩
      · exact .inl h
      · exact .inr ⟨k, by omega, e1, e2⟩
theorem invA {n : Nat} (R : RsA A n) : ∀ m, m ≤ n → InvA A m (XT A m)
  | 0, _ => ⟨fun k hk => absurd hk (Nat.not_lt_zero k), fun who => .inl rfl⟩
  | m + 1, h => (invA R m (by omega)).step R (by omega)
def sDone : Cv := .str (Str.ofString "done")
theorem tel_new {n m : Nat} (R : RsA A n) (hm : m < n) : (XT A m).tel (A m) = .tup [.str (Str.ofString "done"), optC (ansA A m)] := by
  have := (invA R m (by omega)).lt R hm
  unfold Tab.tel Tab.told
  rw [if_neg (by omega), if_neg (by omega)]
  rfl
theorem tel_old {n m k : Nat} (R : RsA A n) (hm : m ≤ n) (hk : k < m) : (XT A m).tel (A k) = (if ((XT A m).last (A k).who).1 = (A k).n then .tup [.str (Str.ofString "again"), optC (ansA A k)] else .tup [.str (Str.ofString "old"), .non]) ∧ (XT A m).ask (A k) = XT A m := by
  obtain ⟨h1, h2⟩ := (invA R m hm).p1 k hk
  constructor
  · unfold Tab.tel Tab.told
    by_cases e : ((XT A m).last (A k).who).1 = (A k).n
    · rw [if_neg (by omega), if_pos e.symm, if_pos e, h2 e]
    · rw [if_pos (by omega), if_neg e]
  · unfold Tab.ask Tab.does
    rw [if_pos h1]
/-- an order in which each first coming is the next one -/
def okOrd (n : Nat) : Nat → List Nat → Prop
  | m, [] => m = n
  | m, k :: r => (k = m ∧ m < n ∧ okOrd n (m + 1) r) ∨ (k < m ∧ okOrd n m r)
theorem okOrd_run {n : Nat} (R : RsA A n) : ∀ (r : List Nat) (m : Nat), m ≤ n → okOrd n m r → runT (XT A m) (r.map A) = XT A n
  | [], m, _, h => by rw [show m = n from h]; rfl
  | k :: r, m, hm, h => by
    rcases h with ⟨rfl, hlt, h⟩ | ⟨hk, h⟩
    · exact okOrd_run R r (k + 1) hlt h
    · show runT ((XT A m).ask (A k)) (r.map A) = _
      rw [(tel_old R hm hk).2]
      exact okOrd_run R r m hm h
theorem okOrd_lt {n : Nat} : ∀ (r : List Nat) (m : Nat), m ≤ n → okOrd n m r → ∀ k ∈ r, k < n
  | [], _, _, _, _, h => by cases h
  | x :: r, m, hm, h, k, hk => by
    rcases h with ⟨rfl, hlt, h⟩ | ⟨hx, h⟩
    · rcases List.mem_cons.mp hk with rfl | hk
      · exact hlt
      · exact okOrd_lt r _ hlt h k hk
    · rcases List.mem_cons.mp hk with rfl | hk
      · omega
      · exact okOrd_lt r _ hm h k hk
theorem okOrd_tail {n : Nat} : ∀ r : List Nat, (∀ k ∈ r, k < n) → okOrd n n r
  | [], _ => rfl
  | k :: r, h => .inr ⟨h k (List.mem_cons_self ..), okOrd_tail r fun j hj => h j (List.mem_cons_of_mem _ hj)⟩
end
end Lw
open PySem L2 Co Lw
namespace Lw
theorem ixN_nn {n : Nat} {i : Int} (h0 : 0 ≤ i) (h1 : i < n) : L2.ixN n i = some i.toNat := by unfold L2.ixN; rw [if_pos h0, if_pos h1]
theorem p_asksR {h : CH} {ns : List Int} {ks ws : List Str} {q e} (hn : ns.length ≤ 63) (hk : 1 ≤ ks.length) (hw : 1 ≤ ws.length) (hw2 : ws.length ≤ 5) (nk : ∀ s ∈ ks, Nm s) (nw : ∀ s ∈ ws, Nm s) (dw : ws.Nodup)
    (k : ∀ bs : List Ak, (∀ a ∈ bs, a.ok ks ws) → bs.length ≤ 60 → bs.Pairwise (fun a b => a.who = b.who → a.n < b.n) → ∀ g, Keep h g → q (.lv (bs.map Ak.c)) g) : d_law_asks_2 [.fz (ns.map .int), .lv (ks.map .str), .lv (ws.map .str)] h q e := by
  rw [u_law_asks_2]; unfold m_law_asks_2
  walk_at "og"
  intro p hp
  refine seq_step ?_
  walk_at "g"
  unfold gMulL
  refine ⟨by omega, by omega, by simp; omega, fun p2 hp2 => ?_⟩
  have npp : p2 ≠ p := fun e => by subst e; rw [cup_same] at hp2; cases hp2
  have hp2' : h p2 = none := by rw [cup_ne npp] at hp2; exact hp2
  have e0 : (List.replicate ((ws.length : Int)).toNat [Cv.int 0]).flatten = (List.replicate ws.length (0 : Int)).map .int := by
    rw [Int.toNat_natCast, List.map_replicate]
    simp
  rw [e0]
  walk_at "g"
  refine seq_step ?_
  walk_at "g"
  refine cLoop_range (fun i env g => ∃ (a4 a5 a7 : Option Cv) (bs : List Ak) (ls : List Int), env = [some (.fz (ns.map .int)), some (.lv (ks.map .str)), some (.lv (ws.map .str)), some (.ref p), a4, a5, some (.ref p2), a7] ∧ g p = some (.lst (bs.map Ak.c)) ∧ g p2 = some (.lst (ls.map .int)) ∧ Keep h g ∧
      (∀ a ∈ bs, a.ok ks ws) ∧ bs.length = i ∧ bs.Pairwise (fun a b => a.who = b.who → a.n < b.n) ∧ ls.length = ws.length ∧ (∀ v ∈ ls, 0 ≤ v) ∧ ∀ j (hj : j < ws.length) (hj2 : j < ls.length), ∀ a ∈ bs, a.who = ws[j] → a.n ≤ ls[j]) ?_ ?_ _ _
      ⟨none, none, none, [], List.replicate ws.length 0, rfl, by rw [cup_ne npp.symm, cup_same]; rfl, cup_same, (Keep.new hp).trans (.new hp2), fun _ z => (by cases z), rfl, .nil, by simp, fun v hv => by rw [List.eq_of_mem_replicate hv]; omega, fun j hj hj2 a ha => (by cases ha)⟩
  · rintro i _ g K hi ⟨a4, a5, a7, bs, ls, rfl, gp, gp2, Kp, hb, hl, hpw, hll, hl0, hle⟩ hK
    have hi63 : i < 60 := by
      split at hi <;> omega
    walk_at "g"
    refine seq_step ?_
    walk_at "g"
    refine p_digits (fun ds hd1 hd => ?_) (by omega) (by omega) (by decide) (by decide) (by decide) (by decide)
    walk_at "g"
    refine seq_step ?_
    walk_at "g"
    refine ix_dig hd (by omega) (by omega) fun d0 a0 a1 => ?_
    obtain ⟨w0, w1⟩ := emod_bd (d0 / 12) (b := ((ws.length : Nat) : Int)) (by omega)
    walk_at "g"
    generalize d0 / 12 % ((ws.length : Nat) : Int) = at' at w0 w1 ⊢
    refine seq_step ?_
    walk_at "g"
    have hj : at'.toNat < ws.length := by omega
    have hj2 : at'.toNat < ls.length := by omega
    have ea : L2.atI (ls.map Cv.int) at' = some (.int ls[at'.toNat]) := by
      obtain ⟨z, e⟩ := atI_get' (xs := ls.map Cv.int) (i := at') w0 (by rw [List.length_map]; omega)
      rw [e]; simp
    have ew : L2.atI (ws.map Cv.str) at' = some (.str ws[at'.toNat]) := by
      obtain ⟨z, e⟩ := atI_get' (xs := ws.map Cv.str) (i := at') w0 (by rw [List.length_map]; omega)
      rw [e]; simp
    have hv0 : 0 ≤ ls[at'.toNat] := hl0 _ (List.getElem_mem _)
    have hvle := hle at'.toNat hj hj2
    rw [gp2, kLs_s, ea, kSm_s]
    walk_at "g"
    refine ix_dig hd (by omega) (by omega) fun d1 b0 b1 => ?_
    walk_at "g"
    obtain ⟨m0, m1⟩ := emod_bd d1 (b := 3) (by decide)
    generalize hnew : ls[at'.toNat] + 1 + d1 % 3 = new
    have en : L2.atI ((ls.set at'.toNat new).map Cv.int) at' = some (.int new) := by
      obtain ⟨z, e⟩ := atI_get' (xs := (ls.set at'.toNat new).map Cv.int) (i := at') w0 (by rw [List.length_map, List.length_set]; omega)
      rw [e]; simp
    rw [gp2, kLs_s, ixN_nn w0 (by rw [List.length_map]; omega), kSm_s, cup_ne npp.symm, gp, kLs_s]
    rw [show (ls.map Cv.int).set at'.toNat (.int new) = (ls.set at'.toNat new).map .int from (List.map_set ..).symm, ew, en, kSm_s, kSm_s]
    refine ⟨trivial, ?_⟩
    refine p_work2 (by omega) hd hk fun w hw => ?_
    rw [cup_ne npp.symm, gp, kLs_s]
    refine ⟨by rw [List.length_map]; omega, ?_⟩
    refine hK _ _ ⟨_, _, _, bs ++ [⟨ws[at'.toNat], new, w⟩], ls.set at'.toNat new, rfl, ?_, ?_, ?_, ?_, ?_, ?_, ?_, ?_, ?_⟩
    · rw [cup_same, List.map_append]; rfl
    · rw [cup_ne npp, cup_same]
    · intro c o ho
      have h1 : c ≠ p := ne_none ho hp
      have h2 : c ≠ p2 := ne_none ho hp2'
      rw [cup_ne h1, cup_ne h2]
      exact Kp c o ho
    · intro a ha
      rcases List.mem_append.mp ha with ha | ha
      · exact hb a ha
      · rw [List.mem_singleton.mp ha]
        exact ⟨List.getElem_mem _, by dsimp only; omega, hw⟩
    · rw [List.length_append]; simp [hl]
    · rw [List.pairwise_append]
      refine ⟨hpw, by simp, fun a ha b hb2 e => ?_⟩
      rw [List.mem_singleton.mp hb2] at e ⊢
      have := hvle a ha e
      dsimp only; omega
    · rw [List.length_set]; exact hll
    · intro v hv
      rcases List.mem_or_eq_of_mem_set hv with hv | rfl
      · exact hl0 v hv
      · omega
    · intro j hj3 hj4 a ha e
      rw [List.getElem_set]
      rcases List.mem_append.mp ha with ha | ha
      · split
        · next z =>
          subst z
          have := hvle a ha e
          omega
        · exact hle j hj3 (by rw [List.length_set] at hj4; exact hj4) a ha e
      · rw [List.mem_singleton.mp ha] at e ⊢
        have : at'.toNat = j := (List.getElem_inj dw).mp e
        rw [if_pos this]
        exact Int.le_refl _
  · rintro _ g ⟨a4, a5, a7, bs, ls, rfl, gp, gp2, Kp, hb, hl, hpw, hll, hl0, hle⟩
    walk_at "g"
    rw [gp]
    walk_at "g"
    refine k bs hb ?_ hpw _ ?_
    · rw [hl]; split <;> omega
    · intro c o ho
      have h1 : c ≠ p := ne_none ho hp
      unfold cdel
      rw [if_neg h1]
      exact Kp c o ho
end Lw
open PySem L2 Co Lw
namespace Lw
def nC (k : Nat) : Cv := .int (k : Int)
theorem w_add_rl {p : Addr} {a b : List Cv} {h : CH} {q : Cv → CH → Prop} (gp : h p = some (.lst a)) : gAdd (.ref p) (.lv b) h q = (a.length + b.length ≤ sizeLine ∧ q (.lv (a ++ b)) h) := by
  simp only [gAdd, asL, gp]
theorem p_doubled {h : CH} {ns : List Int} {L : List Cv} {q e} (hL : L.length ≤ 60) (k : ∀ ord : List Nat, okOrd L.length 0 ord → ord.length ≤ 180 → ∀ g, Keep h g → q (.lv (ord.map nC)) g) : d_law_doubled [.fz (ns.map .int), .lv L] h q e := by
  rw [u_law_doubled]; unfold m_law_doubled
  walk_at "og"
  intro p hp
  refine seq_step ?_
  walk_at "g"
  refine cLoop_range (fun i env g => ∃ (a3 a4 : Option Cv) (fl : List Nat), env = [some (.fz (ns.map .int)), some (.lv L), some (.ref p), a3, a4] ∧ g p = some (.lst (fl.map nC)) ∧ Keep h g ∧ fl.length = 2 * i ∧
      ∀ r, okOrd L.length i r → okOrd L.length 0 (fl ++ r)) ?_ ?_ _ _ ⟨none, none, [], rfl, cup_same, .new hp, rfl, fun r z => z⟩
  · rintro i _ g K hi ⟨a3, a4, fl, rfl, gp, Kp, hl, hr⟩ hK
    walk_at "g"
    refine seq_step ?_
    walk_at "g"
    rw [gp]
    walk_at "g"
    refine seq_step ?_
    walk_at "g"
    refine p_digits (fun ds hd1 hd => ?_) (by omega) (by omega) (by decide) (by decide) (by decide) (by decide)
    walk_at "g"
    refine ix_dig hd (by omega) (by omega) fun d0 a0 a1 => ?_
    obtain ⟨w0, w1⟩ := emod_bd d0 (b := 0 + (i : Int) + 1) (by omega)
    walk_at "g"
    generalize d0 % (0 + (i : Int) + 1) = x at w0 w1 ⊢
    refine hK _ _ ⟨_, _, fl ++ [i, x.toNat], rfl, ?_, ?_, ?_, ?_⟩
    · rw [cup_same, List.map_append]
      have e1 : (x.toNat : Int) = x := by omega
      show some (Cob.lst (fl.map nC ++ [Cv.int (0 + (i : Int))] ++ [Cv.int x])) = some (Cob.lst (fl.map nC ++ [Cv.int (i : Int), Cv.int (x.toNat : Int)]))
      rw [e1, Int.zero_add, List.append_assoc]; rfl
    · intro c o ho
      have h1 : c ≠ p := ne_none ho hp
      rw [cup_ne h1]
      exact Kp c o ho
    · rw [List.length_append]; simp; omega
    · intro r z
      rw [List.append_assoc]
      refine hr _ (.inl ⟨rfl, by omega, .inr ⟨by omega, z⟩⟩)
  · rintro _ g ⟨a3, a4, fl, rfl, gp, Kp, hl, hr⟩
    rw [Int.toNat_natCast] at hl hr
    unfold cLstRg
    walk_at "g"
    have e0 : intsR 0 ((L.length : Nat) : Int).toNat = (List.range L.length).map nC := by
      unfold intsR
      rw [Int.toNat_natCast]
      refine List.map_congr_left fun i _ => ?_
      show Cv.int (0 + (i : Int)) = Cv.int i
      rw [Int.zero_add]
    rw [e0]
    rw [w_add_rl gp, ← List.map_append]
    refine ⟨?_, ?_⟩
    · rw [List.length_map, List.length_map, List.length_range]
      have := sizeLine_eq
      omega
    · refine k _ (hr _ (okOrd_tail _ fun k hk => List.mem_range.mp hk)) ?_ _ Kp
      rw [List.length_append, List.length_range]; omega
/-- what each ask is told, in the order of the longer row -/
theorem p_right5 {A : Nat → Ak} {n : Nat} {ord : List Nat} {h : CH} {q e} (R : RsA A n) (hn : n ≤ 60) (ho : okOrd n 0 ord) (hl : ord.length ≤ 180) (k : ∀ g, Keep h g → q (.bl true) g) :
    d_law_right_8 [.lv ((rgA A 0 n).map Ak.c), .lv (ord.map nC), .lv (answ (XT A 0) (ord.map A)), .lv (answ (XT A 0) (rgA A 0 n))] h q e := by
  rw [u_law_right_8]; unfold m_law_right_8
  have hans : ∀ k, k < n → L2.atI (answ (XT A 0) (rgA A 0 n)) (k : Int) = some (.tup [.str (Str.ofString "done"), optC (ansA A k)]) := fun k hk => by
    rw [answ_rg]
    obtain ⟨z, e⟩ := atI_get' (xs := (List.range' 0 n).map fun k => (XT A k).tel (A k)) (i := (k : Int)) (by omega) (by rw [List.length_map, List.length_range']; omega)
    rw [e]
    simp [tel_new R hk]
  have hask : ∀ k, k < n → L2.atI ((rgA A 0 n).map Ak.c) (k : Int) = some (A k).c := fun k hk => by
    unfold rgA
    obtain ⟨z, e⟩ := atI_get' (xs := ((List.range' 0 n).map A).map Ak.c) (i := (k : Int)) (by omega) (by rw [List.length_map, List.length_map, List.length_range']; omega)
    rw [e]
    simp
  generalize answ (XT A 0) (rgA A 0 n) = answers at hans ⊢
  generalize (rgA A 0 n).map Ak.c = asks at hask ⊢
  walk_at "og"
  intro p hp
  walk_at "og"
  intro r hr
  have nrp : r ≠ p := fun e => by subst e; rw [cup_same] at hr; cases hr
  have hr' : h r = none := by rw [cup_ne nrp] at hr; exact hr
  refine seq_step ?_
  unfold sFor cZip
  walk_at "g"
  refine ⟨_, _, rfl, rfl, ?_⟩
  refine cLoop_ind (fun xs env g => ∃ (a1 a2 a4 a5 a6 a7 a9 a11 : Option Cv) (m : Nat) (rs : List Nat) (d1 d2 : List (Key × Cv)), env = [some (.lv asks), a1, a2, some (.lv answers), a4, a5, a6, a7, some (.ref r), a9, some (.ref p), a11] ∧
      xs = zipC (rs.map nC) (answ (XT A m) (rs.map A)) ∧ m ≤ n ∧ okOrd n m rs ∧ g p = some (.dct d1) ∧ g r = some (.dct d2) ∧ Keep h g ∧ d1.length + rs.length ≤ 1000 ∧ d2.length + rs.length ≤ 1000 ∧
      (∀ k : Nat, (dval d1 (.inl (k : Int))).isSome = decide (k < m)) ∧ (∀ who, (dval d2 (.inr who)).getD (.int 0) = .int ((XT A m).last who).1) ∧ ∀ k, k < m → (dval d2 (.inr (A k).who)).isSome = true) (fun _ _ _ _ => ⟨rfl, rfl⟩) ?_ ?_ _ _ _
    ⟨_, _, none, none, none, none, none, none, 0, ord, [], [], rfl, rfl, by omega, ho, by rw [cup_ne nrp.symm, cup_same], cup_same, (Keep.new hp).trans (.new hr), by simp; omega, by simp; omega, fun k => by simp [dval], fun who => rfl, fun k hk => absurd hk (Nat.not_lt_zero k)⟩
  · rintro x xs _ g K ⟨a1, a2, a4, a5, a6, a7, a9, a11, m, rs, d1, d2, rfl, ex, hm, hok, gp, gr, Kp, l1, l2, hd1, hd2, hd3⟩ hK
    cases rs with
    | nil => cases ex
    | cons j rs =>
      obtain ⟨rfl, rfl⟩ : x = .tup [nC j, (XT A m).tel (A j)] ∧ xs = zipC (rs.map nC) (answ ((XT A m).ask (A j)) (rs.map A)) := by
        injection ex with h1 h2
        exact ⟨h1, h2⟩
      rw [List.length_cons] at l1 l2
      have hj : j < n := okOrd_lt _ m hm hok j (List.mem_cons_self ..)
      unfold nC
      walk_at "g"
      refine seq_step ?_
      walk_at "g"
      rw [hask j hj]
      unfold Ak.c
      walk_at "g"
      refine seq_step ?_
      walk_at "g"
      refine seq_cut (fun env g' => env = [some (.lv asks), a1, a2, some (.lv answers), some (.str (A j).who), some ((XT A m).tel (A j)), some ((XT A m).tel (A j)), some (.int (j : Int)), some (.ref r), some (.int (A j).n), some (.ref p), some (A j).w.c] ∧ g' = g) (fun K2 hK2 => ?_) ?_
      · walk_at "g"
        rw [gp, kDr_s]
        walk_at "g"
        rw [hd1]
        rcases hok with ⟨rfl, hlt, _⟩ | ⟨hlt, _⟩
        · rw [decide_eq_false (Nat.lt_irrefl _)]
          walk_at "g"
          rw [hans j hj, kSm_s, ← tel_new R hj]
          exact hK2 _ _ ⟨rfl, rfl⟩
        · rw [decide_eq_true hlt]
          walk_at "g"
          obtain ⟨t1, _⟩ := tel_old R hm hlt
          rw [gr, kDr_s]
          walk_at "g"
          have e2 := hd2 (A j).who
          cases e3 : dval d2 (.inr (A j).who) with
          | none => have := hd3 j hlt; rw [e3] at this; cases this
          | some v =>
            rw [e3] at e2
            obtain rfl : v = .int ((XT A m).last (A j).who).1 := e2
            refine ⟨_, rfl, ?_⟩
            walk_at "g"
            by_cases e4 : ((XT A m).last (A j).who).1 = (A j).n
            · rw [if_pos e4] at t1
              rw [decide_eq_true e4]
              walk_at "g"
              rw [hans j hj, kSm_s]
              walk_at "g"
              rw [← t1]
              exact hK2 _ _ ⟨rfl, rfl⟩
            · rw [if_neg e4] at t1
              rw [decide_eq_false e4]
              walk_at "g"
              rw [← t1]
              exact hK2 _ _ ⟨rfl, rfl⟩
      rintro _ g0 ⟨rfl, rfl⟩
      refine seq_step ?_
      walk_at "g"
      rw [gp, kDc_s]
      walk_at "g"
      have gr2 : ∀ o, cup g0 p o r = some (.dct d2) := fun o => by rw [cup_ne nrp]; exact gr
      have e2 := hd2 (A j).who
      refine seq_step ?_
      walk_at "g"
      rw [gr2, kDr_s, kDr_s, e2]
      walk_at "g"
      rw [gr2, kDc_s]
      walk_at "g"
      refine p_same2 7 (sOk_told _ _ _ _) ?_
      walk_at "g"
      have hlen : ∀ (d : List (Key × Cv)) k v, (dput d k v).length ≤ d.length + 1 := fun d k v => by
        unfold dput
        split
        · rw [List.length_map]; omega
        · rw [List.length_append]; simp
      have q1 := hlen d1 (.inl (j : Int)) (.bl true)
      rcases hok with ⟨rfl, hlt, hok⟩ | ⟨hlt, hok⟩
      · have lt := (invA R j hm).lt R hj
        have lw := last_does lt
        rw [if_neg (by omega)]
        have q2 := hlen d2 (.inr (A j).who) (.int (A j).n)
        refine hK _ _ ⟨_, _, _, _, _, _, _, _, j + 1, rs, dput d1 (.inl (j : Int)) (.bl true), dput d2 (.inr (A j).who) (.int (A j).n), rfl, rfl, hlt, hok, ?_, cup_same, ?_, by omega, by omega, fun k => ?_, fun who => ?_, fun k hk => ?_⟩
        · rw [cup_ne nrp.symm, cup_same]
        · intro c o hco
          rw [cup_ne (ne_none hco hr'), cup_ne (ne_none hco hp)]
          exact Kp c o hco
        · rw [dval_put]
          by_cases e : k = j
          · subst e; rw [if_pos rfl, decide_eq_true (Nat.lt_succ_self _)]; rfl
          · rw [if_neg (fun z => e (by injection z with z; omega)), hd1]
            exact decide_eq_decide.mpr (by omega)
        · rw [dval_put]
          show _ = Cv.int (((XT A j).ask (A j)).last who).1
          rw [lw]
          by_cases e : who = (A j).who
          · rw [if_pos (by rw [e]), if_pos e]; rfl
          · rw [if_neg (fun z => e (by injection z)), if_neg e, hd2]
        · rw [dval_put]
          by_cases e : (A k).who = (A j).who
          · rw [if_pos (by rw [e])]; rfl
          · rw [if_neg (fun z => e (by injection z))]
            rcases Nat.lt_succ_iff_lt_or_eq.mp hk with z | rfl
            · exact hd3 k z
            · exact (e rfl).elim
      · obtain ⟨h1, h2⟩ := (invA R m hm).p1 j hlt
        obtain ⟨_, t2⟩ := tel_old R hm hlt
        have emax : (if ((XT A m).last (A j).who).1 > (A j).n then ((XT A m).last (A j).who).1 else (A j).n) = ((XT A m).last (A j).who).1 := by split <;> omega
        rw [emax]
        have q2 := hlen d2 (.inr (A j).who) (.int ((XT A m).last (A j).who).1)
        refine hK _ _ ⟨_, _, _, _, _, _, _, _, m, rs, dput d1 (.inl (j : Int)) (.bl true), dput d2 (.inr (A j).who) (.int ((XT A m).last (A j).who).1), rfl, by rw [t2], hm, hok, ?_, cup_same, ?_, by omega, by omega, fun k => ?_, fun who => ?_, fun k hk => ?_⟩
        · rw [cup_ne nrp.symm, cup_same]
        · intro c o hco
          rw [cup_ne (ne_none hco hr'), cup_ne (ne_none hco hp)]
          exact Kp c o hco
        · rw [dval_put]
          by_cases e : k = j
          · subst e; rw [if_pos rfl, decide_eq_true hlt]; rfl
          · rw [if_neg (fun z => e (by injection z with z; omega)), hd1]
        · rw [dval_put]
          by_cases e : who = (A j).who
          · rw [if_pos (by rw [e]), e]; rfl
          · rw [if_neg (fun z => e (by injection z)), hd2]
        · rw [dval_put]
          by_cases e : (A k).who = (A j).who
          · rw [if_pos (by rw [e])]; rfl
          · rw [if_neg (fun z => e (by injection z))]
            exact hd3 k hk
  · rintro _ g ⟨a1, a2, a4, a5, a6, a7, a9, a11, m, rs, d1, d2, rfl, ex, hm, hok, gp, gr, Kp, l1, l2, hd1, hd2, hd3⟩
    walk_at "g"
    exact k g Kp
end Lw
open PySem L2 Co Lw
namespace Lw
theorem as_rgA {ks ws : List Str} {bs : List Ak} (hok : ∀ a ∈ bs, a.ok ks ws) (hp : bs.Pairwise fun a b => a.who = b.who → a.n < b.n) : ∃ (A : Nat → Ak) (n : Nat), bs = rgA A 0 n ∧ RsA A n ∧ n = bs.length := by
  have hA : ∀ i (h : i < bs.length), (bs[i]?.getD ⟨T [], 0, .drop (T [])⟩) = bs[i] := fun i h => by simp [h]
  refine ⟨fun k => bs[k]?.getD ⟨T [], 0, .drop (T [])⟩, bs.length, ?_, ?_, rfl⟩
  · unfold rgA
    refine List.ext_getElem (by simp) fun i h1 h2 => ?_
    simp [h1]
  · refine ⟨fun i j hij hj e => ?_, fun i hi => ?_⟩
    · rw [hA i (by omega), hA j hj] at e ⊢
      exact List.pairwise_iff_getElem.mp hp i j (by omega) hj hij e
    · rw [hA i hi]
      exact (hok _ (List.getElem_mem _)).2.1
theorem p_law_k05 {ns : List Int} (hn : ns.length ≤ 63) : d_law_k05 [.fz (ns.map .int)] (fun _ => none) (fun v _ => v = .bl true) (fun _ _ => False) := by
  rw [u_law_k05]; unfold m_law_k05
  walk_at "og"
  refine p_cell (fun c1 => ?_) (by decide)
  walk_at "g"
  refine p_names3 (fun keys hk nk _ => ?_) (by decide) (by decide) (by omega) (by omega)
  walk_at "og"
  refine p_cell (fun c2 => ?_) (by decide)
  walk_at "g"
  refine p_names3 (fun whos hw nw dw => ?_) (by decide) (by decide) (by omega) (by omega)
  walk_at "og"
  refine p_asksR hn (by omega) (by omega) (by omega) nk nw dw fun bs hb hbl hpw g0 K0 => ?_
  obtain ⟨A, n, rfl, R, en⟩ := as_rgA hb hpw
  have hn6 : n ≤ 60 := by omega
  have hkn : ∀ m, Kn (XT A m).held ∧ Kn (XT A m).asked := fun m => by
    have := run_kn (rgA A 0 m) (x := XT A 0) ⟨by simp [XT, Kn], by simp [XT, Kn]⟩
    rw [run_rg, Nat.zero_add] at this
    exact this
  have hxl : ∀ m, (XT A m).held.length ≤ m ∧ (XT A m).asked.length ≤ m := fun m => by
    have h1 := run_len (rgA A 0 m) (XT A 0)
    rw [run_rg, Nat.zero_add] at h1
    have h2 : (rgA A 0 m).length = m := by simp [rgA]
    have h3 : (XT A 0).held.length = 0 := rfl
    have h4 : (XT A 0).asked.length = 0 := rfl
    omega
  have hXok : ∀ m, m ≤ 60 → (XT A m).Ok := fun m h => ⟨(hkn m).1, (hkn m).2, by have := (hxl m).1; omega, by have := (hxl m).2; omega⟩
  walk_at "og"
  intro t0 ht0
  refine p_init0 t0 ht0 fun g a0 b0 T KK na nb => ?_
  have H0 := Hs.newTab Hs.nil T (fun _ _ h => KK _ _ h) ht0 na nb
  generalize hz0 : (t0, a0, b0) = z0 at H0
  obtain rfl : t0 = z0.1 := by rw [← hz0]
  clear T KK hz0 na nb ht0
  walk_at "g"
  walk_at "og"
  refine p_ldone (x := XT A 0) (A := []) (C := []) H0 (by show 0 + _ < 1000; omega) (by show 0 + _ < 1000; omega) fun g1 H1 => ?_
  walk_at "g"
  refine seq_same (fun K hK => ?_) ?_
  · walk_at "g"
    refine ⟨by rw [answ_len]; omega, ?_⟩
    refine cLcGo_pure (fun _ => none) trivial _ _ ?_ ?_
    · intro x hx k1 k2 hk
      rw [answ_rg] at hx
      obtain ⟨j, hj, rfl⟩ := List.mem_map.mp hx
      rw [List.mem_range'_1] at hj
      rw [tel_new R (by omega)]
      walk_at "g"
      exact hk
    · have e0 : List.filterMap (fun (_ : Cv) => (none : Option Cv)) (answ (XT A 0) (rgA A 0 n)) = [] := by simp
      rw [e0, List.nil_append, ceq_ll]
      exact ⟨rfl, rfl, hK⟩
  have e1 : runT (XT A 0) (rgA A 0 n) = XT A n := by rw [run_rg, Nat.zero_add]
  rw [e1] at H1
  walk_at "og"
  refine p_doubled (by rw [List.length_map]; omega) fun ord ho hol g2 K2 => ?_
  rw [List.length_map, ← en] at ho
  have H2 : Hs g2 (tabL z0 (XT A n) ++ []) := ⟨H1.n, fun p hp => K2 _ _ (H1.e p hp)⟩
  clear H1 H0 K2
  walk_at "og"
  intro t1 ht1
  refine p_init0 t1 ht1 fun g3 a1 b1 T1 K3 na nb => ?_
  have H3 := Hs.newTab H2 T1 K3 ht1 na nb
  generalize hz1 : (t1, a1, b1) = z1 at H3
  obtain rfl : t1 = z1.1 := by rw [← hz1]
  clear T1 K3 hz1 na nb ht1 H2
  walk_at "g"
  refine seq_step ?_
  walk_at "g"
  have hin : ∀ k ∈ ord, k < n := okOrd_lt ord 0 (by omega) ho
  have hask : ∀ k, k < n → L2.atI ((rgA A 0 n).map Ak.c) (k : Int) = some (A k).c := fun k hk => by
    unfold rgA
    obtain ⟨z, e⟩ := atI_get' (xs := ((List.range' 0 n).map A).map Ak.c) (i := (k : Int)) (by omega) (by rw [List.length_map, List.length_map, List.length_range']; omega)
    rw [e]
    simp
  refine cLcGo_pure (fun x => match x with | .int i => some (A i.toNat).c | _ => none) trivial _ _ ?_ ?_
  · intro x hx k1 k2 hk
    obtain ⟨j, hj, rfl⟩ := List.mem_map.mp hx
    have hk : k1 (A j).c g3 := hk
    unfold nC
    walk_at "g"
    rw [hask j (hin j hj), kSm_s]
    exact hk
  have e3 : (ord.map nC).filterMap (fun x => match x with | .int i => some (A i.toNat).c | _ => none) = (ord.map A).map Ak.c := by
    rw [List.filterMap_map, List.map_map]
    have : ((fun x => match x with | Cv.int i => some (A i.toNat).c | _ => none) ∘ nC) = fun k => some (A k).c := rfl
    rw [this, List.filterMap_eq_map' ]
    rfl
  rw [List.nil_append, e3]
  walk_at "g"
  refine p_ldone (x := XT A 0) (z := z1) (A := []) (C := tabL z0 (XT A n) ++ []) H3 (by rw [List.length_map]; show 0 + _ < 1000; omega) (by rw [List.length_map]; show 0 + _ < 1000; omega) fun g4 H4 => ?_
  rw [okOrd_run R ord 0 (by omega) ho] at H4
  walk_at "g"
  refine seq_cut (fun env g => env = [some (.fz (ns.map .int)), some (.lv (answ (XT A 0) (rgA A 0 n))), none, some (.lv (whos.map .str)), some (.lv ((rgA A 0 n).map Ak.c)), none, none, some (.lv (keys.map .str)), none, some (.lv (ord.map nC)), some (.ref z1.1), some (.ref z0.1), some (.lv (answ (XT A 0) (ord.map A))), none, none] ∧ Hs g (tabL z0 (XT A n) ++ [])) (fun K hK => ?_) ?_
  · walk_at "g"
    refine p_right5 R hn6 ho hol fun g5 K5 => ?_
    have H5 : Hs g5 (tabL z1 (XT A n) ++ (tabL z0 (XT A n) ++ [])) := ⟨H4.n, fun p hp => K5 _ _ (H4.e p hp)⟩
    have T1 := Hs.tab (A := []) (C := tabL z0 (XT A n) ++ []) H5
    have T0 := Hs.tab (A := tabL z1 (XT A n)) (C := []) H5
    have ht1 := T1.t
    have ht0 := T0.t
    walk_at "g"
    rw [ht1]
    walk_at "g"
    refine p_told T1 (hXok n hn6) fun w hw => ?_
    walk_at "g"
    rw [ht0]
    walk_at "g"
    refine p_told T0 (hXok n hn6) fun w' hw' => ?_
    obtain rfl := Tab.Told.uniq .refl hw hw'
    refine p_same2 7 (sOk_tab (hw.ok (hXok n hn6))) ?_
    walk_at "g"
    exact hK _ _ ⟨rfl, Hs.drop (A := tabL z1 (XT A n)) H5⟩
  clear H4 H3
  rintro _ g5 ⟨rfl, H5⟩
  generalize answ (XT A 0) (ord.map A) = told
  walk_at "og"
  intro t2 ht2
  refine p_init0 t2 ht2 fun g6 a2 b2 T2 K6 na nb => ?_
  have H6 := Hs.newTab H5 T2 K6 ht2 na nb
  generalize hz2 : (t2, a2, b2) = z2 at H6
  obtain rfl : t2 = z2.1 := by rw [← hz2]
  clear T2 K6 hz2 na nb ht2 H5
  walk_at "g"
  walk_at "og"
  have elen : (rgA A 0 n).length = n := en.symm
  rw [elen]
  have em : ((n : Int) / 2).toNat = n / 2 := by omega
  have mn : n / 2 ≤ n := Nat.div_le_self n 2
  generalize n / 2 = m at em mn
  have sp : rgA A 0 n = rgA A 0 m ++ rgA A m (n - m) := by
    unfold rgA
    rw [← List.map_append]
    congr 1
    have := List.range'_append (s := 0) (m := m) (n := n - m) (step := 1)
    rw [show 0 + 1 * m = m by omega, show m + (n - m) = n by omega] at this
    exact this.symm
  have len1 : (rgA A 0 m).length = m := by simp [rgA]
  have hto : cutG (rgA A 0 n) none (some ((n : Int) / 2)) = rgA A 0 m := by
    rw [cutG_to' _ (by omega), em, sp]
    exact List.take_left' len1
  have hfr : cutG (rgA A 0 n) (some ((n : Int) / 2)) none = rgA A m (n - m) := by
    rw [cutG_from' _ (by omega), em, sp]
    exact List.drop_left' len1
  have han : cutG (answ (XT A 0) (rgA A 0 n)) (some ((n : Int) / 2)) none = answ (XT A m) (rgA A m (n - m)) := by
    rw [cutG_from' _ (by omega), em, sp, answ_app, run_rg, Nat.zero_add]
    exact List.drop_left' (by rw [answ_len, len1])
  rw [hto]
  refine p_ldone (x := XT A 0) (z := z2) (A := []) (C := tabL z0 (XT A n) ++ []) H6 (by show 0 + _ < 1000; omega) (by show 0 + _ < 1000; omega) fun g7 H7 => ?_
  rw [run_rg, Nat.zero_add] at H7
  walk_at "g"
  have T7 := Hs.tab (A := []) (C := tabL z0 (XT A n) ++ []) H7
  have ht7 := T7.t
  refine seq_step ?_
  walk_at "g"
  rw [ht7]
  walk_at "g"
  refine p_told T7 (hXok m (by omega)) fun y hy => ?_
  have yok := hy.ok (hXok m (by omega))
  unfold Tab.c
  walk_at "g"
  walk_at "og"
  intro t3 ht3
  refine p_init t3 y ⟨yok.h, yok.a⟩ ⟨by have := yok.hl; omega, by have := yok.al; omega⟩ ht3 fun g8 a3 b3 T3 K8 na nb => ?_
  have H8 := Hs.newTab (Hs.drop (A := tabL z2 (XT A m)) H7) T3 K8 ht3 na nb
  generalize hz3 : (t3, a3, b3) = z3 at H8
  obtain rfl : t3 = z3.1 := by rw [← hz3]
  clear T3 K8 hz3 na nb ht3 H7 T7 ht7 H6
  walk_at "g"
  have len2 : (rgA A m (n - m)).length = n - m := by simp [rgA]
  refine seq_cut (fun env g => ∃ a0 a1 a2 a3 a4 a5 a6 a7 a9 a10 a12 a13 a14 u, env = [a0, a1, a2, a3, a4, a5, a6, a7, some (.ref z3.1), a9, a10, some (.ref z0.1), a12, a13, a14] ∧ u.Eq (XT A n) ∧ u.Ok ∧ Hs g (tabL z3 u ++ (tabL z0 (XT A n) ++ []))) (fun K hK => ?_) ?_
  · walk_at "g"
    rw [elen, hfr]
    refine p_ldone (x := y) (z := z3) (A := []) (C := tabL z0 (XT A n) ++ []) H8 (by have := yok.hl; omega) (by have := yok.al; omega) fun g9 H9 => ?_
    walk_at "g"
    rw [han]
    obtain ⟨q1, q2⟩ := Eq_run (bs := rgA A m (n - m)) hy.eq
    rw [run_rg, show m + (n - m) = n by omega] at q1
    rw [q2]
    have hdat : ∀ x ∈ answ (XT A m) (rgA A m (n - m)), cdat x = true ∧ cdep x ≤ 50 := fun x hx => by
      rw [answ_rg] at hx
      obtain ⟨j, hj, rfl⟩ := List.mem_map.mp hx
      rw [List.mem_range'_1] at hj
      rw [tel_new R (by omega)]
      have h1 := cdat_lit "done"
      cases ansA A j with
      | none => exact ⟨by unfold optC; rw [Co.cdat, cdats_all]; simp only [List.all_cons, List.all_nil, Bool.and_true]; rw [h1]; rfl, by simp [cdep, cdeps, optC]⟩
      | some v => exact ⟨by unfold optC; rw [Co.cdat, cdats_all]; simp only [List.all_cons, List.all_nil, Bool.and_true]; rw [h1]; rfl, by simp [cdep, cdeps, optC]⟩
    have ho2 : okd (.lv (answ (XT A m) (rgA A m (n - m)))) := okd_lv (fun x hx => (hdat x hx).1) fun x hx => (hdat x hx).2
    have her : ceq (.lv (answ (XT A m) (rgA A m (n - m)))) (.lv (answ (XT A m) (rgA A m (n - m)))) = true := by
      rw [ceq_ll]
      exact cqs_refl _ (cdats_of fun x hx => (hdat x hx).1)
    rw [her]
    refine ⟨ho2, ho2, ?_⟩
    exact hK _ _ ⟨_, _, _, _, _, _, _, _, _, _, _, _, _, _, rfl, q1, q1.symm.len (hXok n hn6) (run_kn _ ⟨yok.h, yok.a⟩), H9⟩
  rintro _ g9 ⟨a0, a1, a2, a3, a4, a5, a6, a7, a9, a10, a12, a13, a14, u, rfl, hu, uok, H9⟩
  have T1 := Hs.tab (A := []) (C := tabL z0 (XT A n) ++ []) H9
  have T0 := Hs.tab (A := tabL z3 u) (C := []) H9
  have ht1 := T1.t
  have ht0 := T0.t
  walk_at "g"
  rw [ht1]
  walk_at "g"
  refine p_told T1 uok fun w hw => ?_
  walk_at "g"
  rw [ht0]
  walk_at "g"
  refine p_told T0 (hXok n hn6) fun w' hw' => ?_
  obtain rfl := Tab.Told.uniq hu hw hw'
  exact p_same2 7 (sOk_tab (hw.ok uok)) rfl
end Lw
end
section
namespace Lw
open PySem PySem.Spec L2 Co
def top (i : Nat) : Stmt := PySem.Challenge.pw_chainhouse_k05_whole_again_changes_nothi.main.body.getD i (.Pass ⟨0, 0, 0, 0⟩)
def cm (K : PySem.W.Frag) : String → Addr := fun s => He.ga K (PySem.Str.ofString s)
abbrev s_law_cell_at : Stmt := top 4
abbrev N_law_cell_at : List Str := ["_law_script", "_law_k"]
abbrev s_law_other : Stmt := top 6
abbrev N_law_other : List Str := ["_law_x"]
abbrev s_law_next : Stmt := top 5
abbrev N_law_next : List Str := ["_law_x"]
abbrev s_law_number : Stmt := top 7
abbrev N_law_number : List Str := ["_law_script", "_law_k", "_law_cell"]
abbrev s_law_digits : Stmt := top 8
abbrev N_law_digits : List Str := ["_law_script", "_law_k", "_law_base", "_law_many", "_law_found", "_law_j", "_law_left", "_law_x"]
abbrev s_law_names_3 : Stmt := top 9
abbrev N_law_names_3 : List Str := ["_law_script", "_law_k", "_law_many", "_law_at", "_law_base", "_law_letters", "_law_row", "_law_size", "_law_digit", "_law_j"]
abbrev s_law_wide : Stmt := top 10
abbrev N_law_wide : List Str := ["_law_row", "_law_digit", "_law_number_here"]
abbrev s_law_work_2 : Stmt := top 11
abbrev N_law_work_2 : List Str := ["_law_row", "_law_keys", "_law_key", "_law_number_here"]
abbrev s_law_asks_2 : Stmt := top 13
abbrev N_law_asks_2 : List Str := ["_law_script", "_law_keys", "_law_askers", "_law_asks_here", "_law_at", "_law_k", "_law_last", "_law_row"]
abbrev s_Table___init__ : Stmt := inClass (top 2) 0
abbrev N_Table___init__ : List Str := ["self", "held", "asked", "answer", "asker", "number"]
abbrev s_Table_works : Stmt := inClass (top 2) 1
abbrev N_Table_works : List Str := ["self", "work", "old"]
abbrev s_Table_does : Stmt := inClass (top 2) 2
abbrev N_Table_does : List Str := ["self", "asker", "number", "work", "answer", "last"]
abbrev s_law_done_2 : Stmt := top 14
abbrev N_law_done_2 : List Str := ["_law_table", "_law_asks_here", "_law_asker", "_law_number_here", "_law_work_here"]
abbrev s_law_doubled : Stmt := top 15
abbrev N_law_doubled : List Str := ["_law_script", "_law_asks_here", "_law_found", "_law_k", "_law_row"]
abbrev s_Table_told : Stmt := inClass (top 2) 5
abbrev N_Table_told : List Str := ["self", "asked", "asker", "key"]
abbrev s_law_same_2 : Stmt := top 12
abbrev N_law_same_2 : List Str := ["_law_found", "_law_due", "_law_k"]
abbrev s_law_right_8 : Stmt := top 16
abbrev N_law_right_8 : List Str := ["_law_asks_here", "_law_order", "_law_told", "_law_answers", "_law_asker", "_law_due", "_law_found", "_law_k", "_law_last", "_law_number_here", "_law_seen", "_law_work_here"]
abbrev s_law_k05 : Stmt := top 17
abbrev N_law_k05 : List Str := ["_law_script", "_law_answers", "_law_asked", "_law_askers", "_law_asks_here", "_law_half", "_law_held", "_law_keys", "_law_later", "_law_order", "_law_other_here", "_law_table", "_law_told", "_law_k", "_law_one"]
def dd_law_cell_at : He.DefD := ⟨("_law_cell_at", none), "_law_cell_at", "_law_cell_at", defArgs s_law_cell_at, defBody s_law_cell_at, defScope s_law_cell_at, [], []⟩
def dd_law_other : He.DefD := ⟨("_law_other", none), "_law_other", "_law_other", defArgs s_law_other, defBody s_law_other, defScope s_law_other, [], []⟩
def dd_law_next : He.DefD := ⟨("_law_next", none), "_law_next", "_law_next", defArgs s_law_next, defBody s_law_next, defScope s_law_next, [], []⟩
def dd_law_number : He.DefD := ⟨("_law_number", none), "_law_number", "_law_number", defArgs s_law_number, defBody s_law_number, defScope s_law_number, [], []⟩
def dd_law_digits : He.DefD := ⟨("_law_digits", none), "_law_digits", "_law_digits", defArgs s_law_digits, defBody s_law_digits, defScope s_law_digits, [], []⟩
def dd_law_names_3 : He.DefD := ⟨("_law_names", none), "_law_names", "_law_names", defArgs s_law_names_3, defBody s_law_names_3, defScope s_law_names_3, [], []⟩
def dd_law_wide : He.DefD := ⟨("_law_wide", none), "_law_wide", "_law_wide", defArgs s_law_wide, defBody s_law_wide, defScope s_law_wide, [], []⟩
def dd_law_work_2 : He.DefD := ⟨("_law_work", none), "_law_work", "_law_work", defArgs s_law_work_2, defBody s_law_work_2, defScope s_law_work_2, [], []⟩
def dd_law_asks_2 : He.DefD := ⟨("_law_asks", none), "_law_asks", "_law_asks", defArgs s_law_asks_2, defBody s_law_asks_2, defScope s_law_asks_2, [], []⟩
def dd_Table___init__ : He.DefD := ⟨("Table", some "__init__"), "__init__", "Table.__init__", defArgs s_Table___init__, defBody s_Table___init__, defScope s_Table___init__, [], []⟩
def dd_Table_works : He.DefD := ⟨("Table", some "works"), "works", "Table.works", defArgs s_Table_works, defBody s_Table_works, defScope s_Table_works, [], []⟩
def dd_Table_does : He.DefD := ⟨("Table", some "does"), "does", "Table.does", defArgs s_Table_does, defBody s_Table_does, defScope s_Table_does, [], []⟩
def dd_law_done_2 : He.DefD := ⟨("_law_done", none), "_law_done", "_law_done", defArgs s_law_done_2, defBody s_law_done_2, defScope s_law_done_2, [], []⟩
def dd_law_doubled : He.DefD := ⟨("_law_doubled", none), "_law_doubled", "_law_doubled", defArgs s_law_doubled, defBody s_law_doubled, defScope s_law_doubled, [], []⟩
def dd_Table_told : He.DefD := ⟨("Table", some "told"), "told", "Table.told", defArgs s_Table_told, defBody s_Table_told, defScope s_Table_told, [], []⟩
def dd_law_same_2 : He.DefD := ⟨("_law_same", none), "_law_same", "_law_same", defArgs s_law_same_2, defBody s_law_same_2, defScope s_law_same_2, [], []⟩
def dd_law_right_8 : He.DefD := ⟨("_law_right", none), "_law_right", "_law_right", defArgs s_law_right_8, defBody s_law_right_8, defScope s_law_right_8, [], []⟩
def dd_law_k05 : He.DefD := ⟨("law", none), "law", "law", defArgs s_law_k05, defBody s_law_k05, defScope s_law_k05, [], []⟩
def fn : List He.DefD := [dd_law_cell_at, dd_law_other, dd_law_next, dd_law_number, dd_law_digits, dd_law_names_3, dd_law_wide, dd_law_work_2, dd_law_asks_2, dd_Table___init__, dd_Table_works, dd_Table_does, dd_law_done_2, dd_law_doubled, dd_Table_told, dd_law_same_2, dd_law_right_8, dd_law_k05]
def fa : List He.Fa := [.free "len", .glo "_law_next", .glo "_law_other", .glo "_law_cell_at", .free "range", .free "int", .glo "_law_number", .glo "_law_digits", .glo "_law_wide", .free "min", .glo "_law_work", .cls "Table", .noat "Table" "asked", .free "dict", .noat "Table" "held", .meth "Table" "works", .meth "Table" "does", .free "list", .free "tuple", .free "sorted", .free "isinstance", .free "bool", .free "str", .glo "_law_same", .free "all", .free "zip", .free "max", .meth "Table" "told", .glo "_law_done", .glo "Table", .mkr "Table", .glo "_law_right", .glo "_law_doubled", .glo "_law_asks", .glo "_law_names", .glo "law"]
def fb : List Fb := []
section
variable {P : Program} {w : World} {K : PySem.W.Frag} {mg : Str → Option Value} {base h0 : Heap}
theorem sc_law_cell_at : FnScope N_law_cell_at ["_law_script", "_law_k"] (defScope s_law_cell_at) := ⟨rfl, rfl, rfl, by decide +kernel, rfl, by decide +kernel, by decide +kernel⟩
theorem ok_law_cell_at (KX : K.In h0) (GX : h0.Ns mainGlobals mg) (c : SaysE fa fn fb K) : ∃ fd, OkD P w K mg base (cm K) 1 (He.fAd K ("_law_cell_at", none)) fd ["_law_script", "_law_k"] 2 d_law_cell_at ∧ Binds K fd ["_law_script", "_law_k"] [] ∧ PySem.W.keepIn K (.ref (He.fAd K ("_law_cell_at", none))) = true := by

  obtain ⟨fd, F⟩ := c.def_ 0 (d := dd_law_cell_at) rfl
  refine ⟨fd, ok_defD (st := s_law_cell_at) (N := N_law_cell_at) (c := m_law_cell_at) F sc_law_cell_at rfl (fun cdv A outer s H E W hr tk hp => ?_), FunD.bindsN F fun _ _ _ _ _ _ us hl => match us, hl with | [_, _], _ => rfl, F.kp⟩
  · have hu := hu_of hr

    exact (css_cons (cs_if (ct_cmp op_ltC oc_cmp (cvr 1) (ce_callB call_lenC cc_len rfl (He.free_ok KX GX (c.fact 0 rfl)) PySem.boot_len (ca_cons (cvr 0) ca_nil)) (nomark _)) (css_one (cs_ret (ce_ix ix_seq oc_ix (cvr 0) (cvr 1) (fun _ _ => rfl)))) css_nil) (css_one (cs_ret ce_int)))
theorem sc_law_other : FnScope N_law_other ["_law_x"] (defScope s_law_other) := ⟨rfl, rfl, rfl, by decide +kernel, rfl, by decide +kernel, by decide +kernel⟩
theorem ok_law_other (KX : K.In h0) (GX : h0.Ns mainGlobals mg) (c : SaysE fa fn fb K) : ∃ fd, OkD P w K mg base (cm K) 1 (He.fAd K ("_law_other", none)) fd ["_law_x"] 1 d_law_other ∧ Binds K fd ["_law_x"] [] ∧ PySem.W.keepIn K (.ref (He.fAd K ("_law_other", none))) = true := by

  obtain ⟨fd, F⟩ := c.def_ 1 (d := dd_law_other) rfl
  refine ⟨fd, ok_defD (st := s_law_other) (N := N_law_other) (c := m_law_other) F sc_law_other rfl (fun cdv A outer s H E W hr tk hp => ?_), FunD.bindsN F fun _ _ _ _ _ _ us hl => match us, hl with | [_], _ => rfl, F.kp⟩
  · have hu := hu_of hr

    exact (css_one (cs_ret (ce_op op_mod oc_Ic (ce_op op_addC oc_add (ce_op op_addC oc_add (ce_op op_mulC oc_mul (cvr 0) (cvr 0)) (ce_op op_mulC oc_mul ce_int (cvr 0))) ce_int) ce_int)))
theorem sc_law_next : FnScope N_law_next ["_law_x"] (defScope s_law_next) := ⟨rfl, rfl, rfl, by decide +kernel, rfl, by decide +kernel, by decide +kernel⟩
theorem ok_law_next (KX : K.In h0) (GX : h0.Ns mainGlobals mg) (c : SaysE fa fn fb K) : ∃ fd, OkD P w K mg base (cm K) 1 (He.fAd K ("_law_next", none)) fd ["_law_x"] 1 d_law_next ∧ Binds K fd ["_law_x"] [] ∧ PySem.W.keepIn K (.ref (He.fAd K ("_law_next", none))) = true := by

  obtain ⟨fd, F⟩ := c.def_ 2 (d := dd_law_next) rfl
  refine ⟨fd, ok_defD (st := s_law_next) (N := N_law_next) (c := m_law_next) F sc_law_next rfl (fun cdv A outer s H E W hr tk hp => ?_), FunD.bindsN F fun _ _ _ _ _ _ us hl => match us, hl with | [_], _ => rfl, F.kp⟩
  · have hu := hu_of hr

    exact (css_one (cs_ret (ce_op op_mod oc_Ic (ce_op op_addC oc_add (ce_op op_addC oc_add (ce_op op_mulC oc_mul (cvr 0) (cvr 0)) (ce_op op_mulC oc_mul ce_int (cvr 0))) ce_int) ce_int)))
theorem sc_law_number : FnScope N_law_number ["_law_script", "_law_k"] (defScope s_law_number) := ⟨rfl, rfl, rfl, by decide +kernel, rfl, by decide +kernel, by decide +kernel⟩
theorem ok_law_number (KX : K.In h0) (GX : h0.Ns mainGlobals mg) (c : SaysE fa fn fb K) : ∃ fd, OkD P w K mg base (cm K) 2 (He.fAd K ("_law_number", none)) fd ["_law_script", "_law_k"] 2 d_law_number ∧ Binds K fd ["_law_script", "_law_k"] [] ∧ PySem.W.keepIn K (.ref (He.fAd K ("_law_number", none))) = true := by
  obtain ⟨fd_law_cell_at, G_law_cell_at, b_law_cell_at, k_law_cell_at⟩ := ok_law_cell_at (P := P) (w := w) (base := base) KX GX c
  obtain ⟨fd_law_other, G_law_other, b_law_other, k_law_other⟩ := ok_law_other (P := P) (w := w) (base := base) KX GX c
  obtain ⟨fd_law_next, G_law_next, b_law_next, k_law_next⟩ := ok_law_next (P := P) (w := w) (base := base) KX GX c
  obtain ⟨fd, F⟩ := c.def_ 3 (d := dd_law_number) rfl
  refine ⟨fd, ok_defD (st := s_law_number) (N := N_law_number) (c := m_law_number) F sc_law_number rfl (fun cdv A outer s H E W hr tk hp => ?_), FunD.bindsN F fun _ _ _ _ _ _ us hl => match us, hl with | [_, _], _ => rfl, F.kp⟩
  · have hu := hu_of hr
    have hr1 := hr.mono (show 1 ≤ 1 by decide)
    exact (css_cons (cs_set (i := 2) sc_law_number.nd rfl (Or.inl rfl) (ce_call G_law_cell_at hr1 tk rfl (He.glo_ok KX GX (c.fact 3 rfl)) k_law_cell_at b_law_cell_at (ca_cons (cvr 0) (ca_cons (cvr 1) ca_nil)))) (css_cons (cs_if (ct_cmp (op_eqC hr.units) oc_eq (ce_op op_mod oc_Ic (cvr 2) ce_int) ce_int (nomark _)) (css_one (cs_ret (ce_op op_fdivW oc_Ic (cvr 2) ce_int))) css_nil) (css_one (cs_ret (ce_call G_law_other hr1 tk rfl (He.glo_ok KX GX (c.fact 2 rfl)) k_law_other b_law_other (ca_cons (ce_call G_law_next hr1 tk rfl (He.glo_ok KX GX (c.fact 1 rfl)) k_law_next b_law_next (ca_cons (ce_op op_mod oc_Ic (ce_op op_addC oc_add (cvr 2) (ce_op op_mulC oc_mul (ce_op op_mulC oc_mul ce_int (cvr 1)) (cvr 1))) ce_int) ca_nil)) ca_nil))))))
theorem sc_law_digits : FnScope N_law_digits ["_law_script", "_law_k", "_law_base", "_law_many"] (defScope s_law_digits) := ⟨rfl, rfl, rfl, by decide +kernel, rfl, by decide +kernel, by decide +kernel⟩
theorem ok_law_digits (KX : K.In h0) (GX : h0.Ns mainGlobals mg) (c : SaysE fa fn fb K) : ∃ fd, OkD P w K mg base (cm K) 3 (He.fAd K ("_law_digits", none)) fd ["_law_script", "_law_k", "_law_base", "_law_many"] 4 d_law_digits ∧ Binds K fd ["_law_script", "_law_k", "_law_base", "_law_many"] [] ∧ PySem.W.keepIn K (.ref (He.fAd K ("_law_digits", none))) = true := by
  obtain ⟨fd_law_cell_at, G_law_cell_at, b_law_cell_at, k_law_cell_at⟩ := ok_law_cell_at (P := P) (w := w) (base := base) KX GX c
  obtain ⟨fd_law_other, G_law_other, b_law_other, k_law_other⟩ := ok_law_other (P := P) (w := w) (base := base) KX GX c
  obtain ⟨fd_law_next, G_law_next, b_law_next, k_law_next⟩ := ok_law_next (P := P) (w := w) (base := base) KX GX c
  obtain ⟨fd_law_number, G_law_number, b_law_number, k_law_number⟩ := ok_law_number (P := P) (w := w) (base := base) KX GX c
  obtain ⟨fd, F⟩ := c.def_ 4 (d := dd_law_digits) rfl
  refine ⟨fd, ok_defD (st := s_law_digits) (N := N_law_digits) (c := m_law_digits) F sc_law_digits rfl (fun cdv A outer s H E W hr tk hp => ?_), FunD.bindsN F fun _ _ _ _ _ _ us hl => match us, hl with | [_, _, _, _], _ => rfl, F.kp⟩
  · have hu := hu_of hr
    have hr1 := hr.mono (show 1 ≤ 2 by decide)
    have hr2 := hr.mono (show 2 ≤ 2 by decide)
    exact (css_cons (cs_set (i := 6) sc_law_digits.nd rfl (Or.inl rfl) (ce_call G_law_number hr2 tk rfl (He.glo_ok KX GX (c.fact 6 rfl)) k_law_number b_law_number (ca_cons (cvr 0) (ca_cons (cvr 1) ca_nil)))) (css_cons (cs_set (i := 4) sc_law_digits.nd rfl (Or.inl rfl) (ce_lst ca_nil)) (css_cons (cs_set (i := 7) sc_law_digits.nd rfl (Or.inl rfl) (ce_op op_mod oc_Ic (ce_op op_addC oc_add (cvr 6) (ce_op op_mulC oc_mul ce_int (cvr 1))) ce_int)) (css_cons (cs_if (ct_cmp (op_eqC hr.units) oc_eq (ce_op op_mod oc_Ic (ce_call G_law_cell_at hr1 tk rfl (He.glo_ok KX GX (c.fact 3 rfl)) k_law_cell_at b_law_cell_at (ca_cons (cvr 0) (ca_cons (cvr 1) ca_nil))) ce_int) ce_int (nomark _)) (css_one (cs_set (i := 6) sc_law_digits.nd rfl (Or.inl rfl) ce_int)) css_nil) (css_cons (cs_for hp rfl (ci_range1 rfl (He.free_ok KX GX (c.fact 4 rfl)) (ca_cons (cvr 3) ca_nil)) (cg_name (i := 5) sc_law_digits.nd rfl (Or.inl rfl)) (css_cons (cs_set (i := 7) sc_law_digits.nd rfl (Or.inl rfl) (ce_call G_law_other hr1 tk rfl (He.glo_ok KX GX (c.fact 2 rfl)) k_law_other b_law_other (ca_cons (ce_call G_law_next hr1 tk rfl (He.glo_ok KX GX (c.fact 1 rfl)) k_law_next b_law_next (ca_cons (ce_op op_addC oc_add (cvr 7) (cvr 5)) ca_nil)) ca_nil))) (css_cons (cs_expr (ce_lm PySem.F.slot_list_append PySem.F.type_list_append mt_append mc_append (cvr 4) (ca_cons (ce_op op_mod oc_Ic (ce_ix ix_seq oc_ix (ce_lv (ca_cons (cvr 7) (ca_cons (cvr 6) ca_nil))) (ce_callTy call_intC cc_int rfl (He.free_ok KX GX (c.fact 5 rfl)) (by decide +kernel) (ca_cons (ce_cmp op_gtC oc_cmp (cvr 6) ce_int (nomark _)) ca_nil)) (fun _ _ => rfl)) (cvr 2)) ca_nil))) (css_one (cs_set (i := 6) sc_law_digits.nd rfl (Or.inl rfl) (ce_op op_fdivW oc_Ic (cvr 6) (cvr 2))))))) (css_one (cs_retF (cvr 4))))))))
theorem sc_law_names_3 : FnScope N_law_names_3 ["_law_script", "_law_k", "_law_many"] (defScope s_law_names_3) := ⟨rfl, rfl, rfl, by decide +kernel, rfl, by decide +kernel, by decide +kernel⟩
theorem ok_law_names_3 (KX : K.In h0) (GX : h0.Ns mainGlobals mg) (c : SaysE fa fn fb K) : ∃ fd, OkD P w K mg base (cm K) 4 (He.fAd K ("_law_names", none)) fd ["_law_script", "_law_k", "_law_many"] 3 d_law_names_3 ∧ Binds K fd ["_law_script", "_law_k", "_law_many"] [] ∧ PySem.W.keepIn K (.ref (He.fAd K ("_law_names", none))) = true := by
  obtain ⟨fd_law_digits, G_law_digits, b_law_digits, k_law_digits⟩ := ok_law_digits (P := P) (w := w) (base := base) KX GX c
  obtain ⟨fd, F⟩ := c.def_ 5 (d := dd_law_names_3) rfl
  refine ⟨fd, ok_defD (st := s_law_names_3) (N := N_law_names_3) (c := m_law_names_3) F sc_law_names_3 rfl (fun cdv A outer s H E W hr tk hp => ?_), FunD.bindsN F fun _ _ _ _ _ _ us hl => match us, hl with | [_, _, _], _ => rfl, F.kp⟩
  · have hu := hu_of hr
    have hr3 := hr.mono (show 3 ≤ 3 by decide)
    exact (css_cons (cs_set (i := 5) sc_law_names_3.nd rfl (Or.inr rfl) ce_str) (css_cons (cs_set (i := 6) sc_law_names_3.nd rfl (Or.inr rfl) (ce_call G_law_digits hr3 tk rfl (He.glo_ok KX GX (c.fact 7 rfl)) k_law_digits b_law_digits (ca_cons (cvr 0) (ca_cons (cvr 1) (ca_cons ce_int (ca_cons ce_int ca_nil)))))) (css_cons (cs_set (i := 7) sc_law_names_3.nd rfl (Or.inl rfl) (ce_op op_addC oc_add ce_int (ce_op op_mod oc_Ic (ce_ix ix_seq oc_ix (cvr 6) ce_int (fun _ _ => rfl)) ce_int))) (css_cons (cs_set (i := 4) sc_law_names_3.nd rfl (Or.inr rfl) (ce_tm PySem.F.slot_str_join PySem.F.type_str_join mt_join mc_join ce_str (ce_lc (own := [("_law_digit", 8)]) rfl sc_law_names_3.nd (itOf (ce_slice sl_all sc_slice (cvr 6) (co_some ce_int) (co_some (ce_op op_addC oc_add ce_int (cvr 7))))) (blkOk_by (N := N_law_names_3) (sc := defScope s_law_names_3) (by decide +kernel)) (fun _ _ _ _ _ => (cgv_name (i := 8) (by decide) sc_law_names_3.nd rfl (Or.inl rfl))) (fun _ _ _ _ _ => cts_nil) (fun _ _ _ _ _ => (ce_ix ix_seq oc_ix (cvr 5) (ce_op op_mod oc_Ic (cvr 8) ce_int) (fun _ _ => rfl)))))) (css_cons (cs_if (PW.pt (cw_and (ct_cmp (op_eqC hr.units) oc_eq (ce_op op_mod oc_Ic (ce_ix ix_seq oc_ix (cvr 6) ce_int (fun _ _ => rfl)) ce_int) ce_int (nomark _)) (cw_and1 (ct_cmp op_ltC oc_cmp (cvr 2) ce_int (nomark _))))) (css_cons (cs_set (i := 4) sc_law_names_3.nd rfl (Or.inr rfl) (ce_tm PySem.F.slot_str_join PySem.F.type_str_join mt_join mc_join ce_str (ce_lc (own := [("_law_digit", 8)]) rfl sc_law_names_3.nd (itOf (ce_slice sl_all sc_slice (cvr 6) (co_some ce_int) (co_some ce_int))) (blkOk_by (N := N_law_names_3) (sc := defScope s_law_names_3) (by decide +kernel)) (fun _ _ _ _ _ => (cgv_name (i := 8) (by decide) sc_law_names_3.nd rfl (Or.inl rfl))) (fun _ _ _ _ _ => cts_nil) (fun _ _ _ _ _ => (ce_ix ix_seq oc_ix (cvr 5) (ce_op op_mod oc_Ic (cvr 8) ce_int) (fun _ _ => rfl)))))) (css_one (cs_ret (ce_lc (own := [("_law_j", 9)]) rfl sc_law_names_3.nd (ci_range1 rfl (He.free_ok KX GX (c.fact 4 rfl)) (ca_cons (cvr 2) ca_nil)) (blkOk_by (N := N_law_names_3) (sc := defScope s_law_names_3) (by decide +kernel)) (fun _ _ _ _ _ => (cgv_name (i := 9) (by decide) sc_law_names_3.nd rfl (Or.inl rfl))) (fun _ _ _ _ _ => cts_nil) (fun _ _ _ _ _ => (ce_slice sl_all sc_slice (cvr 4) co_none (co_some (ce_op op_addC oc_add (cvr 9) ce_int)))))))) css_nil) (css_cons (cs_if (ct_cmp (op_eqC hr.units) oc_eq (ce_op op_mod oc_Ic (ce_ix ix_seq oc_ix (cvr 6) ce_int (fun _ _ => rfl)) ce_int) ce_int (nomark _)) (css_one (cs_ret (ce_lc (own := [("_law_j", 9)]) rfl sc_law_names_3.nd (ci_range1 rfl (He.free_ok KX GX (c.fact 4 rfl)) (ca_cons (cvr 2) ca_nil)) (blkOk_by (N := N_law_names_3) (sc := defScope s_law_names_3) (by decide +kernel)) (fun _ _ _ _ _ => (cgv_name (i := 9) (by decide) sc_law_names_3.nd rfl (Or.inl rfl))) (fun _ _ _ _ _ => cts_nil) (fun _ _ _ _ _ => (ce_op op_mulC oc_mul (ce_ix ix_seq oc_ix (cvr 5) (ce_op op_mod oc_Ic (ce_op op_addC oc_add (ce_ix ix_seq oc_ix (cvr 6) ce_int (fun _ _ => rfl)) (ce_op op_mulC oc_mul ce_int (cvr 9))) ce_int) (fun _ _ => rfl)) (ce_op op_addC oc_add ce_int (ce_op op_mod oc_Ic (ce_op op_addC oc_add (ce_ix ix_seq oc_ix (cvr 6) (ce_op op_addC oc_add ce_int (ce_op op_mod oc_Ic (cvr 9) ce_int)) (fun _ _ => rfl)) (cvr 9)) ce_int))))))) css_nil) (css_cons (cs_set (i := 3) sc_law_names_3.nd rfl (Or.inr rfl) (ce_op op_mod oc_Ic (ce_op op_fdivW oc_Ic (ce_ix ix_seq oc_ix (cvr 6) ce_int (fun _ _ => rfl)) ce_int) (cvr 7))) (css_one (cs_ret (ce_lc (own := [("_law_j", 9)]) rfl sc_law_names_3.nd (ci_range1 rfl (He.free_ok KX GX (c.fact 4 rfl)) (ca_cons (cvr 2) ca_nil)) (blkOk_by (N := N_law_names_3) (sc := defScope s_law_names_3) (by decide +kernel)) (fun _ _ _ _ _ => (cgv_name (i := 9) (by decide) sc_law_names_3.nd rfl (Or.inl rfl))) (fun _ _ _ _ _ => cts_nil) (fun _ _ _ _ _ => (ce_op op_addC oc_add (ce_op op_addC oc_add (ce_slice sl_all sc_slice (cvr 4) co_none (co_some (cvr 3))) (ce_ix ix_seq oc_ix (cvr 5) (ce_op op_mod oc_Ic (ce_op op_addC oc_add (ce_ix ix_seq oc_ix (cvr 6) (ce_op op_addC oc_add ce_int (cvr 3)) (fun _ _ => rfl)) (cvr 9)) ce_int) (fun _ _ => rfl))) (ce_slice sl_all sc_slice (cvr 4) (co_some (ce_op op_addC oc_add (cvr 3) ce_int)) co_none)))))))))))))
theorem sc_law_wide : FnScope N_law_wide ["_law_row"] (defScope s_law_wide) := ⟨rfl, rfl, rfl, by decide +kernel, rfl, by decide +kernel, by decide +kernel⟩
theorem ok_law_wide (KX : K.In h0) (GX : h0.Ns mainGlobals mg) (c : SaysE fa fn fb K) : ∃ fd, OkD P w K mg base (cm K) 1 (He.fAd K ("_law_wide", none)) fd ["_law_row"] 1 d_law_wide ∧ Binds K fd ["_law_row"] [] ∧ PySem.W.keepIn K (.ref (He.fAd K ("_law_wide", none))) = true := by

  obtain ⟨fd, F⟩ := c.def_ 6 (d := dd_law_wide) rfl
  refine ⟨fd, ok_defD (st := s_law_wide) (N := N_law_wide) (c := m_law_wide) F sc_law_wide rfl (fun cdv A outer s H E W hr tk hp => ?_), FunD.bindsN F fun _ _ _ _ _ _ us hl => match us, hl with | [_], _ => rfl, F.kp⟩
  · have hu := hu_of hr

    exact (css_cons (cs_set (i := 2) sc_law_wide.nd rfl (Or.inl rfl) (ce_op op_sub oc_I (ce_op op_mod oc_Ic (ce_ix ix_seq oc_ix (cvr 0) ce_int (fun _ _ => rfl)) ce_int) ce_int)) (css_cons (cs_if (ct_cmp (op_eqC hr.units) oc_eq (ce_op op_mod oc_Ic (ce_op op_fdivW oc_Ic (ce_ix ix_seq oc_ix (cvr 0) ce_int (fun _ _ => rfl)) ce_int) ce_int) ce_int (nomark _)) (css_cons (cs_set (i := 2) sc_law_wide.nd rfl (Or.inl rfl) ce_int) (css_cons (cs_for hp rfl (itOf (ce_slice sl_all sc_slice (cvr 0) (co_some ce_int) (co_some (ce_op op_addC oc_add ce_int (ce_op op_mod oc_Ic (ce_op op_fdivW oc_Ic (ce_ix ix_seq oc_ix (cvr 0) ce_int (fun _ _ => rfl)) ce_int) ce_int))))) (cg_name (i := 1) sc_law_wide.nd rfl (Or.inl rfl)) (css_one (cs_set (i := 2) sc_law_wide.nd rfl (Or.inl rfl) (ce_op op_addC oc_add (ce_op op_mulC oc_mul (cvr 2) ce_int) (ce_op op_mod oc_Ic (cvr 1) ce_int))))) (css_one (cs_if (ct_cmp (op_eqC hr.units) oc_eq (ce_op op_mod oc_Ic (ce_op op_fdivW oc_Ic (ce_ix ix_seq oc_ix (cvr 0) ce_int (fun _ _ => rfl)) ce_int) ce_int) ce_int (nomark _)) (css_one (cs_set (i := 2) sc_law_wide.nd rfl (Or.inl rfl) (ce_op op_sub oc_I ce_int (cvr 2)))) css_nil)))) css_nil) (css_one (cs_ret (cvr 2)))))
theorem sc_law_work_2 : FnScope N_law_work_2 ["_law_row", "_law_keys"] (defScope s_law_work_2) := ⟨rfl, rfl, rfl, by decide +kernel, rfl, by decide +kernel, by decide +kernel⟩
theorem ok_law_work_2 (KX : K.In h0) (GX : h0.Ns mainGlobals mg) (c : SaysE fa fn fb K) : ∃ fd, OkD P w K mg base (cm K) 2 (He.fAd K ("_law_work", none)) fd ["_law_row", "_law_keys"] 2 d_law_work_2 ∧ Binds K fd ["_law_row", "_law_keys"] [] ∧ PySem.W.keepIn K (.ref (He.fAd K ("_law_work", none))) = true := by
  obtain ⟨fd_law_wide, G_law_wide, b_law_wide, k_law_wide⟩ := ok_law_wide (P := P) (w := w) (base := base) KX GX c
  obtain ⟨fd, F⟩ := c.def_ 7 (d := dd_law_work_2) rfl
  refine ⟨fd, ok_defD (st := s_law_work_2) (N := N_law_work_2) (c := m_law_work_2) F sc_law_work_2 rfl (fun cdv A outer s H E W hr tk hp => ?_), FunD.bindsN F fun _ _ _ _ _ _ us hl => match us, hl with | [_, _], _ => rfl, F.kp⟩
  · have hu := hu_of hr
    have hr1 := hr.mono (show 1 ≤ 1 by decide)
    exact (css_cons (cs_set (i := 2) sc_law_work_2.nd rfl (Or.inl rfl) (ce_ix ix_seq oc_ix (cvr 1) (ce_op op_mod oc_Ic (ce_ix ix_seq oc_ix (cvr 0) ce_int (fun _ _ => rfl)) (ce_callB call_lenC cc_len rfl (He.free_ok KX GX (c.fact 0 rfl)) PySem.boot_len (ca_cons (cvr 1) ca_nil))) (fun _ _ => rfl))) (css_cons (cs_set (i := 3) sc_law_work_2.nd rfl (Or.inl rfl) (ce_call G_law_wide hr1 tk rfl (He.glo_ok KX GX (c.fact 8 rfl)) k_law_wide b_law_wide (ca_cons (ce_slice sl_all sc_slice (cvr 0) (co_some ce_int) co_none) ca_nil))) (css_one (cs_ret (ce_ix ix_seq oc_ix (ce_lv (ca_cons (ce_tup (ca_cons ce_str (ca_cons (cvr 2) (ca_cons (cvr 3) ca_nil)))) (ca_cons (ce_tup (ca_cons ce_str (ca_cons (cvr 2) (ca_cons (cvr 3) ca_nil)))) (ca_cons (ce_tup (ca_cons ce_str (ca_cons (cvr 2) ca_nil))) ca_nil)))) (ce_op op_mod oc_Ic (ce_ix ix_seq oc_ix (cvr 0) ce_int (fun _ _ => rfl)) ce_int) (fun _ _ => rfl))))))
theorem sc_law_asks_2 : FnScope N_law_asks_2 ["_law_script", "_law_keys", "_law_askers"] (defScope s_law_asks_2) := ⟨rfl, rfl, rfl, by decide +kernel, rfl, by decide +kernel, by decide +kernel⟩
theorem ok_law_asks_2 (KX : K.In h0) (GX : h0.Ns mainGlobals mg) (c : SaysE fa fn fb K) : ∃ fd, OkD P w K mg base (cm K) 4 (He.fAd K ("_law_asks", none)) fd ["_law_script", "_law_keys", "_law_askers"] 3 d_law_asks_2 ∧ Binds K fd ["_law_script", "_law_keys", "_law_askers"] [] ∧ PySem.W.keepIn K (.ref (He.fAd K ("_law_asks", none))) = true := by
  obtain ⟨fd_law_digits, G_law_digits, b_law_digits, k_law_digits⟩ := ok_law_digits (P := P) (w := w) (base := base) KX GX c
  obtain ⟨fd_law_work_2, G_law_work_2, b_law_work_2, k_law_work_2⟩ := ok_law_work_2 (P := P) (w := w) (base := base) KX GX c
  obtain ⟨fd, F⟩ := c.def_ 8 (d := dd_law_asks_2) rfl
  refine ⟨fd, ok_defD (st := s_law_asks_2) (N := N_law_asks_2) (c := m_law_asks_2) F sc_law_asks_2 rfl (fun cdv A outer s H E W hr tk hp => ?_), FunD.bindsN F fun _ _ _ _ _ _ us hl => match us, hl with | [_, _, _], _ => rfl, F.kp⟩
  · have hu := hu_of hr
    have hr2 := hr.mono (show 2 ≤ 3 by decide)
    have hr3 := hr.mono (show 3 ≤ 3 by decide)
    exact (css_cons (cs_set (i := 3) sc_law_asks_2.nd rfl (Or.inl rfl) (ce_lst ca_nil)) (css_cons (cs_set (i := 6) sc_law_asks_2.nd rfl (Or.inl rfl) (ce_op op_rep oc_mulL (ce_lv (ca_cons ce_int ca_nil)) (ce_callB call_lenC cc_len rfl (He.free_ok KX GX (c.fact 0 rfl)) PySem.boot_len (ca_cons (cvr 2) ca_nil)))) (css_cons (cs_for hp rfl (ci_range2 rfl (He.free_ok KX GX (c.fact 4 rfl)) (ca_cons ce_int (ca_cons (ce_callB (call_min2 rfl) cc_min2 rfl (He.free_ok KX GX (c.fact 9 rfl)) (by decide +kernel) (ca_cons (ce_callB call_lenC cc_len rfl (He.free_ok KX GX (c.fact 0 rfl)) PySem.boot_len (ca_cons (cvr 0) ca_nil)) (ca_cons ce_int ca_nil))) ca_nil))) (cg_name (i := 5) sc_law_asks_2.nd rfl (Or.inl rfl)) (css_cons (cs_set (i := 7) sc_law_asks_2.nd rfl (Or.inl rfl) (ce_call G_law_digits hr3 tk rfl (He.glo_ok KX GX (c.fact 7 rfl)) k_law_digits b_law_digits (ca_cons (cvr 0) (ca_cons (cvr 5) (ca_cons ce_int (ca_cons ce_int ca_nil)))))) (css_cons (cs_set (i := 4) sc_law_asks_2.nd rfl (Or.inl rfl) (ce_op op_mod oc_Ic (ce_op op_fdivW oc_Ic (ce_ix ix_seq oc_ix (cvr 7) ce_int (fun _ _ => rfl)) ce_int) (ce_callB call_lenC cc_len rfl (He.free_ok KX GX (c.fact 0 rfl)) PySem.boot_len (ca_cons (cvr 2) ca_nil)))) (css_cons (cs_asg (ce_op op_addC oc_add (ce_op op_addC oc_add (ce_ix ix_seq oc_ix (cvr 6) (cvr 4) (fun _ _ => rfl)) ce_int) (ce_op op_mod oc_Ic (ce_ix ix_seq oc_ix (cvr 7) ce_int (fun _ _ => rfl)) ce_int)) (cg_sub stc_list (cvr 6) (cvr 4) set_list)) (css_one (cs_expr (ce_lm PySem.F.slot_list_append PySem.F.type_list_append mt_append mc_append (cvr 3) (ca_cons (ce_tup (ca_cons (ce_ix ix_seq oc_ix (cvr 2) (cvr 4) (fun _ _ => rfl)) (ca_cons (ce_ix ix_seq oc_ix (cvr 6) (cvr 4) (fun _ _ => rfl)) (ca_cons (ce_call G_law_work_2 hr2 tk rfl (He.glo_ok KX GX (c.fact 10 rfl)) k_law_work_2 b_law_work_2 (ca_cons (cvr 7) (ca_cons (cvr 1) ca_nil))) ca_nil)))) ca_nil)))))))) (css_one (cs_retF (cvr 3))))))
theorem sc_Table___init__ : FnScope N_Table___init__ ["self", "held", "asked"] (defScope s_Table___init__) := ⟨rfl, rfl, rfl, by decide +kernel, rfl, by decide +kernel, by decide +kernel⟩
theorem ok_Table___init__ (KX : K.In h0) (GX : h0.Ns mainGlobals mg) (c : SaysE fa fn fb K) : ∃ fd, OkD P w K mg base (cm K) 1 (He.fAd K ("Table", some "__init__")) fd ["self", "held", "asked"] 3 d_Table___init__ ∧ Binds K fd ["self", "held", "asked"] [] ∧ PySem.W.keepIn K (.ref (He.fAd K ("Table", some "__init__"))) = true := by

  obtain ⟨fd, F⟩ := c.def_ 9 (d := dd_Table___init__) rfl
  refine ⟨fd, ok_defD (st := s_Table___init__) (N := N_Table___init__) (c := m_Table___init__) F sc_Table___init__ rfl (fun cdv A outer s H E W hr tk hp => ?_), FunD.bindsN F fun _ _ _ _ _ _ us hl => match us, hl with | [_, _, _], _ => rfl, F.kp⟩
  · have hu := hu_of hr

    exact (css_cons (cs_fld (He.cls_ok (c.fact 11 rfl)) (He.noat_ok (c.fact 14 rfl)) (cvr 0) (ce_callTy (call_dictA rfl) cc_dict rfl (He.free_ok KX GX (c.fact 13 rfl)) (by decide +kernel) (ca_cons (cvr 1) ca_nil)) rfl) (css_cons (cs_fld (He.cls_ok (c.fact 11 rfl)) (He.noat_ok (c.fact 12 rfl)) (cvr 0) ce_dnew rfl) (css_one (cs_for hp rfl (itOf (cvr 2)) (cg_tup rfl (cgs_cons (cg_name (i := 4) sc_Table___init__.nd rfl (Or.inl rfl)) (cgs_cons (cg_name (i := 5) sc_Table___init__.nd rfl (Or.inl rfl)) (cgs_cons (cg_name (i := 3) sc_Table___init__.nd rfl (Or.inl rfl)) cgs_nil)))) (css_one (cs_dput hu (ce_fld (He.cls_ok (c.fact 11 rfl)) (He.noat_ok (c.fact 12 rfl)) (cvr 0) rfl) (cvr 4) (ce_tup (ca_cons (cvr 5) (ca_cons (cvr 3) ca_nil))) rfl))))))
theorem sc_Table_works : FnScope N_Table_works ["self", "work"] (defScope s_Table_works) := ⟨rfl, rfl, rfl, by decide +kernel, rfl, by decide +kernel, by decide +kernel⟩
theorem ok_Table_works (KX : K.In h0) (GX : h0.Ns mainGlobals mg) (c : SaysE fa fn fb K) : ∃ fd, OkD P w K mg base (cm K) 1 (He.fAd K ("Table", some "works")) fd ["self", "work"] 2 d_Table_works ∧ Binds K fd ["self", "work"] [] ∧ PySem.W.keepIn K (.ref (He.fAd K ("Table", some "works"))) = true := by

  obtain ⟨fd, F⟩ := c.def_ 10 (d := dd_Table_works) rfl
  refine ⟨fd, ok_defD (st := s_Table_works) (N := N_Table_works) (c := m_Table_works) F sc_Table_works rfl (fun cdv A outer s H E W hr tk hp => ?_), FunD.bindsN F fun _ _ _ _ _ _ us hl => match us, hl with | [_, _], _ => rfl, F.kp⟩
  · have hu := hu_of hr

    exact (css_cons (cs_set (i := 2) sc_Table_works.nd rfl (Or.inl rfl) (ce_dget1 hu (ce_fld (He.cls_ok (c.fact 11 rfl)) (He.noat_ok (c.fact 14 rfl)) (cvr 0) rfl) (ce_ix ix_seq oc_ix (cvr 1) ce_int (fun _ _ => rfl)) ⟨rfl, rfl, rfl, rfl⟩)) (css_cons (cs_if (ct_cmp (op_eqC hr.units) oc_eq (ce_ix ix_seq oc_ix (cvr 1) ce_int (fun _ _ => rfl)) ce_str (nomark _)) (css_cons (cs_if (ct_cmp (op_din hu) oc_din (ce_ix ix_seq oc_ix (cvr 1) ce_int (fun _ _ => rfl)) (ce_fld (He.cls_ok (c.fact 11 rfl)) (He.noat_ok (c.fact 14 rfl)) (cvr 0) rfl) (by with_unfolding_all rfl)) (css_one (cs_expr (ce_dpop (ce_fld (He.cls_ok (c.fact 11 rfl)) (He.noat_ok (c.fact 14 rfl)) (cvr 0) rfl) (ce_ix ix_seq oc_ix (cvr 1) ce_int (fun _ _ => rfl)) ⟨rfl, rfl, rfl, rfl⟩))) css_nil) (css_one (cs_ret (cvr 2)))) css_nil) (css_cons (cs_if (ct_cmp (op_eqC hr.units) oc_eq (ce_ix ix_seq oc_ix (cvr 1) ce_int (fun _ _ => rfl)) ce_str (nomark _)) (css_cons (cs_dput hu (ce_fld (He.cls_ok (c.fact 11 rfl)) (He.noat_ok (c.fact 14 rfl)) (cvr 0) rfl) (ce_ix ix_seq oc_ix (cvr 1) ce_int (fun _ _ => rfl)) (ce_ix ix_seq oc_ix (cvr 1) ce_int (fun _ _ => rfl)) rfl) (css_one (cs_ret (cvr 2)))) css_nil) (css_cons (cs_dput hu (ce_fld (He.cls_ok (c.fact 11 rfl)) (He.noat_ok (c.fact 14 rfl)) (cvr 0) rfl) (ce_ix ix_seq oc_ix (cvr 1) ce_int (fun _ _ => rfl)) (ce_op op_addC oc_add (ce_dget2 hu (ce_fld (He.cls_ok (c.fact 11 rfl)) (He.noat_ok (c.fact 14 rfl)) (cvr 0) rfl) (ce_ix ix_seq oc_ix (cvr 1) ce_int (fun _ _ => rfl)) ce_int ⟨rfl, rfl, rfl, rfl⟩) (ce_ix ix_seq oc_ix (cvr 1) ce_int (fun _ _ => rfl))) rfl) (css_one (cs_ret (ce_dget hu (ce_fld (He.cls_ok (c.fact 11 rfl)) (He.noat_ok (c.fact 14 rfl)) (cvr 0) rfl) (ce_ix ix_seq oc_ix (cvr 1) ce_int (fun _ _ => rfl)) (fun _ _ => rfl))))))))
theorem sc_Table_does : FnScope N_Table_does ["self", "asker", "number", "work"] (defScope s_Table_does) := ⟨rfl, rfl, rfl, by decide +kernel, rfl, by decide +kernel, by decide +kernel⟩
theorem ok_Table_does (KX : K.In h0) (GX : h0.Ns mainGlobals mg) (c : SaysE fa fn fb K) : ∃ fd, OkD P w K mg base (cm K) 2 (He.fAd K ("Table", some "does")) fd ["self", "asker", "number", "work"] 4 d_Table_does ∧ Binds K fd ["self", "asker", "number", "work"] [] ∧ PySem.W.keepIn K (.ref (He.fAd K ("Table", some "does"))) = true := by
  obtain ⟨fd_Table_works, G_Table_works, b_Table_works, k_Table_works⟩ := ok_Table_works (P := P) (w := w) (base := base) KX GX c
  obtain ⟨fd, F⟩ := c.def_ 11 (d := dd_Table_does) rfl
  refine ⟨fd, ok_defD (st := s_Table_does) (N := N_Table_does) (c := m_Table_does) F sc_Table_does rfl (fun cdv A outer s H E W hr tk hp => ?_), FunD.bindsN F fun _ _ _ _ _ _ us hl => match us, hl with | [_, _, _, _], _ => rfl, F.kp⟩
  · have hu := hu_of hr
    have hr1 := hr.mono (show 1 ≤ 1 by decide)
    exact (css_cons (cs_asg (ce_dget2 hu (ce_fld (He.cls_ok (c.fact 11 rfl)) (He.noat_ok (c.fact 12 rfl)) (cvr 0) rfl) (cvr 1) (ce_tup (ca_cons ce_int (ca_cons ce_non ca_nil))) ⟨rfl, rfl, rfl, rfl⟩) (cg_tup rfl (cgs_cons (cg_name (i := 5) sc_Table_does.nd rfl (Or.inl rfl)) (cgs_cons (cg_name (i := 4) sc_Table_does.nd rfl (Or.inl rfl)) cgs_nil)))) (css_cons (cs_if (ct_cmp op_ltC oc_cmp (cvr 2) (cvr 5) (nomark _)) (css_one (cs_ret (ce_tup (ca_cons ce_str (ca_cons ce_non ca_nil))))) css_nil) (css_cons (cs_if (ct_cmp (op_eqC hr.units) oc_eq (cvr 2) (cvr 5) (nomark _)) (css_one (cs_ret (ce_tup (ca_cons ce_str (ca_cons (cvr 4) ca_nil))))) css_nil) (css_cons (cs_set (i := 4) sc_Table_does.nd rfl (Or.inl rfl) (ce_meth G_Table_works hr1 tk (He.cls_ok (c.fact 11 rfl)) (He.meth_ok (c.fact 15 rfl)) b_Table_works (cvr 0) (ca_cons (cvr 3) ca_nil))) (css_cons (cs_dput hu (ce_fld (He.cls_ok (c.fact 11 rfl)) (He.noat_ok (c.fact 12 rfl)) (cvr 0) rfl) (cvr 1) (ce_tup (ca_cons (cvr 2) (ca_cons (cvr 4) ca_nil))) rfl) (css_one (cs_ret (ce_tup (ca_cons ce_str (ca_cons (cvr 4) ca_nil))))))))))
theorem sc_law_done_2 : FnScope N_law_done_2 ["_law_table", "_law_asks_here"] (defScope s_law_done_2) := ⟨rfl, rfl, rfl, by decide +kernel, rfl, by decide +kernel, by decide +kernel⟩
theorem ok_law_done_2 (KX : K.In h0) (GX : h0.Ns mainGlobals mg) (c : SaysE fa fn fb K) : ∃ fd, OkD P w K mg base (cm K) 3 (He.fAd K ("_law_done", none)) fd ["_law_table", "_law_asks_here"] 2 d_law_done_2 ∧ Binds K fd ["_law_table", "_law_asks_here"] [] ∧ PySem.W.keepIn K (.ref (He.fAd K ("_law_done", none))) = true := by
  obtain ⟨fd_Table_does, G_Table_does, b_Table_does, k_Table_does⟩ := ok_Table_does (P := P) (w := w) (base := base) KX GX c
  obtain ⟨fd, F⟩ := c.def_ 12 (d := dd_law_done_2) rfl
  refine ⟨fd, ok_defD (st := s_law_done_2) (N := N_law_done_2) (c := m_law_done_2) F sc_law_done_2 rfl (fun cdv A outer s H E W hr tk hp => ?_), FunD.bindsN F fun _ _ _ _ _ _ us hl => match us, hl with | [_, _], _ => rfl, F.kp⟩
  · have hu := hu_of hr
    have hr2 := hr.mono (show 2 ≤ 2 by decide)
    exact (css_one (cs_ret (ce_lc (own := [("_law_asker", 2), ("_law_number_here", 3), ("_law_work_here", 4)]) rfl sc_law_done_2.nd (itOf (cvr 1)) (blkOk_by (N := N_law_done_2) (sc := defScope s_law_done_2) (by decide +kernel)) (fun _ _ _ _ _ => (cgv_tup rfl (cgv_cons (cgv_name (i := 2) (by decide) sc_law_done_2.nd rfl (Or.inl rfl)) (cgv_cons (cgv_name (i := 3) (by decide) sc_law_done_2.nd rfl (Or.inl rfl)) (cgv_cons (cgv_name (i := 4) (by decide) sc_law_done_2.nd rfl (Or.inl rfl)) cgv_nil))))) (fun _ _ _ _ _ => cts_nil) (fun _ _ _ _ _ => (ce_meth G_Table_does hr2 takes0 (He.cls_ok (c.fact 11 rfl)) (He.meth_ok (c.fact 16 rfl)) b_Table_does (cvr 0) (ca_cons (cvr 2) (ca_cons (cvr 3) (ca_cons (cvr 4) ca_nil))))))))
theorem sc_law_doubled : FnScope N_law_doubled ["_law_script", "_law_asks_here"] (defScope s_law_doubled) := ⟨rfl, rfl, rfl, by decide +kernel, rfl, by decide +kernel, by decide +kernel⟩
theorem ok_law_doubled (KX : K.In h0) (GX : h0.Ns mainGlobals mg) (c : SaysE fa fn fb K) : ∃ fd, OkD P w K mg base (cm K) 4 (He.fAd K ("_law_doubled", none)) fd ["_law_script", "_law_asks_here"] 2 d_law_doubled ∧ Binds K fd ["_law_script", "_law_asks_here"] [] ∧ PySem.W.keepIn K (.ref (He.fAd K ("_law_doubled", none))) = true := by
  obtain ⟨fd_law_digits, G_law_digits, b_law_digits, k_law_digits⟩ := ok_law_digits (P := P) (w := w) (base := base) KX GX c
  obtain ⟨fd, F⟩ := c.def_ 13 (d := dd_law_doubled) rfl
  refine ⟨fd, ok_defD (st := s_law_doubled) (N := N_law_doubled) (c := m_law_doubled) F sc_law_doubled rfl (fun cdv A outer s H E W hr tk hp => ?_), FunD.bindsN F fun _ _ _ _ _ _ us hl => match us, hl with | [_, _], _ => rfl, F.kp⟩
  · have hu := hu_of hr
    have hr3 := hr.mono (show 3 ≤ 3 by decide)
    exact (css_cons (cs_set (i := 2) sc_law_doubled.nd rfl (Or.inl rfl) (ce_lst ca_nil)) (css_cons (cs_for hp rfl (ci_range1 rfl (He.free_ok KX GX (c.fact 4 rfl)) (ca_cons (ce_callB call_lenC cc_len rfl (He.free_ok KX GX (c.fact 0 rfl)) PySem.boot_len (ca_cons (cvr 1) ca_nil)) ca_nil)) (cg_name (i := 3) sc_law_doubled.nd rfl (Or.inl rfl)) (css_cons (cs_expr (ce_lm PySem.F.slot_list_append PySem.F.type_list_append mt_append mc_append (cvr 2) (ca_cons (cvr 3) ca_nil))) (css_cons (cs_set (i := 4) sc_law_doubled.nd rfl (Or.inl rfl) (ce_call G_law_digits hr3 tk rfl (He.glo_ok KX GX (c.fact 7 rfl)) k_law_digits b_law_digits (ca_cons (cvr 0) (ca_cons (ce_op op_addC oc_add ce_int (cvr 3)) (ca_cons ce_int (ca_cons ce_int ca_nil)))))) (css_one (cs_expr (ce_lm PySem.F.slot_list_append PySem.F.type_list_append mt_append mc_append (cvr 2) (ca_cons (ce_op op_mod oc_Ic (ce_ix ix_seq oc_ix (cvr 4) ce_int (fun _ _ => rfl)) (ce_op op_addC oc_add (cvr 3) ce_int)) ca_nil))))))) (css_one (cs_ret (ce_op op_addC oc_add (cvr 2) (ce_lstRg rfl rfl (He.free_ok KX GX (c.fact 17 rfl)) rfl (He.free_ok KX GX (c.fact 4 rfl)) (ce_callB call_lenC cc_len rfl (He.free_ok KX GX (c.fact 0 rfl)) PySem.boot_len (ca_cons (cvr 1) ca_nil))))))))
theorem sc_Table_told : FnScope N_Table_told ["self"] (defScope s_Table_told) := ⟨rfl, rfl, rfl, by decide +kernel, rfl, by decide +kernel, by decide +kernel⟩
theorem ok_Table_told (KX : K.In h0) (GX : h0.Ns mainGlobals mg) (c : SaysE fa fn fb K) : ∃ fd, OkD P w K mg base (cm K) 1 (He.fAd K ("Table", some "told")) fd ["self"] 1 d_Table_told ∧ Binds K fd ["self"] [] ∧ PySem.W.keepIn K (.ref (He.fAd K ("Table", some "told"))) = true := by

  obtain ⟨fd, F⟩ := c.def_ 14 (d := dd_Table_told) rfl
  refine ⟨fd, ok_defD (st := s_Table_told) (N := N_Table_told) (c := m_Table_told) F sc_Table_told rfl (fun cdv A outer s H E W hr tk hp => ?_), FunD.bindsN F fun _ _ _ _ _ _ us hl => match us, hl with | [_], _ => rfl, F.kp⟩
  · have hu := hu_of hr

    exact (css_cons (cs_setLc (i := 1) (own := [("asker", 2)]) rfl sc_Table_told.nd rfl rfl (sw_true rfl rfl rfl (by decide +kernel)) (itOf (ce_callB (call_sortedDC rfl) cc_sortedD rfl (He.free_ok KX GX (c.fact 19 rfl)) (by decide +kernel) (ca_cons (ce_fld (He.cls_ok (c.fact 11 rfl)) (He.noat_ok (c.fact 12 rfl)) (cvr 0) rfl) ca_nil))) (blkOk_by (N := N_Table_told) (sc := defScope s_Table_told) (by decide +kernel)) (fun _ _ _ _ _ => (cgv_name (i := 2) (by decide) sc_Table_told.nd rfl (Or.inl rfl))) (fun _ _ _ _ _ => cts_nil) (fun _ _ _ _ _ => (ce_tup (ca_cons (cvr 2) (ca_cons (ce_ix ix_seq oc_ix (ce_dget hu (ce_fld (He.cls_ok (c.fact 11 rfl)) (He.noat_ok (c.fact 12 rfl)) (cvr 0) rfl) (cvr 2) (fun _ _ => rfl)) ce_int (fun _ _ => rfl)) (ca_cons (ce_ix ix_seq oc_ix (ce_dget hu (ce_fld (He.cls_ok (c.fact 11 rfl)) (He.noat_ok (c.fact 12 rfl)) (cvr 0) rfl) (cvr 2) (fun _ _ => rfl)) ce_int (fun _ _ => rfl)) ca_nil)))))) (css_one (cs_ret (ce_tup (ca_cons (ce_callTy call_tuple_ofD cc_tuple rfl (He.free_ok KX GX (c.fact 18 rfl)) (by decide +kernel) (ca_cons (ce_lc (own := [("key", 3)]) rfl sc_Table_told.nd (itOf (ce_callB (call_sortedDC rfl) cc_sortedD rfl (He.free_ok KX GX (c.fact 19 rfl)) (by decide +kernel) (ca_cons (ce_fld (He.cls_ok (c.fact 11 rfl)) (He.noat_ok (c.fact 14 rfl)) (cvr 0) rfl) ca_nil))) (blkOk_by (N := N_Table_told) (sc := defScope s_Table_told) (by decide +kernel)) (fun _ _ _ _ _ => (cgv_name (i := 3) (by decide) sc_Table_told.nd rfl (Or.inl rfl))) (fun _ _ _ _ _ => cts_nil) (fun _ _ _ _ _ => (ce_tup (ca_cons (cvr 3) (ca_cons (ce_dget hu (ce_fld (He.cls_ok (c.fact 11 rfl)) (He.noat_ok (c.fact 14 rfl)) (cvr 0) rfl) (cvr 3) (fun _ _ => rfl)) ca_nil))))) ca_nil)) (ca_cons (ce_callTy call_tuple_ofD cc_tuple rfl (He.free_ok KX GX (c.fact 18 rfl)) (by decide +kernel) (ca_cons (cvr 1) ca_nil)) ca_nil))))))
theorem sc_law_same_2 : FnScope N_law_same_2 ["_law_found", "_law_due"] (defScope s_law_same_2) := ⟨rfl, rfl, rfl, by decide +kernel, rfl, by decide +kernel, by decide +kernel⟩
theorem ok_law_same_2 (KX : K.In h0) (GX : h0.Ns mainGlobals mg) (c : SaysE fa fn fb K) : ∃ fd, OkD P w K mg base (cm K) 8 (He.fAd K ("_law_same", none)) fd ["_law_found", "_law_due"] 2 d_law_same_2 ∧ Binds K fd ["_law_found", "_law_due"] [] ∧ PySem.W.keepIn K (.ref (He.fAd K ("_law_same", none))) = true := by

  obtain ⟨fd, F⟩ := c.def_ 15 (d := dd_law_same_2) rfl
  have bS : Binds K fd ["_law_found", "_law_due"] [] := FunD.bindsN F fun _ _ _ _ _ _ us hl => match us, hl with | [_, _], _ => rfl
  have kS : PySem.W.keepIn K (.ref (He.fAd K ("_law_same", none))) = true := F.kp
  have all : ∀ j, OkD P w K mg base (cm K) (0 + j) (He.fAd K ("_law_same", none)) fd ["_law_found", "_law_due"] 2 (dr_law_same_2 j) := fun j => by
    induction j with
    | zero => exact ok_false
    | succ j IH =>
      refine ok_defD (st := s_law_same_2) (N := N_law_same_2) (c := m_law_same_2 (dr_law_same_2 j)) F sc_law_same_2 rfl (fun cdv A outer s H E W hr tk hp => ?_)
      have hu := hu_of hr

      exact (css_cons (cs_if (ct_truth (ce_isi (T := "tuple") (Tx := "tuple") (by decide) rfl (He.free_ok KX GX (c.fact 20 rfl)) rfl (He.free_ok KX GX (c.fact 18 rfl)) (by decide +kernel) (cvr 1)) (by intro _; rfl)) (css_cons (cs_if (PW.pt (cw_or (ct_not (ct_truth (ce_isi (T := "tuple") (Tx := "tuple") (by decide) rfl (He.free_ok KX GX (c.fact 20 rfl)) rfl (He.free_ok KX GX (c.fact 18 rfl)) (by decide +kernel) (cvr 0)) (by intro _; rfl))) (cw_or1 (ct_cmp (op_neC hr.units) oc_ne (ce_callB call_lenC cc_len rfl (He.free_ok KX GX (c.fact 0 rfl)) PySem.boot_len (ca_cons (cvr 0) ca_nil)) (ce_callB call_lenC cc_len rfl (He.free_ok KX GX (c.fact 0 rfl)) PySem.boot_len (ca_cons (cvr 1) ca_nil)) (nomark _))))) (css_one (cs_ret ce_bl)) css_nil) (css_one (cs_ret (ce_callB (cr_all rfl) cc_aa rfl (He.free_ok KX GX (c.fact 24 rfl)) (by decide +kernel) (ca_cons (ce_lc (own := [("_law_k", 2)]) rfl sc_law_same_2.nd (ci_range1 rfl (He.free_ok KX GX (c.fact 4 rfl)) (ca_cons (ce_callB call_lenC cc_len rfl (He.free_ok KX GX (c.fact 0 rfl)) PySem.boot_len (ca_cons (cvr 1) ca_nil)) ca_nil)) (blkOk_by (N := N_law_same_2) (sc := defScope s_law_same_2) (by decide +kernel)) (fun _ _ _ _ _ => (cgv_name (i := 2) (by decide) sc_law_same_2.nd rfl (Or.inl rfl))) (fun _ _ _ _ _ => cts_nil) (fun _ _ _ _ _ => (ce_call IH hr takes0 rfl (He.glo_ok KX GX (c.fact 23 rfl)) kS bS (ca_cons (ce_ix ix_seq oc_ix (cvr 0) (cvr 2) (fun _ _ => rfl)) (ca_cons (ce_ix ix_seq oc_ix (cvr 1) (cvr 2) (fun _ _ => rfl)) ca_nil))))) ca_nil))))) css_nil) (css_cons (cs_if (ct_cmp op_isN oc_isN (cvr 1) ce_non (nomark _)) (css_one (cs_ret (ce_cmp op_isN oc_isN (cvr 0) ce_non (nomark _)))) css_nil) (css_cons (cs_if (ct_truth (ce_isi (T := "str") (Tx := "str") (by decide) rfl (He.free_ok KX GX (c.fact 20 rfl)) rfl (He.free_ok KX GX (c.fact 22 rfl)) (by decide +kernel) (cvr 1)) (by intro _; rfl)) (css_one (cs_ret (ce_and (ce_isi (T := "str") (Tx := "str") (by decide) rfl (He.free_ok KX GX (c.fact 20 rfl)) rfl (He.free_ok KX GX (c.fact 22 rfl)) (by decide +kernel) (cvr 0)) (ce_one (ce_cmp (op_eqC hr.units) oc_eq (cvr 0) (cvr 1) (nomark _)))))) css_nil) (css_one (cs_ret (ce_and (ce_isi (T := "int") (Tx := "int") (by decide) rfl (He.free_ok KX GX (c.fact 20 rfl)) rfl (He.free_ok KX GX (c.fact 5 rfl)) (by decide +kernel) (cvr 0)) (ce_and (ce_not (ce_isi (T := "bool") (Tx := "bool") (by decide) rfl (He.free_ok KX GX (c.fact 20 rfl)) rfl (He.free_ok KX GX (c.fact 21 rfl)) (by decide +kernel) (cvr 0))) (ce_one (ce_cmp (op_eqC hr.units) oc_eq (cvr 0) (cvr 1) (nomark _))))))))))
  exact ⟨fd, all 8, bS, kS⟩
theorem sc_law_right_8 : FnScope N_law_right_8 ["_law_asks_here", "_law_order", "_law_told", "_law_answers"] (defScope s_law_right_8) := ⟨rfl, rfl, rfl, by decide +kernel, rfl, by decide +kernel, by decide +kernel⟩
theorem ok_law_right_8 (KX : K.In h0) (GX : h0.Ns mainGlobals mg) (c : SaysE fa fn fb K) : ∃ fd, OkD P w K mg base (cm K) 9 (He.fAd K ("_law_right", none)) fd ["_law_asks_here", "_law_order", "_law_told", "_law_answers"] 4 d_law_right_8 ∧ Binds K fd ["_law_asks_here", "_law_order", "_law_told", "_law_answers"] [] ∧ PySem.W.keepIn K (.ref (He.fAd K ("_law_right", none))) = true := by
  obtain ⟨fd_law_same_2, G_law_same_2, b_law_same_2, k_law_same_2⟩ := ok_law_same_2 (P := P) (w := w) (base := base) KX GX c
  obtain ⟨fd, F⟩ := c.def_ 16 (d := dd_law_right_8) rfl
  refine ⟨fd, ok_defD (st := s_law_right_8) (N := N_law_right_8) (c := m_law_right_8) F sc_law_right_8 rfl (fun cdv A outer s H E W hr tk hp => ?_), FunD.bindsN F fun _ _ _ _ _ _ us hl => match us, hl with | [_, _, _, _], _ => rfl, F.kp⟩
  · have hu := hu_of hr
    have hr8 := hr.mono (show 8 ≤ 8 by decide)
    exact (css_cons (cs_set (i := 10) sc_law_right_8.nd rfl (Or.inl rfl) ce_dnew) (css_cons (cs_set (i := 8) sc_law_right_8.nd rfl (Or.inl rfl) ce_dnew) (css_cons (cs_for hp rfl (ci_zip rfl (He.free_ok KX GX (c.fact 25 rfl)) (ca_cons (cvr 1) (ca_cons (cvr 2) ca_nil))) (cg_tup rfl (cgs_cons (cg_name (i := 7) sc_law_right_8.nd rfl (Or.inl rfl)) (cgs_cons (cg_name (i := 6) sc_law_right_8.nd rfl (Or.inl rfl)) cgs_nil))) (css_cons (cs_asg (ce_ix ix_seq oc_ix (cvr 0) (cvr 7) (fun _ _ => rfl)) (cg_tup rfl (cgs_cons (cg_name (i := 4) sc_law_right_8.nd rfl (Or.inl rfl)) (cgs_cons (cg_name (i := 9) sc_law_right_8.nd rfl (Or.inl rfl)) (cgs_cons (cg_name (i := 11) sc_law_right_8.nd rfl (Or.inl rfl)) cgs_nil))))) (css_cons (cs_set (i := 5) sc_law_right_8.nd rfl (Or.inl rfl) (ce_tup (ca_cons ce_str (ca_cons ce_non ca_nil)))) (css_cons (cs_if (ct_cmp (op_dnotin hu) oc_dnotin (cvr 7) (cvr 10) (by with_unfolding_all rfl)) (css_one (cs_set (i := 5) sc_law_right_8.nd rfl (Or.inl rfl) (ce_ix ix_seq oc_ix (cvr 3) (cvr 7) (fun _ _ => rfl)))) (css_one (cs_if (ct_cmp (op_eqC hr.units) oc_eq (ce_dget hu (cvr 8) (cvr 4) (fun _ _ => rfl)) (cvr 9) (nomark _)) (css_one (cs_set (i := 5) sc_law_right_8.nd rfl (Or.inl rfl) (ce_tup (ca_cons ce_str (ca_cons (ce_ix ix_seq oc_ix (ce_ix ix_seq oc_ix (cvr 3) (cvr 7) (fun _ _ => rfl)) ce_int (fun _ _ => rfl)) ca_nil))))) css_nil))) (css_cons (cs_dput hu (cvr 10) (cvr 7) ce_bl rfl) (css_cons (cs_dput hu (cvr 8) (cvr 4) (ce_callB (call_max2 rfl) cc_max2 rfl (He.free_ok KX GX (c.fact 26 rfl)) (by decide +kernel) (ca_cons (cvr 9) (ca_cons (ce_dget2 hu (cvr 8) (cvr 4) ce_int ⟨rfl, rfl, rfl, rfl⟩) ca_nil))) rfl) (css_one (cs_if (ct_not (ct_truth (ce_call G_law_same_2 hr8 tk rfl (He.glo_ok KX GX (c.fact 23 rfl)) k_law_same_2 b_law_same_2 (ca_cons (cvr 6) (ca_cons (cvr 5) ca_nil))) (by intro _; rfl))) (css_one (cs_ret ce_bl)) css_nil)))))))) (css_one (cs_ret ce_bl)))))
theorem sc_law_k05 : FnScope N_law_k05 ["_law_script"] (defScope s_law_k05) := ⟨rfl, rfl, rfl, by decide +kernel, rfl, by decide +kernel, by decide +kernel⟩

theorem okA_law (KX : K.In h0) (GX : h0.Ns mainGlobals mg) (c : SaysE fa fn fb K) : ∃ fd, (∀ (s : Shared) (u : Value), BindsTo s fd ⟨[u], []⟩ [("_law_script", u)]) ∧ ∀ base : Heap, OkD P w K mg base (cm K) 10 (He.fAd K ("law", none)) fd ["_law_script"] 1 d_law_k05 := by
  obtain ⟨fd, F⟩ := c.def_ 17 (d := dd_law_k05) rfl
  refine ⟨fd, fun s u => FunD.bindsA (ps := ["_law_script"]) F (fun _ _ _ _ _ _ us hl => match us, hl with | [_], _ => rfl) s [u] rfl, fun base => ?_⟩
  obtain ⟨fd_law_cell_at, G_law_cell_at, b_law_cell_at, k_law_cell_at⟩ := ok_law_cell_at (P := P) (w := w) (base := base) KX GX c
  obtain ⟨fd_law_names_3, G_law_names_3, b_law_names_3, k_law_names_3⟩ := ok_law_names_3 (P := P) (w := w) (base := base) KX GX c
  obtain ⟨fd_law_asks_2, G_law_asks_2, b_law_asks_2, k_law_asks_2⟩ := ok_law_asks_2 (P := P) (w := w) (base := base) KX GX c
  obtain ⟨fd_Table___init__, G_Table___init__, b_Table___init__, k_Table___init__⟩ := ok_Table___init__ (P := P) (w := w) (base := base) KX GX c
  obtain ⟨fd_law_done_2, G_law_done_2, b_law_done_2, k_law_done_2⟩ := ok_law_done_2 (P := P) (w := w) (base := base) KX GX c
  obtain ⟨fd_law_doubled, G_law_doubled, b_law_doubled, k_law_doubled⟩ := ok_law_doubled (P := P) (w := w) (base := base) KX GX c
  obtain ⟨fd_Table_told, G_Table_told, b_Table_told, k_Table_told⟩ := ok_Table_told (P := P) (w := w) (base := base) KX GX c
  obtain ⟨fd_law_same_2, G_law_same_2, b_law_same_2, k_law_same_2⟩ := ok_law_same_2 (P := P) (w := w) (base := base) KX GX c
  obtain ⟨fd_law_right_8, G_law_right_8, b_law_right_8, k_law_right_8⟩ := ok_law_right_8 (P := P) (w := w) (base := base) KX GX c

  refine ok_defD (st := s_law_k05) (N := N_law_k05) (c := m_law_k05) F sc_law_k05 rfl (fun cdv A outer s H E W hr tk hp => ?_)
  · have hu := hu_of hr
    have hr1 := hr.mono (show 1 ≤ 9 by decide)
    have hr2 := hr.mono (show 2 ≤ 9 by decide)
    have hr3 := hr.mono (show 3 ≤ 9 by decide)
    have hr4 := hr.mono (show 4 ≤ 9 by decide)
    have hr8 := hr.mono (show 8 ≤ 9 by decide)
    have hr9 := hr.mono (show 9 ≤ 9 by decide)
    exact (css_cons (cs_set (i := 7) sc_law_k05.nd rfl (Or.inl rfl) (ce_call G_law_names_3 hr4 tk rfl (He.glo_ok KX GX (c.fact 34 rfl)) k_law_names_3 b_law_names_3 (ca_cons (cvr 0) (ca_cons ce_int (ca_cons (ce_op op_addC oc_add ce_int (ce_op op_mod oc_Ic (ce_call G_law_cell_at hr1 tk rfl (He.glo_ok KX GX (c.fact 3 rfl)) k_law_cell_at b_law_cell_at (ca_cons (cvr 0) (ca_cons ce_int ca_nil))) ce_int)) ca_nil))))) (css_cons (cs_set (i := 3) sc_law_k05.nd rfl (Or.inl rfl) (ce_call G_law_names_3 hr4 tk rfl (He.glo_ok KX GX (c.fact 34 rfl)) k_law_names_3 b_law_names_3 (ca_cons (cvr 0) (ca_cons ce_int (ca_cons (ce_op op_addC oc_add ce_int (ce_op op_mod oc_Ic (ce_op op_fdivW oc_Ic (ce_call G_law_cell_at hr1 tk rfl (He.glo_ok KX GX (c.fact 3 rfl)) k_law_cell_at b_law_cell_at (ca_cons (cvr 0) (ca_cons ce_int ca_nil))) ce_int) ce_int)) ca_nil))))) (css_cons (cs_set (i := 4) sc_law_k05.nd rfl (Or.inr rfl) (ce_call G_law_asks_2 hr4 tk rfl (He.glo_ok KX GX (c.fact 33 rfl)) k_law_asks_2 b_law_asks_2 (ca_cons (cvr 0) (ca_cons (cvr 7) (ca_cons (cvr 3) ca_nil))))) (css_cons (cs_set (i := 11) sc_law_k05.nd rfl (Or.inl rfl) (ce_makeD (He.mkr_ok (c.fact 30 rfl)) G_Table___init__ hr2 tk rfl (He.glo_ok KX GX (c.fact 29 rfl)) b_Table___init__ (ca_cons (ce_tup ca_nil) (ca_cons (ce_tup ca_nil) ca_nil)))) (css_cons (cs_set (i := 1) sc_law_k05.nd rfl (Or.inl rfl) (ce_call G_law_done_2 hr3 tk rfl (He.glo_ok KX GX (c.fact 28 rfl)) k_law_done_2 b_law_done_2 (ca_cons (cvr 11) (ca_cons (cvr 4) ca_nil)))) (css_cons (cs_if (ct_cmp (op_neC hr.units) oc_ne (ce_lc (own := [("_law_one", 14)]) rfl sc_law_k05.nd (itOf (cvr 1)) (blkOk_by (N := N_law_k05) (sc := defScope s_law_k05) (by decide +kernel)) (fun _ _ _ _ _ => (cgv_name (i := 14) (by decide) sc_law_k05.nd rfl (Or.inl rfl))) (fun _ _ _ _ _ => (cts_one (ct_cmp (op_neC hr.units) oc_ne (ce_ix ix_seq oc_ix (cvr 14) ce_int (fun _ _ => rfl)) ce_str (nomark _)))) (fun _ _ _ _ _ => (cvr 14))) (ce_lv ca_nil) (nomark _)) (css_one (cs_ret ce_bl)) css_nil) (css_cons (cs_set (i := 9) sc_law_k05.nd rfl (Or.inl rfl) (ce_call G_law_doubled hr4 tk rfl (He.glo_ok KX GX (c.fact 32 rfl)) k_law_doubled b_law_doubled (ca_cons (cvr 0) (ca_cons (cvr 4) ca_nil)))) (css_cons (cs_set (i := 10) sc_law_k05.nd rfl (Or.inl rfl) (ce_makeD (He.mkr_ok (c.fact 30 rfl)) G_Table___init__ hr2 tk rfl (He.glo_ok KX GX (c.fact 29 rfl)) b_Table___init__ (ca_cons (ce_tup ca_nil) (ca_cons (ce_tup ca_nil) ca_nil)))) (css_cons (cs_set (i := 12) sc_law_k05.nd rfl (Or.inl rfl) (ce_call G_law_done_2 hr3 tk rfl (He.glo_ok KX GX (c.fact 28 rfl)) k_law_done_2 b_law_done_2 (ca_cons (cvr 10) (ca_cons (ce_lc (own := [("_law_k", 13)]) rfl sc_law_k05.nd (itOf (cvr 9)) (blkOk_by (N := N_law_k05) (sc := defScope s_law_k05) (by decide +kernel)) (fun _ _ _ _ _ => (cgv_name (i := 13) (by decide) sc_law_k05.nd rfl (Or.inl rfl))) (fun _ _ _ _ _ => cts_nil) (fun _ _ _ _ _ => (ce_ix ix_seq oc_ix (cvr 4) (cvr 13) (fun _ _ => rfl)))) ca_nil)))) (css_cons (cs_if (PW.pt (cw_or (ct_not (ct_truth (ce_call G_law_right_8 hr9 tk rfl (He.glo_ok KX GX (c.fact 31 rfl)) k_law_right_8 b_law_right_8 (ca_cons (cvr 4) (ca_cons (cvr 9) (ca_cons (cvr 12) (ca_cons (cvr 1) ca_nil))))) (by intro _; rfl))) (cw_or1 (ct_not (ct_truth (ce_call G_law_same_2 hr8 tk rfl (He.glo_ok KX GX (c.fact 23 rfl)) k_law_same_2 b_law_same_2 (ca_cons (ce_meth0 G_Table_told hr1 tk (He.cls_ok (c.fact 11 rfl)) (He.meth_ok (c.fact 27 rfl)) b_Table_told (cvr 10)) (ca_cons (ce_meth0 G_Table_told hr1 tk (He.cls_ok (c.fact 11 rfl)) (He.meth_ok (c.fact 27 rfl)) b_Table_told (cvr 11)) ca_nil))) (by intro _; rfl)))))) (css_one (cs_ret ce_bl)) css_nil) (css_cons (cs_set (i := 5) sc_law_k05.nd rfl (Or.inl rfl) (ce_makeD (He.mkr_ok (c.fact 30 rfl)) G_Table___init__ hr2 tk rfl (He.glo_ok KX GX (c.fact 29 rfl)) b_Table___init__ (ca_cons (ce_tup ca_nil) (ca_cons (ce_tup ca_nil) ca_nil)))) (css_cons (cs_expr (ce_call G_law_done_2 hr3 tk rfl (He.glo_ok KX GX (c.fact 28 rfl)) k_law_done_2 b_law_done_2 (ca_cons (cvr 5) (ca_cons (ce_slice sl_all sc_slice (cvr 4) co_none (co_some (ce_op op_fdivW oc_Ic (ce_callB call_lenC cc_len rfl (He.free_ok KX GX (c.fact 0 rfl)) PySem.boot_len (ca_cons (cvr 4) ca_nil)) ce_int))) ca_nil)))) (css_cons (cs_asg (ce_meth0 G_Table_told hr1 tk (He.cls_ok (c.fact 11 rfl)) (He.meth_ok (c.fact 27 rfl)) b_Table_told (cvr 5)) (cg_tup rfl (cgs_cons (cg_name (i := 6) sc_law_k05.nd rfl (Or.inl rfl)) (cgs_cons (cg_name (i := 2) sc_law_k05.nd rfl (Or.inl rfl)) cgs_nil)))) (css_cons (cs_set (i := 8) sc_law_k05.nd rfl (Or.inl rfl) (ce_makeD (He.mkr_ok (c.fact 30 rfl)) G_Table___init__ hr2 tk rfl (He.glo_ok KX GX (c.fact 29 rfl)) b_Table___init__ (ca_cons (cvr 6) (ca_cons (cvr 2) ca_nil)))) (css_cons (cs_if (ct_cmp (op_neC hr.units) oc_ne (ce_call G_law_done_2 hr3 tk rfl (He.glo_ok KX GX (c.fact 28 rfl)) k_law_done_2 b_law_done_2 (ca_cons (cvr 8) (ca_cons (ce_slice sl_all sc_slice (cvr 4) (co_some (ce_op op_fdivW oc_Ic (ce_callB call_lenC cc_len rfl (He.free_ok KX GX (c.fact 0 rfl)) PySem.boot_len (ca_cons (cvr 4) ca_nil)) ce_int)) co_none) ca_nil))) (ce_slice sl_all sc_slice (cvr 1) (co_some (ce_op op_fdivW oc_Ic (ce_callB call_lenC cc_len rfl (He.free_ok KX GX (c.fact 0 rfl)) PySem.boot_len (ca_cons (cvr 4) ca_nil)) ce_int)) co_none) (nomark _)) (css_one (cs_ret ce_bl)) css_nil) (css_one (cs_ret (ce_call G_law_same_2 hr8 tk rfl (He.glo_ok KX GX (c.fact 23 rfl)) k_law_same_2 b_law_same_2 (ca_cons (ce_meth0 G_Table_told hr1 tk (He.cls_ok (c.fact 11 rfl)) (He.meth_ok (c.fact 27 rfl)) b_Table_told (cvr 8)) (ca_cons (ce_meth0 G_Table_told hr1 tk (He.cls_ok (c.fact 11 rfl)) (He.meth_ok (c.fact 27 rfl)) b_Table_told (cvr 11)) ca_nil))))))))))))))))))))
end
abbrev R : PySem.W.OpenRow := PySem.W.OpenLaw.row PySem.Challenge.rw_chainhouse_k05_whole_again_changes_nothi
abbrev hk : PySem.W.Hook := hookE 4 fa fn fb
def ob (s : PySem.W.SharedT) : AlE := obsEG 4 fa fn fb (HandSHeadRun.getT s)
theorem ob_eq (s : PySem.W.SharedT) : ob s = hk.obs s.abs := obsEG_eq (HandSHeadRun.getT_eq s)
def loose : List Str := (["_wall", "Table", "_law_cell_at", "_law_next", "_law_other", "_law_number", "_law_digits", "_law_names", "_law_wide", "_law_work", "_law_same", "_law_asks", "_law_done", "_law_doubled", "_law_right"] : List Str)
theorem run (w : World) : HandSHeadRun.RunEq R (PySem.W.view R.prog [17]) hk ob 8000 loose w := by
  intro os
  kernel_rfl
end Lw
open PySem PySem.W PySem.Calls PyProof.Rows
theorem Lw.ends (math : ∀ ns : List Int, ns.length ≤ 63 → Lw.d_law_k05 [.fz (ns.map .int)] (fun _ => none) (fun v _ => v = .bl true) (fun _ _ => False)) : PySem.Challenge.rw_chainhouse_k05_whole_again_changes_nothi.Holds := by
  w_on; o_law
  refine HandSHeadRun.head_any (r := OpenLaw.row PySem.Challenge.rw_chainhouse_k05_whole_again_changes_nothi) (q := view (OpenLaw.row PySem.Challenge.rw_chainhouse_k05_whole_again_changes_nothi).prog [17]) (H := Lw.hk) (ob := Lw.ob) (M := 8000) (loose := Lw.loose) (d := HandSHeadRun.topDef (OpenLaw.row PySem.Challenge.rw_chainhouse_k05_whole_again_changes_nothi).prog 17) (kwd := []) Lw.ob_eq
    (by kernel_rfl) (fun s => by kernel_rfl) Lw.run (by kernel_rfl) (by kernel_rfl) (by kernel_rfl) (by rfl) (by first | assumption | decide +kernel) (by decide +kernel) ⟨rfl, rfl, rfl, rfl, rfl, by decide +kernel⟩ ?hw ?hc
  case hw => w_witness2
  case hc =>
    refine L2.walk_ofE (l := PySem.Challenge.rw_chainhouse_k05_whole_again_changes_nothi) (n := 63) (k := 10) (x := "_law_script") (CX := L2.CX0) rfl (by decide) (by kernel_rfl) ⟨rfl, by decide, by decide⟩ ?F (fun _ _ _ _ z => z)
    intro w mg fa h Y G hmg0
    obtain ⟨K, KX, c⟩ := Y
    have hmg : mg ("law" : PySem.Str) = some (.ref fa) := by
      have e : (HandSHeadRun.topDef (OpenLaw.row PySem.Challenge.rw_chainhouse_k05_whole_again_changes_nothi).prog 17).name = ("law" : PySem.Str) := by kernel_rfl
      rw [← e]
      exact hmg0
    have e := hmg.symm.trans (He.glo_ok KX G (c.fact 35 (f := .glo "law") rfl))
    cases e
    obtain ⟨fd, hb, F⟩ := Lw.okA_law (P := (PySem.Challenge.rw_chainhouse_k05_whole_again_changes_nothi).prog) (w := w) KX G c
    exact ⟨K, fd, fun vs H Q _ => Co.spOf K (Lw.cm K) 1 Lw.d_law_k05 vs H Q L2.E0, KX, hb, fun H a ns hl hO hS => Co.law_sp hS hO (math ns hl), fun base _ _ => Co.ok_quiet (F base)⟩
end
theorem PySem.Challenge.cw_chainhouse_k05_whole_again_changes_nothi_holds : PySem.Challenge.rw_chainhouse_k05_whole_again_changes_nothi.Holds := by
  exact Lw.ends fun ns hn => Lw.p_law_k05 hn
